import PyProof.Rows.All
import Wide.All
import OpenK.AllK
import Wide.FinOn
import HandS.ForMost
import HandS.ForExc
import HandS.Walk
import HandS.IsInst
import HandS.NoneIn
import KE.GoesZip
import KE.GoesMore
import HandS.Comp
import KE.GoesRaise
import HandS.Dict
import HandS.TryElse
import HandS.WordsExc
import HandS.ExcOwn
import HandS.Defaults
import PySem.Challenge.RW_toll_k19_whole_bodies_walked
set_option Elab.async false
set_option linter.all false
set_option maxRecDepth 100000
set_option maxHeartbeats 4000000
/-! Fw1: abstract values, the abstract heap, its relation to HandS's heap, the readings tM, tMT, tMA, tMS. -/
namespace Wk
open PySem PySem.Spec PyProof.Rows L2

/-- what a seq is: a tuple, a list that nobody writes any more, the script -/
inductive SK where
  | tup | lst | ro
  deriving DecidableEq
/-- abstract values -/
inductive U where
  | non | bl (b : Bool) | int (i : Int) | str (x : Str) | seq (k : SK) (us : List U) | obj (i : Nat)
/-- mutable objects -/
inductive MO where
  | lst (us : List U)
  | dct (kvs : List (Str × U))
  | ins (fs : List (Str × U))
abbrev AH := List MO
abbrev Loc := List (Option U)
inductive Out (α : Type) where
  | ok (a : α) (h : AH)
  | cut (h : AH)
  | bad
def Out.bind {α β : Type} (o : Out α) (f : α → AH → Out β) : Out β :=
  match o with
  | .ok a h => f a h
  | .cut h => .cut h
  | .bad => .bad
@[simp] theorem Out.bind_ok {α β : Type} (a : α) (h : AH) (f : α → AH → Out β) : (Out.ok a h).bind f = f a h := rfl
@[simp] theorem Out.bind_cut {α β : Type} (h : AH) (f : α → AH → Out β) : (Out.cut h : Out α).bind f = .cut h := rfl
@[simp] theorem Out.bind_bad {α β : Type} (f : α → AH → Out β) : (Out.bad : Out α).bind f = .bad := rfl
abbrev ME := Loc → AH → Out U
abbrev MT := Loc → AH → Out Bool
abbrev MA := Loc → AH → Out (List U)
inductive OutS where
  | nx (l : Loc) (h : AH)
  | rt (u : U) (h : AH)
  | bk (l : Loc) (h : AH)
  | ct (l : Loc) (h : AH)
  | cut (l : Loc) (h : AH)
  | bad
abbrev MS := Loc → AH → OutS

/-- what stands fixed: the written part, the class Log, the class Cut -/
structure Gd where
  K : PySem.W.Frag
  CL : Addr
  CC : Addr
  /-- no value of ours points here (a comprehension's list while it grows) -/
  ex : List Addr

/-! ### the relation -/
def SQ (g : Gd) (r : List Addr) (H : Hp) (k : SK) (a : Addr) (vs : List V) : Prop :=
  match k with
  | .tup => (Rd H a (.tup vs) ∧ a ∉ r ∧ a ∉ g.ex) ∨ (∃ (o : Obj) (its : Array Value) (n : Nat), g.K.lookup a = some o ∧ o.cls = .type "tuple" ∧ o.data = .seq its n ∧ its.size ≤ sizeLine ∧ Vals vs its.toList)
  | .lst => H a = some (.lst vs) ∧ a ∉ r ∧ a ∉ g.ex
  | .ro => ((∃ o, H a = some (.frz o (.lst vs))) ∧ a ∉ r ∧ a ∉ g.ex) ∨ (∃ (o : Obj) (its : Array Value) (n : Nat), g.K.lookup a = some o ∧ o.cls = .type "list" ∧ o.dict = none ∧ o.data = .seq its n ∧ its.size ≤ sizeLine ∧ Vals vs its.toList)
mutual
def DV (g : Gd) (r : List Addr) (H : Hp) : U → V → Prop
  | .non, v => v = .non
  | .bl b, v => v = .bl b
  | .int i, v => v = .int i
  | .str x, v => v = .str x
  | .seq k us, v => ∃ a vs, v = .ref a ∧ SQ g r H k a vs ∧ DVs g r H us vs
  | .obj i, v => ∃ a, v = .ref a ∧ r[i]? = some a
def DVs (g : Gd) (r : List Addr) (H : Hp) : List U → List V → Prop
  | [], vs => vs = []
  | u :: us, vs => ∃ v ws, vs = v :: ws ∧ DV g r H u v ∧ DVs g r H us ws
end
/-- a dict's value by its text -/
def look (kvs : List (Str × U)) (k : Str) : Option U := (kvs.find? fun p => decide (p.1 = k)).map (·.2)
def MOk (g : Gd) (r : List Addr) (H : Hp) (a : Addr) : MO → Prop
  | .lst us => ∃ vs, H a = some (.lst vs) ∧ DVs g r H us vs
  | .dct kvs => ∃ kws : List (Key × V), H a = some (.dK kws) ∧ kws.length ≤ kvs.length ∧ ∀ k u, look kvs k = some u → ∃ v, valV kws (Sum.inr k : Key) = some v ∧ DV g r H u v
  | .ins fs => ∃ (dx : Addr) (vs : List V), H a = some (.ins g.CL dx ((fs.map (·.1)).zip vs)) ∧ DVs g r H (fs.map (·.2)) vs
structure Wd (g : Gd) (r : List Addr) (H : Hp) (h : AH) : Prop where
  nd : r.Nodup
  len : r.length = h.length
  ok : ∀ (i : Nat) o, h[i]? = some o → ∃ a, r[i]? = some a ∧ MOk g r H a o
  exs : ∀ a ∈ g.ex, (∃ o, H a = some o) ∧ a ∉ r
structure LOk (g : Gd) (r : List Addr) (H : Hp) (ls : Loc) (σ : L2.St) : Prop where
  len : ls.length = σ.length
  at_ : ∀ (i : Nat) u, ls[i]? = some (some u) → ∃ v, σ[i]? = some (some v) ∧ DV g r H u v
structure Ext (r : List Addr) (H : Hp) (r' : List Addr) (H' : Hp) : Prop where
  pre : ∃ nw, r' = r ++ nw ∧ ∀ a ∈ nw, H a = none
  keep : ∀ a o, a ∉ r → H a = some o → H' a = some o
  dom : ∀ a o, H a = some o → ∃ o', H' a = some o'

theorem Ext.refl {r : List Addr} {H : Hp} : Ext r H r H := ⟨⟨[], by simp, by simp⟩, fun _ _ _ e => e, fun _ o e => ⟨o, e⟩⟩
theorem Ext.notin {r r' : List Addr} {H H' : Hp} (e : Ext r H r' H') {a : Addr} {o : HO} (h : a ∉ r) (q : H a = some o) : a ∉ r' := by
  obtain ⟨nw, rfl, hf⟩ := e.pre
  intro hm
  rcases List.mem_append.mp hm with z | z
  · exact h z
  · rw [hf a z] at q; cases q
theorem Ext.trans {r r1 r2 : List Addr} {H H1 H2 : Hp} (a : Ext r H r1 H1) (b : Ext r1 H1 r2 H2) : Ext r H r2 H2 := by
  obtain ⟨n1, e1, f1⟩ := a.pre
  obtain ⟨n2, e2, f2⟩ := b.pre
  refine ⟨⟨n1 ++ n2, by rw [e2, e1, List.append_assoc], fun x hx => ?_⟩, fun x o hx q => b.keep x o (a.notin hx q) (a.keep x o hx q), fun x o q => ?_⟩
  · rcases List.mem_append.mp hx with z | z
    · exact f1 x z
    · cases q : H x with
      | none => rfl
      | some o =>
        obtain ⟨o', w⟩ := a.dom x o q
        rw [f2 x z] at w; cases w
  · obtain ⟨o', w⟩ := a.dom x o q
    exact b.dom x o' w
theorem Ext.get {r r' : List Addr} {H H' : Hp} (e : Ext r H r' H') {i : Nat} {a : Addr} (q : r[i]? = some a) : r'[i]? = some a := by
  obtain ⟨nw, rfl, _⟩ := e.pre
  have hi : i < r.length := (List.getElem?_eq_some_iff.mp q).1
  rw [List.getElem?_append_left hi]
  exact q
theorem SQ.ext {g : Gd} {r r' : List Addr} {H H' : Hp} {k : SK} {a : Addr} {vs : List V} (e : Ext r H r' H') (h : SQ g r H k a vs) : SQ g r' H' k a vs := by
  cases k with
  | tup =>
    rcases h with ⟨h, ha, hx⟩ | h
    · rcases h with h | ⟨o, h⟩
      · exact .inl ⟨.inl (e.keep a _ ha h), e.notin ha h, hx⟩
      · exact .inl ⟨.inr ⟨o, e.keep a _ ha h⟩, e.notin ha h, hx⟩
    · exact .inr h
  | lst =>
    obtain ⟨h, ha, hx⟩ := h
    exact ⟨e.keep a _ ha h, e.notin ha h, hx⟩
  | ro =>
    rcases h with ⟨⟨o, h⟩, ha, hx⟩ | h
    · exact .inl ⟨⟨o, e.keep a _ ha h⟩, e.notin ha h, hx⟩
    · exact .inr h
mutual
theorem DV.ext {g : Gd} {r r' : List Addr} {H H' : Hp} (e : Ext r H r' H') : ∀ (u : U) (v : V), DV g r H u v → DV g r' H' u v
  | .non, v, h => by simpa [DV] using h
  | .bl b, v, h => by simpa [DV] using h
  | .int i, v, h => by simpa [DV] using h
  | .str x, v, h => by simpa [DV] using h
  | .seq k us, v, h => by
    simp only [DV] at h ⊢
    obtain ⟨a, vs, h1, h2, h3⟩ := h
    exact ⟨a, vs, h1, h2.ext e, DVs.ext e us vs h3⟩
  | .obj i, v, h => by
    simp only [DV] at h ⊢
    obtain ⟨a, h1, h2⟩ := h
    exact ⟨a, h1, e.get h2⟩
theorem DVs.ext {g : Gd} {r r' : List Addr} {H H' : Hp} (e : Ext r H r' H') : ∀ (us : List U) (vs : List V), DVs g r H us vs → DVs g r' H' us vs
  | [], vs, h => by simpa [DVs] using h
  | u :: us, vs, h => by
    simp only [DVs] at h ⊢
    obtain ⟨v, ws, h1, h2, h3⟩ := h
    exact ⟨v, ws, h1, DV.ext e u v h2, DVs.ext e us ws h3⟩
end
theorem LOk.ext {g : Gd} {r r' : List Addr} {H H' : Hp} {ls : Loc} {σ : L2.St} (e : Ext r H r' H') (h : LOk g r H ls σ) : LOk g r' H' ls σ :=
  ⟨h.len, fun i u q => let ⟨v, h1, h2⟩ := h.at_ i u q; ⟨v, h1, DV.ext e u v h2⟩⟩

/-- more places left out, all of them new -/
structure ExtG (g : Gd) (r : List Addr) (H : Hp) (g' : Gd) (r' : List Addr) (H' : Hp) : Prop where
  ext : Ext r H r' H'
  K : g'.K = g.K
  CL : g'.CL = g.CL
  CC : g'.CC = g.CC
  ex : ∀ a ∈ g'.ex, a ∈ g.ex ∨ H a = none
theorem ExtG.of {g : Gd} {r r' : List Addr} {H H' : Hp} (e : Ext r H r' H') : ExtG g r H g r' H' := ⟨e, rfl, rfl, rfl, fun _ h => .inl h⟩
theorem SQ.extG {g g' : Gd} {r r' : List Addr} {H H' : Hp} {k : SK} {a : Addr} {vs : List V} (e : ExtG g r H g' r' H') (h : SQ g r H k a vs) : SQ g' r' H' k a vs := by
  have hx : ∀ o, H a = some o → a ∉ g.ex → a ∉ g'.ex := fun o q n hm => by
    rcases e.ex a hm with z | z
    · exact n z
    · rw [z] at q; cases q
  cases k with
  | tup =>
    rcases h with ⟨h, ha, hx'⟩ | h
    · rcases h with h | ⟨o, h⟩
      · exact .inl ⟨.inl (e.ext.keep a _ ha h), e.ext.notin ha h, hx _ h hx'⟩
      · exact .inl ⟨.inr ⟨o, e.ext.keep a _ ha h⟩, e.ext.notin ha h, hx _ h hx'⟩
    · rw [← e.K] at h; exact .inr h
  | lst =>
    obtain ⟨h, ha, hx'⟩ := h
    exact ⟨e.ext.keep a _ ha h, e.ext.notin ha h, hx _ h hx'⟩
  | ro =>
    rcases h with ⟨⟨o, h⟩, ha, hx'⟩ | h
    · exact .inl ⟨⟨o, e.ext.keep a _ ha h⟩, e.ext.notin ha h, hx _ h hx'⟩
    · rw [← e.K] at h; exact .inr h
mutual
theorem DV.extG {g g' : Gd} {r r' : List Addr} {H H' : Hp} (e : ExtG g r H g' r' H') : ∀ (u : U) (v : V), DV g r H u v → DV g' r' H' u v
  | .non, v, h => by simpa [DV] using h
  | .bl b, v, h => by simpa [DV] using h
  | .int i, v, h => by simpa [DV] using h
  | .str x, v, h => by simpa [DV] using h
  | .seq k us, v, h => by
    simp only [DV] at h ⊢
    obtain ⟨a, vs, h1, h2, h3⟩ := h
    exact ⟨a, vs, h1, h2.extG e, DVs.extG e us vs h3⟩
  | .obj i, v, h => by
    simp only [DV] at h ⊢
    obtain ⟨a, h1, h2⟩ := h
    exact ⟨a, h1, e.ext.get h2⟩
theorem DVs.extG {g g' : Gd} {r r' : List Addr} {H H' : Hp} (e : ExtG g r H g' r' H') : ∀ (us : List U) (vs : List V), DVs g r H us vs → DVs g' r' H' us vs
  | [], vs, h => by simpa [DVs] using h
  | u :: us, vs, h => by
    simp only [DVs] at h ⊢
    obtain ⟨v, ws, h1, h2, h3⟩ := h
    exact ⟨v, ws, h1, DV.extG e u v h2, DVs.extG e us ws h3⟩
end
theorem LOk.extG {g g' : Gd} {r r' : List Addr} {H H' : Hp} {ls : Loc} {σ : L2.St} (e : ExtG g r H g' r' H') (h : LOk g r H ls σ) : LOk g' r' H' ls σ :=
  ⟨h.len, fun i u q => let ⟨v, h1, h2⟩ := h.at_ i u q; ⟨v, h1, DV.extG e u v h2⟩⟩
theorem ExtG.trans {g g1 g2 : Gd} {r r1 r2 : List Addr} {H H1 H2 : Hp} (a : ExtG g r H g1 r1 H1) (b : ExtG g1 r1 H1 g2 r2 H2) : ExtG g r H g2 r2 H2 := by
  refine ⟨a.ext.trans b.ext, b.K.trans a.K, b.CL.trans a.CL, b.CC.trans a.CC, fun x hx => ?_⟩
  rcases b.ex x hx with z | z
  · exact a.ex x z
  · right
    cases q : H x with
    | none => rfl
    | some o =>
      obtain ⟨o', w⟩ := a.ext.dom x o q
      rw [z] at w; cases w
/-! ### readings -/
abbrev WE' := L2.St → XK
/-- what is owed at an outcome -/
def Po {α β : Type} (g : Gd) (E : XK) (R : List Addr → Hp → α → β → Prop) (r : List Addr) (H : Hp) (Q : β → Hp → Prop) : Out α → Prop
  | .ok u h' => ∀ r' H' v, Ext r H r' H' → Wd g r' H' h' → R r' H' u v → Q v H'
  | .cut h' => ∀ r' H', Ext r H r' H' → Wd g r' H' h' → E (.ref g.CC) none H'
  | .bad => False
abbrev Rb : List Addr → Hp → Bool → Bool → Prop := fun _ _ a b => a = b
def tM (g : Gd) (E : WE') (m : ME) : TE := fun σ H Q => ∃ r h ls, Wd g r H h ∧ LOk g r H ls σ ∧ Po g (E σ) (DV g) r H Q (m ls h)
def tMT (g : Gd) (E : WE') (m : MT) : TT := fun σ H Q => ∃ r h ls, Wd g r H h ∧ LOk g r H ls σ ∧ Po g (E σ) Rb r H Q (m ls h)
def tMA (g : Gd) (E : WE') (m : MA) : TA := fun σ H Q => ∃ r h ls, Wd g r H h ∧ LOk g r H ls σ ∧ Po g (E σ) (DVs g) r H Q (m ls h)
def PoS (g : Gd) (E : WE') (r : List Addr) (H : Hp) (D : Ends) : OutS → Prop
  | .nx ls h' => ∀ r' H' σ', Ext r H r' H' → Wd g r' H' h' → LOk g r' H' ls σ' → D.nx σ' H'
  | .bk ls h' => ∀ r' H' σ', Ext r H r' H' → Wd g r' H' h' → LOk g r' H' ls σ' → D.bk σ' H'
  | .ct ls h' => ∀ r' H' σ', Ext r H r' H' → Wd g r' H' h' → LOk g r' H' ls σ' → D.ct σ' H'
  | .rt u h' => ∀ r' H' v, Ext r H r' H' → Wd g r' H' h' → DV g r' H' u v → D.rt v H'
  | .cut ls h' => ∀ r' H' σ', Ext r H r' H' → Wd g r' H' h' → LOk g r' H' ls σ' → E σ' (.ref g.CC) none H'
  | .bad => False
def tMS (g : Gd) (E : WE') (m : MS) : TS := fun D σ H => ∃ r h ls, Wd g r H h ∧ LOk g r H ls σ ∧ PoS g E r H D (m ls h)

section
variable {α β γ δ : Type} {g : Gd} {E : XK} {R : List Addr → Hp → α → β → Prop} {R2 : List Addr → Hp → γ → δ → Prop} {r r1 : List Addr} {H H1 : Hp} {Q Q' : β → Hp → Prop} {o : Out α}
theorem Po.mono (h : Po g E R r H Q o) (hq : ∀ v H', Q v H' → Q' v H') : Po g E R r H Q' o := by
  cases o with
  | ok u h' => exact fun r' H' v e w d => hq _ _ (h r' H' v e w d)
  | cut h' => exact h
  | bad => exact h
theorem Po.ext (h : Po g E R r H Q o) (e : Ext r H r1 H1) : Po g E R r1 H1 Q o := by
  cases o with
  | ok u h' => exact fun r' H' v e' w d => h r' H' v (e.trans e') w d
  | cut h' => exact fun r' H' e' w => h r' H' (e.trans e') w
  | bad => exact h
/-- the first of two: what comes behind it -/
theorem Po.bind {f : α → AH → Out γ} {Q2 : δ → Hp → Prop} (h : Po g E R2 r H Q2 (o.bind f)) :
    Po g E R r H (fun v H' => ∃ r' h' u, Ext r H r' H' ∧ Wd g r' H' h' ∧ R r' H' u v ∧ Po g E R2 r' H' Q2 (f u h')) o := by
  cases o with
  | ok u h' => exact fun r' H' v e w d => ⟨r', h', u, e, w, d, Po.ext h e⟩
  | cut h' => exact h
  | bad => exact h
end
theorem PoS.ext {g : Gd} {E : WE'} {r r1 : List Addr} {H H1 : Hp} {D : Ends} {o : OutS} (h : PoS g E r H D o) (e : Ext r H r1 H1) : PoS g E r1 H1 D o := by
  cases o with
  | nx ls h' => exact fun r' H' σ' e' w d => h r' H' σ' (e.trans e') w d
  | bk ls h' => exact fun r' H' σ' e' w d => h r' H' σ' (e.trans e') w d
  | ct ls h' => exact fun r' H' σ' e' w d => h r' H' σ' (e.trans e') w d
  | rt u h' => exact fun r' H' v e' w d => h r' H' v (e.trans e') w d
  | cut ls h' => exact fun r' H' σ' e' w d => h r' H' σ' (e.trans e') w d
  | bad => exact h
section
variable {X : Cx} {e : Expr} {t t' : TE}
theorem PEw (h : PE X e t) (k : ∀ σ H Q, t' σ H Q → t σ H Q) : PE X e t' := ⟨fun pins s σ H Q I q => h.run pins s σ H Q I (k σ H Q q)⟩
theorem PTw {t t' : TT} (h : PT X e t) (k : ∀ σ H Q, t' σ H Q → t σ H Q) : PT X e t' := ⟨fun pins s σ H Q I q => h.run pins s σ H Q I (k σ H Q q)⟩
theorem PAw {es : List Expr} {t t' : TA} (h : PA X es t) (k : ∀ σ H Q, t' σ H Q → t σ H Q) : PA X es t' := ⟨fun pos pins s σ H Q I q => h.run pos pins s σ H Q I (k σ H Q q)⟩
theorem PSw {st : Stmt} {t t' : TS} (h : PS X st t) (k : ∀ D σ H, t' D σ H → t D σ H) : PS X st t' := ⟨fun pins s σ H D I q => h.run pins s σ H D I (k D σ H q)⟩
theorem PSsw {st : List Stmt} {t t' : TS} (h : PSs X st t) (k : ∀ D σ H, t' D σ H → t D σ H) : PSs X st t' := ⟨fun pins s σ H D I q => h.run pins s σ H D I (k D σ H q)⟩
end
/-- a rule for a value behind a value: what the first's reading owes, by what comes behind -/
theorem tM_bind {γ δ : Type} {g : Gd} {E : WE'} {m : ME} {R2 : List Addr → Hp → γ → δ → Prop} {r : List Addr} {H : Hp} {h : AH} {ls : Loc} {σ : L2.St} {f : U → AH → Out γ} {Q2 : δ → Hp → Prop} {Q : VK}
    (w : Wd g r H h) (l : LOk g r H ls σ) (p : Po g (E σ) R2 r H Q2 ((m ls h).bind f))
    (k : ∀ v H' r' h' u, Ext r H r' H' → Wd g r' H' h' → LOk g r' H' ls σ → DV g r' H' u v → Po g (E σ) R2 r' H' Q2 (f u h') → Q v H') : tM g E m σ H Q :=
  ⟨r, h, ls, w, l, (Po.bind (R := DV g) p).mono fun v H' ⟨r', h', u, e, w', d, q⟩ => k v H' r' h' u e w' (l.ext e) d q⟩
theorem tMT_bind {γ δ : Type} {g : Gd} {E : WE'} {m : MT} {R2 : List Addr → Hp → γ → δ → Prop} {r : List Addr} {H : Hp} {h : AH} {ls : Loc} {σ : L2.St} {f : Bool → AH → Out γ} {Q2 : δ → Hp → Prop} {Q : Bool → Hp → Prop}
    (w : Wd g r H h) (l : LOk g r H ls σ) (p : Po g (E σ) R2 r H Q2 ((m ls h).bind f))
    (k : ∀ b H' r' h', Ext r H r' H' → Wd g r' H' h' → LOk g r' H' ls σ → Po g (E σ) R2 r' H' Q2 (f b h') → Q b H') : tMT g E m σ H Q :=
  ⟨r, h, ls, w, l, (Po.bind (R := Rb) p).mono fun v H' ⟨r', h', u, e, w', d, q⟩ => k v H' r' h' e w' (l.ext e) (d ▸ q)⟩
theorem tMA_bind {γ δ : Type} {g : Gd} {E : WE'} {m : MA} {R2 : List Addr → Hp → γ → δ → Prop} {r : List Addr} {H : Hp} {h : AH} {ls : Loc} {σ : L2.St} {f : List U → AH → Out γ} {Q2 : δ → Hp → Prop} {Q : List V → Hp → Prop}
    (w : Wd g r H h) (l : LOk g r H ls σ) (p : Po g (E σ) R2 r H Q2 ((m ls h).bind f))
    (k : ∀ v H' r' h' u, Ext r H r' H' → Wd g r' H' h' → LOk g r' H' ls σ → DVs g r' H' u v → Po g (E σ) R2 r' H' Q2 (f u h') → Q v H') : tMA g E m σ H Q :=
  ⟨r, h, ls, w, l, (Po.bind (R := DVs g) p).mono fun v H' ⟨r', h', u, e, w', d, q⟩ => k v H' r' h' u e w' (l.ext e) d q⟩
end Wk
set_option maxRecDepth 100000
set_option maxHeartbeats 4000000
/-! Fw2: facts of the relation, new objects, operators by values. -/
namespace Wk
open PySem PySem.Spec PyProof.Rows L2

section
variable {g : Gd} {r : List Addr} {H : Hp} {h : AH} {E : XK} {Q : VK}
theorem Wd.there (w : Wd g r H h) {a : Addr} (ha : a ∈ r) : ∃ o, H a = some o := by
  obtain ⟨i, hi, e⟩ := List.getElem_of_mem ha
  have hi' : i < h.length := by rw [← w.len]; exact hi
  obtain ⟨b, hb, m⟩ := w.ok i h[i] (List.getElem?_eq_getElem hi')
  have : b = a := by
    rw [List.getElem?_eq_getElem hi] at hb
    rw [← Option.some.inj hb, e]
  subst this
  cases q : h[i] with
  | lst us => rw [q] at m; obtain ⟨vs, m, _⟩ := m; exact ⟨_, m⟩
  | dct us => rw [q] at m; obtain ⟨vs, m, _, _⟩ := m; exact ⟨_, m⟩
  | ins us => rw [q] at m; obtain ⟨_, vs, m, _⟩ := m; exact ⟨_, m⟩
theorem Wd.fresh (w : Wd g r H h) {p : Addr} (hp : H p = none) : p ∉ r := fun hm => by
  obtain ⟨o, e⟩ := w.there hm
  rw [hp] at e; cases e
theorem Wd.exsE {r' : List Addr} {H' : Hp} (w : Wd g r H h) (e : Ext r H r' H') : ∀ a ∈ g.ex, (∃ o, H' a = some o) ∧ a ∉ r' := fun a ha => by
  obtain ⟨⟨o, q⟩, n⟩ := w.exs a ha
  exact ⟨e.dom a o q, e.notin n q⟩
theorem Wd.freshX (w : Wd g r H h) {p : Addr} (hp : H p = none) : p ∉ g.ex := fun hm => by
  obtain ⟨⟨o, e⟩, _⟩ := w.exs p hm
  rw [hp] at e; cases e
theorem Ext.new {p : Addr} {o : HO} (hp : H p = none) : Ext r H r (upd H p o) := by
  refine ⟨⟨[], by simp, by simp⟩, fun a u _ e => ?_, fun a u e => ?_⟩
  · rw [upd_ne (ne_of_none e hp)]; exact e
  · exact ⟨u, by rw [upd_ne (ne_of_none e hp)]; exact e⟩
theorem MOk.move {r' : List Addr} {H' : Hp} {a : Addr} {o : MO} (e : Ext r H r' H') (ha : H' a = H a) (m : MOk g r H a o) : MOk g r' H' a o := by
  cases o with
  | lst us => obtain ⟨vs, m, d⟩ := m; exact ⟨vs, ha.trans m, DVs.ext e _ _ d⟩
  | dct us => obtain ⟨vs, m, l, d⟩ := m; exact ⟨vs, ha.trans m, l, fun k u q => let ⟨v, h1, h2⟩ := d k u q; ⟨v, h1, DV.ext e _ _ h2⟩⟩
  | ins us => obtain ⟨dx, vs, m, d⟩ := m; exact ⟨dx, vs, ha.trans m, DVs.ext e _ _ d⟩
theorem Wd.move {H' : Hp} (w : Wd g r H h) (e : Ext r H r H') (ha : ∀ a ∈ r, H' a = H a) : Wd g r H' h :=
  ⟨w.nd, w.len, fun i o q => let ⟨a, h1, m⟩ := w.ok i o q; ⟨a, h1, m.move e (ha a (List.mem_of_getElem? h1))⟩, w.exsE e⟩
theorem Wd.new {p : Addr} {o : HO} (w : Wd g r H h) (hp : H p = none) : Wd g r (upd H p o) h :=
  w.move (Ext.new hp) fun a ha => upd_ne fun e => w.fresh hp (e ▸ ha)
/-- a new object of ours -/
theorem Ext.add {p : Addr} {o : HO} (hp : H p = none) : Ext r H (r ++ [p]) (upd H p o) := by
  refine ⟨⟨[p], rfl, fun a ha => by rw [List.mem_singleton.mp ha]; exact hp⟩, fun a u _ e => ?_, fun a u e => ?_⟩
  · rw [upd_ne (ne_of_none e hp)]; exact e
  · exact ⟨u, by rw [upd_ne (ne_of_none e hp)]; exact e⟩
theorem Wd.add {p : Addr} {o : HO} {mo : MO} (w : Wd g r H h) (hp : H p = none) (m : MOk g (r ++ [p]) (upd H p o) p mo) : Wd g (r ++ [p]) (upd H p o) (h ++ [mo]) := by
  have hf := w.fresh hp
  refine ⟨List.nodup_append.mpr ⟨w.nd, by simp, fun a ha b hb e => hf (by rw [← List.mem_singleton.mp hb, ← e]; exact ha)⟩, by simp [w.len], fun i u q => ?_, w.exsE (Ext.add hp)⟩
  by_cases hi : i < h.length
  · rw [List.getElem?_append_left hi] at q
    obtain ⟨a, h1, m'⟩ := w.ok i u q
    refine ⟨a, by rw [List.getElem?_append_left (by rw [w.len]; exact hi)]; exact h1, m'.move (Ext.add hp) (upd_ne fun e => hf (e ▸ List.mem_of_getElem? h1))⟩
  · have e : i = h.length := by
      have := (List.getElem?_eq_some_iff.mp q).1
      simp at this; omega
    subst e
    simp at q
    subst q
    exact ⟨p, by rw [← w.len]; simp, m⟩
/-- an object of ours written -/
theorem Ext.wr {a : Addr} {o : HO} (ha : a ∈ r) : Ext r H r (upd H a o) := by
  refine ⟨⟨[], by simp, by simp⟩, fun b u hb e => ?_, fun b u e => ?_⟩
  · rw [upd_ne (fun q : b = a => hb (by rw [q]; exact ha))]; exact e
  · by_cases q : b = a
    · subst q; exact ⟨o, upd_same⟩
    · exact ⟨u, by rw [upd_ne q]; exact e⟩
theorem Wd.wr {i : Nat} {a : Addr} {o : HO} {mo : MO} (w : Wd g r H h) (hi : r[i]? = some a) (m : MOk g r (upd H a o) a mo) : Wd g r (upd H a o) (h.set i mo) := by
  have hm : a ∈ r := List.mem_of_getElem? hi
  refine ⟨w.nd, by simp [w.len], fun j u q => ?_, w.exsE (Ext.wr hm)⟩
  by_cases e : j = i
  · subst e
    have hl : j < h.length := by rw [← w.len]; exact (List.getElem?_eq_some_iff.mp hi).1
    rw [List.getElem?_set_self hl] at q
    cases q
    exact ⟨a, hi, m⟩
  · rw [List.getElem?_set_ne (Ne.symm e)] at q
    obtain ⟨b, h1, m'⟩ := w.ok j u q
    refine ⟨b, h1, m'.move (Ext.wr hm) (upd_ne fun z => e ?_)⟩
    subst z
    obtain ⟨l1, e1⟩ := List.getElem?_eq_some_iff.mp h1
    obtain ⟨l2, e2⟩ := List.getElem?_eq_some_iff.mp hi
    exact (List.getElem_inj w.nd).mp (e1.trans e2.symm)

/-! ### DVs by places -/
theorem DVs.length : ∀ {us : List U} {vs : List V}, DVs g r H us vs → vs.length = us.length
  | [], vs, d => by simp only [DVs] at d; subst d; rfl
  | u :: us, vs, d => by
    simp only [DVs] at d
    obtain ⟨v, ws, rfl, _, d⟩ := d
    simp [DVs.length d]
theorem DVs.get : ∀ {us : List U} {vs : List V} {i : Nat} {u : U}, DVs g r H us vs → us[i]? = some u → ∃ v, vs[i]? = some v ∧ DV g r H u v
  | [], _, _, _, _, e => by simp at e
  | u :: us, vs, i, w, d, e => by
    simp only [DVs] at d
    obtain ⟨v, ws, rfl, d1, d2⟩ := d
    cases i with
    | zero => simp at e; subst e; exact ⟨v, rfl, d1⟩
    | succ i =>
      obtain ⟨x, h1, h2⟩ := DVs.get (i := i) d2 (by simpa using e)
      exact ⟨x, by simpa using h1, h2⟩
theorem DVs.getV : ∀ {us : List U} {vs : List V} {i : Nat} {v : V}, DVs g r H us vs → vs[i]? = some v → ∃ u, us[i]? = some u ∧ DV g r H u v
  | [], vs, _, _, d, e => by simp only [DVs] at d; subst d; simp at e
  | u :: us, vs, i, w, d, e => by
    simp only [DVs] at d
    obtain ⟨v, ws, rfl, d1, d2⟩ := d
    cases i with
    | zero => simp at e; subst e; exact ⟨u, rfl, d1⟩
    | succ i =>
      obtain ⟨x, h1, h2⟩ := DVs.getV (i := i) d2 (by simpa using e)
      exact ⟨x, by simpa using h1, h2⟩
theorem DVs.nil : DVs g r H [] [] := by simp [DVs]
theorem DVs.cons {u : U} {us : List U} {v : V} {vs : List V} (a : DV g r H u v) (b : DVs g r H us vs) : DVs g r H (u :: us) (v :: vs) := by
  simp only [DVs]; exact ⟨v, vs, rfl, a, b⟩
theorem DVs.one {u : U} {v : V} (a : DV g r H u v) : DVs g r H [u] [v] := DVs.cons a DVs.nil
theorem DVs.app : ∀ {us ws : List U} {vs ys : List V}, DVs g r H us vs → DVs g r H ws ys → DVs g r H (us ++ ws) (vs ++ ys)
  | [], ws, vs, ys, d, e => by simp only [DVs] at d; subst d; exact e
  | u :: us, ws, vs, ys, d, e => by
    simp only [DVs] at d
    obtain ⟨v, zs, rfl, d1, d2⟩ := d
    exact DVs.cons d1 (DVs.app d2 e)
theorem DVs.dropN : ∀ {us : List U} {vs : List V} (n : Nat), DVs g r H us vs → DVs g r H (us.drop n) (vs.drop n)
  | us, vs, 0, d => d
  | [], vs, n + 1, d => by simp only [DVs] at d; subst d; exact DVs.nil
  | u :: us, vs, n + 1, d => by
    simp only [DVs] at d
    obtain ⟨v, zs, rfl, d1, d2⟩ := d
    exact DVs.dropN n d2
theorem DVs.takeN : ∀ {us : List U} {vs : List V} (n : Nat), DVs g r H us vs → DVs g r H (us.take n) (vs.take n)
  | us, vs, 0, d => by simp only [List.take_zero]; exact DVs.nil
  | [], vs, n + 1, d => by simp only [DVs] at d; subst d; exact DVs.nil
  | u :: us, vs, n + 1, d => by
    simp only [DVs] at d
    obtain ⟨v, zs, rfl, d1, d2⟩ := d
    exact DVs.cons d1 (DVs.takeN n d2)
theorem DVs.setN : ∀ {us : List U} {vs : List V} {u : U} {v : V} (i : Nat), DVs g r H us vs → DV g r H u v → DVs g r H (us.set i u) (vs.set i v)
  | [], vs, _, _, i, d, e => by simp only [DVs] at d; subst d; exact DVs.nil
  | u :: us, vs, x, y, i, d, e => by
    simp only [DVs] at d
    obtain ⟨v, zs, rfl, d1, d2⟩ := d
    cases i with
    | zero => exact DVs.cons e d2
    | succ i => exact DVs.cons d1 (DVs.setN i d2 e)
theorem DVs.dropLastN {us : List U} {vs : List V} (d : DVs g r H us vs) : DVs g r H us.dropLast vs.dropLast := by
  rw [List.dropLast_eq_take, List.dropLast_eq_take, d.length]
  exact d.takeN _

/-! ### what a value is, told by the heap -/
def asT : U → Option (List U)
  | .seq .tup us => some us
  | _ => none
def asL (h : AH) : U → Option (List U)
  | .seq .lst us => some us
  | .seq .ro us => some us
  | .obj i => match h[i]? with
    | some (.lst us) => some us
    | _ => none
  | _ => none
/-- a list that is tracked -/
def asW (h : AH) : U → Option (List U)
  | .seq .lst us => some us
  | .obj i => match h[i]? with
    | some (.lst us) => some us
    | _ => none
  | _ => none
def asSeq (h : AH) : U → Option (List U)
  | .seq _ us => some us
  | .obj i => match h[i]? with
    | some (.lst us) => some us
    | _ => none
  | _ => none
theorem asT_dv {u : U} {us : List U} {v : V} (e : asT u = some us) (d : DV g r H u v) : ∃ a vs, v = .ref a ∧ SqT g.K H a vs ∧ DVs g r H us vs := by
  cases u with
  | seq k ws =>
    cases k with
    | tup =>
      cases e
      simp only [DV] at d
      obtain ⟨a, vs, rfl, q, d⟩ := d
      refine ⟨a, vs, rfl, ?_, d⟩
      rcases q with ⟨q, _⟩ | q
      · exact .inl q
      · exact .inr q
    | lst => cases e
    | ro => cases e
  | _ => cases e
theorem asW_dv {u : U} {us : List U} {v : V} (w : Wd g r H h) (e : asW h u = some us) (d : DV g r H u v) : ∃ a vs, v = .ref a ∧ H a = some (.lst vs) ∧ DVs g r H us vs := by
  cases u with
  | seq k ws =>
    cases k with
    | lst =>
      cases e
      simp only [DV] at d
      obtain ⟨a, vs, rfl, q, d⟩ := d
      exact ⟨a, vs, rfl, q.1, d⟩
    | tup => cases e
    | ro => cases e
  | obj i =>
    simp only [DV] at d
    obtain ⟨a, rfl, q⟩ := d
    simp only [asW] at e
    split at e
    · rename_i xs hx
      cases e
      obtain ⟨b, hb, m⟩ := w.ok i _ hx
      rw [q] at hb; cases hb
      obtain ⟨vs, m, d⟩ := m
      exact ⟨a, vs, rfl, m, d⟩
    · cases e
  | _ => cases e
theorem asL_dv {u : U} {us : List U} {v : V} (w : Wd g r H h) (e : asL h u = some us) (d : DV g r H u v) : ∃ a vs, v = .ref a ∧ SqL g.K H a vs ∧ DVs g r H us vs := by
  cases u with
  | seq k ws =>
    cases k with
    | lst =>
      obtain ⟨a, vs, e1, e2, e3⟩ := asW_dv (u := .seq .lst ws) w (by exact e) d
      exact ⟨a, vs, e1, SqL.of e2, e3⟩
    | tup => cases e
    | ro =>
      cases e
      simp only [DV] at d
      obtain ⟨a, vs, rfl, q, d⟩ := d
      refine ⟨a, vs, rfl, ?_, d⟩
      rcases q with ⟨⟨o, q⟩, _⟩ | q
      · exact .inl (.inr ⟨o, q⟩)
      · exact .inr q
  | obj i =>
    obtain ⟨a, vs, e1, e2, e3⟩ := asW_dv (u := .obj i) w (by exact e) d
    exact ⟨a, vs, e1, SqL.of e2, e3⟩
  | _ => cases e
theorem asSeq_dv {u : U} {us : List U} {v : V} (w : Wd g r H h) (e : asSeq h u = some us) (d : DV g r H u v) : ∃ a vs, v = .ref a ∧ (SqL g.K H a vs ∨ SqT g.K H a vs) ∧ DVs g r H us vs := by
  cases u with
  | seq k ws =>
    cases k with
    | lst =>
      obtain ⟨a, vs, e1, e2, e3⟩ := asL_dv (u := .seq .lst ws) w (by exact e) d
      exact ⟨a, vs, e1, .inl e2, e3⟩
    | ro =>
      obtain ⟨a, vs, e1, e2, e3⟩ := asL_dv (u := .seq .ro ws) w (by exact e) d
      exact ⟨a, vs, e1, .inl e2, e3⟩
    | tup =>
      obtain ⟨a, vs, e1, e2, e3⟩ := asT_dv (u := .seq .tup ws) (by exact e) d
      exact ⟨a, vs, e1, .inr e2, e3⟩
  | obj i =>
    obtain ⟨a, vs, e1, e2, e3⟩ := asL_dv (u := .obj i) w (by exact e) d
    exact ⟨a, vs, e1, .inl e2, e3⟩
  | _ => cases e

/-! ### ends: what a new object's place owes -/
theorem fin_here {u : U} {v : V} (w : Wd g r H h) (d : DV g r H u v) (p : Po g E (DV g) r H Q (.ok u h)) : Q v H := p r H v Ext.refl w d
theorem fin_tup {us : List U} {vs : List V} (w : Wd g r H h) (d : DVs g r H us vs) (p : Po g E (DV g) r H Q (.ok (.seq .tup us) h)) : ∀ a, H a = none → Q (.ref a) (upd H a (.tup vs)) := fun a ha =>
  p r _ _ (Ext.new ha) (w.new ha) (by
    simp only [DV]
    exact ⟨a, vs, rfl, .inl ⟨.inl upd_same, w.fresh ha, w.freshX ha⟩, DVs.ext (Ext.new ha) _ _ d⟩)
theorem fin_lst {us : List U} {vs : List V} (w : Wd g r H h) (d : DVs g r H us vs) (p : Po g E (DV g) r H Q (.ok (.seq .lst us) h)) : ∀ a, H a = none → Q (.ref a) (upd H a (.lst vs)) := fun a ha =>
  p r _ _ (Ext.new ha) (w.new ha) (by
    simp only [DV]
    exact ⟨a, vs, rfl, ⟨upd_same, w.fresh ha, w.freshX ha⟩, DVs.ext (Ext.new ha) _ _ d⟩)
theorem fin_obj {us : List U} {vs : List V} (w : Wd g r H h) (d : DVs g r H us vs) (p : Po g E (DV g) r H Q (.ok (.obj h.length) (h ++ [.lst us]))) : ∀ a, H a = none → Q (.ref a) (upd H a (.lst vs)) := fun a ha =>
  p (r ++ [a]) _ _ (Ext.add ha) (w.add ha ⟨vs, upd_same, DVs.ext (Ext.add ha) _ _ d⟩) (by
    simp only [DV]
    exact ⟨a, rfl, by rw [← w.len]; simp⟩)
end
end Wk
set_option maxRecDepth 100000
set_option maxHeartbeats 4000000
/-! Fw3: rules of expressions: names, constants, displays, operators, comparisons, tests. -/
namespace Wk
open PySem PySem.Spec PyProof.Rows L2

structure Cxt (g : Gd) (X : Cx) (E : WE') : Prop where
  K : X.K = g.K
  calm : X.calm = true
  room : X.A.units + 200 < cLine
  nd : X.N.Nodup
  pass : ∀ σ, PassesAt (L2.CX X.prog X.w) X σ (E σ)

/-! ### combinators -/
def eVar (i : Nat) : ME := fun ls h => match ls[i]? with
  | some (some u) => .ok u h
  | _ => .bad
def eC (u : U) : ME := fun _ h => .ok u h
def aNil : MA := fun _ h => .ok [] h
def aCons (a : ME) (b : MA) : MA := fun ls h => (a ls h).bind fun u h1 => (b ls h1).bind fun us h2 => .ok (u :: us) h2
def eTup (a : MA) : ME := fun ls h => (a ls h).bind fun us h1 => if us.length ≤ 1000 then .ok (.seq .tup us) h1 else .bad
def eLst (a : MA) : ME := fun ls h => (a ls h).bind fun us h1 => if us.length ≤ 1000 then .ok (.seq .lst us) h1 else .bad
def eNew (a : MA) : ME := fun ls h => (a ls h).bind fun us h1 => if us.length ≤ 1000 then .ok (.obj h1.length) (h1 ++ [.lst us]) else .bad
def eOp (f : U → U → AH → Out U) (a b : ME) : ME := fun ls h => (a ls h).bind fun u h1 => (b ls h1).bind fun w h2 => f u w h2
def eUn (f : U → AH → Out U) (a : ME) : ME := fun ls h => (a ls h).bind fun u h1 => f u h1

theorem le1000 {n : Nat} (h : n ≤ 1000) : n ≤ sizeLine := Nat.le_of_lt (small1000 h)
section
variable {g : Gd} {X : Cx} {E : WE'} {e a b : Expr} {es : List Expr} {pos : Pos} {m ma mb : ME} {mas : MA}
theorem pm_var {i : Nat} {x : Str} (h : PE X (.Name x pos) (tVar i)) : PE X (.Name x pos) (tM g E (eVar i)) := PEw h fun σ H Q hq => by
  obtain ⟨r, hh, ls, w, l, p⟩ := hq
  unfold eVar at p
  split at p
  · rename_i u hu
    obtain ⟨v, h1, h2⟩ := l.at_ i u hu
    exact ⟨v, h1, fin_here w h2 p⟩
  · exact p.elim
theorem pm_c {v : V} {u : U} (h : PE X e (tC v)) (hd : ∀ r H, DV g r H u v) : PE X e (tM g E (eC u)) := PEw h fun σ H Q hq => by
  obtain ⟨r, hh, ls, w, l, p⟩ := hq
  exact fin_here w (hd r H) p
theorem pm_int {i : Int} {j : Nat} : PE X (.Constant (.int i) j pos) (tM g E (eC (.int i))) := pm_c pe_int fun _ _ => by simp [DV]
theorem pm_bl {i : Bool} {j : Nat} : PE X (.Constant (.bool i) j pos) (tM g E (eC (.bl i))) := pm_c pe_bl fun _ _ => by simp [DV]
theorem pm_non {j : Nat} : PE X (.Constant .none j pos) (tM g E (eC .non)) := pm_c pe_non fun _ _ => by simp [DV]
theorem pm_str {x : Str} {j : Nat} : PE X (.Constant (.str x) j pos) (tM g E (eC (.str x))) := pm_c pe_str fun _ _ => by simp [DV]
/-- a constant of the module -/
theorem pm_glob {x : Str} {i : Int} {t : Tok} (hg : Gl X x) (hm : X.mg x = some (.int i t)) (hd : (x == ("__debug__" : Str)) = false := by decide) : PE X (.Name x pos) (tM g E (eC (.int i))) :=
  pm_c (v := .int i) (pe_glob hg hm ⟨t, rfl⟩ hd) fun _ _ => by simp [DV]
theorem pm_anil : PA X [] (tMA g E aNil) := PAw pa_nil fun σ H Q hq => by
  obtain ⟨r, hh, ls, w, l, p⟩ := hq
  exact p r H _ Ext.refl w DVs.nil
theorem pm_acons (ha : PE X e (tM g E m)) (hr : PA X es (tMA g E mas)) (hs : starEach (e :: es) X.env = (false, eval e X.env) :: starEach es X.env := by rfl) : PA X (e :: es) (tMA g E (aCons m mas)) :=
  PAw (pa_cons ha hr hs) fun σ H Q hq => by
    obtain ⟨r, hh, ls, w, l, p⟩ := hq
    refine tM_bind w l p fun v H1 r1 h1 u e1 w1 l1 d1 p1 => ?_
    refine tMA_bind w1 l1 p1 fun vs H2 r2 h2 us e2 w2 l2 d2 p2 => ?_
    exact p2 r2 H2 _ Ext.refl w2 (DVs.cons (DV.ext e2 _ _ d1) d2)
theorem pm_tup {x1 : Nat} (h : PA X es (tMA g E mas)) : PE X (.Tuple es x1 pos) (tM g E (eTup mas)) := PEw (pe_tup h) fun σ H Q hq => by
  obtain ⟨r, hh, ls, w, l, p⟩ := hq
  refine tMA_bind w l p fun vs H2 r2 h2 us e2 w2 l2 d2 p2 => ?_
  split at p2
  · rename_i hl
    exact ⟨le1000 (by rw [d2.length]; exact hl), fin_tup w2 d2 p2⟩
  · exact p2.elim
theorem pm_lst (h : PA X es (tMA g E mas)) : PE X (.List es pos) (tM g E (eLst mas)) := PEw (pe_lst h) fun σ H Q hq => by
  obtain ⟨r, hh, ls, w, l, p⟩ := hq
  refine tMA_bind w l p fun vs H2 r2 h2 us e2 w2 l2 d2 p2 => ?_
  split at p2
  · rename_i hl
    exact ⟨le1000 (by rw [d2.length]; exact hl), fin_lst w2 d2 p2⟩
  · exact p2.elim
theorem pm_new (h : PA X es (tMA g E mas)) : PE X (.List es pos) (tM g E (eNew mas)) := PEw (pe_lst h) fun σ H Q hq => by
  obtain ⟨r, hh, ls, w, l, p⟩ := hq
  refine tMA_bind w l p fun vs H2 r2 h2 us e2 w2 l2 d2 p2 => ?_
  split at p2
  · rename_i hl
    exact ⟨le1000 (by rw [d2.length]; exact hl), fin_obj w2 d2 p2⟩
  · exact p2.elim

/-! ### operators -/
/-- a rule by values, told on our side -/
def OpU (g : Gd) (X : Cx) (f : Value → Value → Sem Value) (m : U → U → AH → Out U) : Prop :=
  ∃ rr : R2, OpR X f rr ∧ ∀ (E : XK) r H h u y v w Q, Wd g r H h → DV g r H u v → DV g r H y w → Po g E (DV g) r H Q (m u y h) → rr v w H Q
theorem tOp_of {rr : R2} {f : U → U → AH → Out U} (k : ∀ (E : XK) r H h u y v w Q, Wd g r H h → DV g r H u v → DV g r H y w → Po g E (DV g) r H Q (f u y h) → rr v w H Q) :
    ∀ σ H Q, tM g E (eOp f ma mb) σ H Q → tOp rr (tM g E ma) (tM g E mb) σ H Q := fun σ H Q hq => by
  obtain ⟨r, hh, ls, w, l, p⟩ := hq
  refine tM_bind w l p fun v H1 r1 h1 u e1 w1 l1 d1 p1 => ?_
  refine tM_bind w1 l1 p1 fun vs H2 r2 h2 us e2 w2 l2 d2 p2 => ?_
  exact k _ r2 H2 h2 u us v vs Q w2 (DV.ext e2 _ _ d1) d2 p2
theorem pm_op {op : Operator} {f : U → U → AH → Out U} (ho : OpU g X (binaryOp op) f) (ha : PE X a (tM g E ma)) (hb : PE X b (tM g E mb)) : PE X (.BinOp a op b pos) (tM g E (eOp f ma mb)) := by
  obtain ⟨rr, hr, k⟩ := ho
  exact PEw (pe_op hr ha hb) (tOp_of k)
theorem pm_cmp {op : CmpOp} {f : U → U → AH → Out U} (ho : OpU g X (compareOp op) f) (ha : PE X a (tM g E ma)) (hb : PE X b (tM g E mb)) (hm : behindInMarks op b = false) : PE X (.Compare a [op] [b] pos) (tM g E (eOp f ma mb)) := by
  obtain ⟨rr, hr, k⟩ := ho
  exact PEw (pe_cmpR hr ha hb hm) (tOp_of k)
/-- a value that is a bool, as a test -/
def tst (m : ME) : MT := fun ls h => (m ls h).bind fun u h1 => match u with
  | .bl b => .ok b h1
  | _ => .bad
theorem pm_cmpT {op : CmpOp} {f : U → U → AH → Out U} (ho : OpU g X (compareOp op) f) (ha : PE X a (tM g E ma)) (hb : PE X b (tM g E mb)) (hm : behindInMarks op b = false) : PT X (.Compare a [op] [b] pos) (tMT g E (tst (eOp f ma mb))) := by
  obtain ⟨rr, hr, k⟩ := ho
  refine PTw (pt_cmpR hr ha hb hm) fun σ H Q hq => ?_
  obtain ⟨r, hh, ls, w, l, p⟩ := hq
  refine tOp_of (E := E) (ma := ma) (mb := mb) k σ H _ ?_
  refine tM_bind w l p fun v H1 r1 h1 u e1 w1 l1 d1 p1 => ?_
  cases u with
  | bl b => exact ⟨b, by simpa [DV] using d1, p1 r1 H1 b Ext.refl w1 rfl⟩
  | _ => exact p1.elim
end
end Wk
set_option maxRecDepth 100000
set_option maxHeartbeats 4000000
/-! Fw4: the operators by values. -/
namespace Wk
open PySem PySem.Spec PyProof.Rows L2

/-! ### data -/
mutual
def toP : U → PyData
  | .non => .none
  | .bl b => .bool b
  | .int i => .int i
  | .str x => .str x
  | .seq .tup us => .tuple (toPs us)
  | .seq .lst us => .list (toPs us)
  | .seq .ro us => .list (toPs us)
  | .obj _ => .none
def toPs : List U → List PyData
  | [] => []
  | u :: us => toP u :: toPs us
end
mutual
/-- no object of ours is met -/
def pureU : U → Bool
  | .seq _ us => pureUs us
  | .obj _ => false
  | _ => true
def pureUs : List U → Bool
  | [] => true
  | u :: us => pureU u && pureUs us
end
mutual
/-- our own lists read once -/
def res (h : AH) : U → Option U
  | .seq k us => (ress h us).map (.seq k)
  | .obj i => match h[i]? with
    | some (.lst us) => if pureUs us then some (.seq .lst us) else none
    | _ => none
  | u => some u
def ress (h : AH) : List U → Option (List U)
  | [] => some []
  | u :: us => match res h u, ress h us with
    | some a, some b => some (a :: b)
    | _, _ => none
end
mutual
def strsOk : U → Bool
  | .str x => PyData.strOk x
  | .seq _ us => strsOks us
  | _ => true
def strsOks : List U → Bool
  | [] => true
  | u :: us => strsOk u && strsOks us
end
/-- what == says of two values; none: not told -/
def eqB (h : AH) (u w : U) : Option Bool :=
  match res h u, res h w with
  | some a, some b => if strsOk a && strsOk b && decide (min (toP a).depth (toP b).depth ≤ 190) then some ((toP a).eqv (toP b)) else none
  | _, _ => none
def sEq (u w : U) (h : AH) : Out U := match eqB h u w with
  | some b => .ok (.bl b) h
  | none => .bad
def sNe (u w : U) (h : AH) : Out U := match eqB h u w with
  | some b => .ok (.bl !b) h
  | none => .bad

section
variable {g : Gd} {r : List Addr} {H : Hp} {h : AH}
mutual
theorem dp_pure (w : Wd g r H h) : ∀ (u : U) (v : V), pureU u = true → DV g r H u v → Dp g.K H v (toP u)
  | .non, v, _, d => by simp only [DV] at d; subst d; simp only [toP]; exact .non
  | .bl b, v, _, d => by simp only [DV] at d; subst d; simp only [toP]; exact .bl b
  | .int i, v, _, d => by simp only [DV] at d; subst d; simp only [toP]; exact .int i
  | .str x, v, _, d => by simp only [DV] at d; subst d; simp only [toP]; exact .str x
  | .seq .tup us, v, p, d => by
    obtain ⟨a, vs, rfl, q, d⟩ := asT_dv (u := .seq .tup us) rfl d
    simp only [toP]
    exact .tup q (dps_pure w us vs (by simpa [pureU] using p) d)
  | .seq .lst us, v, p, d => by
    obtain ⟨a, vs, rfl, q, d⟩ := asL_dv (u := .seq .lst us) w rfl d
    simp only [toP]
    exact .lst q (dps_pure w us vs (by simpa [pureU] using p) d)
  | .seq .ro us, v, p, d => by
    obtain ⟨a, vs, rfl, q, d⟩ := asL_dv (u := .seq .ro us) w rfl d
    simp only [toP]
    exact .lst q (dps_pure w us vs (by simpa [pureU] using p) d)
  | .obj i, v, p, d => by simp [pureU] at p
theorem dps_pure (w : Wd g r H h) : ∀ (us : List U) (vs : List V), pureUs us = true → DVs g r H us vs → DpAll g.K H vs (toPs us)
  | [], vs, _, d => by simp only [DVs] at d; subst d; simp only [toPs]; exact .nil
  | u :: us, vs, p, d => by
    simp only [DVs] at d
    obtain ⟨v, ws, rfl, d1, d2⟩ := d
    simp only [pureUs, Bool.and_eq_true] at p
    simp only [toPs]
    exact .cons (dp_pure w u v p.1 d1) (dps_pure w us ws p.2 d2)
end
mutual
theorem dp_res (w : Wd g r H h) : ∀ (u : U) (v : V) (u' : U), res h u = some u' → DV g r H u v → Dp g.K H v (toP u')
  | .non, v, u', e, d => by simp only [res, Option.some.injEq] at e; subst e; exact dp_pure w _ v rfl d
  | .bl b, v, u', e, d => by simp only [res, Option.some.injEq] at e; subst e; exact dp_pure w _ v rfl d
  | .int i, v, u', e, d => by simp only [res, Option.some.injEq] at e; subst e; exact dp_pure w _ v rfl d
  | .str x, v, u', e, d => by simp only [res, Option.some.injEq] at e; subst e; exact dp_pure w _ v rfl d
  | .seq k us, v, u', e, d => by
    simp only [res, Option.map_eq_some_iff] at e
    obtain ⟨us', e, rfl⟩ := e
    cases k with
    | tup =>
      obtain ⟨a, vs, rfl, q, d⟩ := asT_dv (u := .seq .tup us) rfl d
      simp only [toP]
      exact .tup q (dps_res w us vs us' e d)
    | lst =>
      obtain ⟨a, vs, rfl, q, d⟩ := asL_dv (u := .seq .lst us) w rfl d
      simp only [toP]
      exact .lst q (dps_res w us vs us' e d)
    | ro =>
      obtain ⟨a, vs, rfl, q, d⟩ := asL_dv (u := .seq .ro us) w rfl d
      simp only [toP]
      exact .lst q (dps_res w us vs us' e d)
  | .obj i, v, u', e, d => by
    simp only [res] at e
    split at e
    · rename_i us hx
      split at e
      · rename_i hp
        cases e
        obtain ⟨a, vs, rfl, q, d⟩ := asL_dv (u := .obj i) (us := us) w (by simp only [asL, hx]) d
        simp only [toP]
        exact .lst q (dps_pure w us vs hp d)
      · cases e
    · cases e
theorem dps_res (w : Wd g r H h) : ∀ (us : List U) (vs : List V) (us' : List U), ress h us = some us' → DVs g r H us vs → DpAll g.K H vs (toPs us')
  | [], vs, us', e, d => by
    simp only [ress, Option.some.injEq] at e; subst e
    simp only [DVs] at d; subst d; simp only [toPs]; exact .nil
  | u :: us, vs, us', e, d => by
    simp only [DVs] at d
    obtain ⟨v, ws, rfl, d1, d2⟩ := d
    simp only [ress] at e
    split at e
    · rename_i a b h1 h2
      cases e
      simp only [toPs]
      exact .cons (dp_res w u v a h1 d1) (dps_res w us ws b h2 d2)
    · cases e
end
mutual
theorem lay_of : ∀ u : U, strsOk u = true → (toP u).canLay0 = true
  | .non, _ => by simp [toP, PyData.canLay0]
  | .bl b, _ => by simp [toP, PyData.canLay0]
  | .int i, _ => by simp [toP, PyData.canLay0]
  | .str x, h => by simpa [toP, PyData.canLay0, strsOk] using h
  | .seq .tup us, h => by simp only [toP, PyData.canLay0]; exact lays_of us (by simpa [strsOk] using h)
  | .seq .lst us, h => by simp only [toP, PyData.canLay0]; exact lays_of us (by simpa [strsOk] using h)
  | .seq .ro us, h => by simp only [toP, PyData.canLay0]; exact lays_of us (by simpa [strsOk] using h)
  | .obj i, _ => by simp [toP, PyData.canLay0]
theorem lays_of : ∀ us : List U, strsOks us = true → PyData.canLayAll0 (toPs us) = true
  | [], _ => by simp [toPs, PyData.canLayAll0]
  | u :: us, h => by
    simp only [strsOks, Bool.and_eq_true] at h
    simp only [toPs, PyData.canLayAll0, lay_of u h.1, lays_of us h.2, Bool.and_self]
end
end
def rEqX (K : PySem.W.Frag) (f : Bool → Bool) : L2.R2 := fun x y H Q => ∃ d e, Dp K H x d ∧ Dp K H y e ∧ d.canLay0 = true ∧ e.canLay0 = true ∧ min d.depth e.depth ≤ 190 ∧ Q (.bl (f (PyData.eqv d e))) H
section
variable {g : Gd} {X : Cx} {E : WE'}
theorem op_eqX (hu : X.A.units + 200 < cLine) : OpR X (compareOp .Eq) (rEqX X.K id) := by
  intro pins s σ H x y v u Q I rx ry q
  obtain ⟨d, e, hd, he, l1, l2, hm, q⟩ := q
  obtain ⟨as, r1⟩ := Dp.reads I d x v hd rx
  obtain ⟨bs, r2⟩ := Dp.reads I e y u he ry
  exact SeqAt.compareEq_reads r1 r2 l1 l2 (by omega) ⟨.bl _, H, I, rfl, q⟩
theorem op_neX (hu : X.A.units + 200 < cLine) : OpR X (compareOp .NotEq) (rEqX X.K not) := by
  intro pins s σ H x y v u Q I rx ry q
  obtain ⟨d, e, hd, he, l1, l2, hm, q⟩ := q
  obtain ⟨as, r1⟩ := Dp.reads I d x v hd rx
  obtain ⟨bs, r2⟩ := Dp.reads I e y u he ry
  exact SeqAt.compareNe_reads r1 r2 l1 l2 (by omega) ⟨.bl _, H, I, rfl, q⟩
theorem eqB_dp {r : List Addr} {H : Hp} {h : AH} {u w : U} {v y : V} {b : Bool} (wd : Wd g r H h) (e : eqB h u w = some b) (d1 : DV g r H u v) (d2 : DV g r H w y) :
    ∃ d e, Dp g.K H v d ∧ Dp g.K H y e ∧ d.canLay0 = true ∧ e.canLay0 = true ∧ min d.depth e.depth ≤ 190 ∧ PyData.eqv d e = b := by
  unfold eqB at e
  split at e
  · rename_i a c h1 h2
    split at e
    · rename_i hc
      simp only [Bool.and_eq_true, decide_eq_true_eq] at hc
      exact ⟨toP a, toP c, dp_res wd u v a h1 d1, dp_res wd w y c h2 d2, lay_of a hc.1.1, lay_of c hc.1.2, hc.2, Option.some.inj e⟩
    · cases e
  · cases e
theorem ou_eq (C : Cxt g X E) : OpU g X (compareOp .Eq) sEq := ⟨_, op_eqX C.room, fun E r H h u y v w Q wd d1 d2 p => by
  unfold sEq at p
  split at p
  · rename_i b hb
    obtain ⟨d, e, q1, q2, q3, q4, q5, q6⟩ := eqB_dp wd hb d1 d2
    rw [C.K]
    exact ⟨d, e, q1, q2, q3, q4, q5, by rw [q6]; exact fin_here wd (by simp [DV]) p⟩
  · exact p.elim⟩
theorem ou_ne (C : Cxt g X E) : OpU g X (compareOp .NotEq) sNe := ⟨_, op_neX C.room, fun E r H h u y v w Q wd d1 d2 p => by
  unfold sNe at p
  split at p
  · rename_i b hb
    obtain ⟨d, e, q1, q2, q3, q4, q5, q6⟩ := eqB_dp wd hb d1 d2
    rw [C.K]
    exact ⟨d, e, q1, q2, q3, q4, q5, by rw [q6]; exact fin_here wd (by simp [DV]) p⟩
  · exact p.elim⟩

/-! ### numbers -/
def sInt (f : Int → Int → Int) : U → U → AH → Out U := fun u w h => match u, w with
  | .int i, .int j => .ok (.int (f i j)) h
  | _, _ => .bad
def sIntC (C : Int → Int → Bool) (f : Int → Int → Int) : U → U → AH → Out U := fun u w h => match u, w with
  | .int i, .int j => if C i j then .ok (.int (f i j)) h else .bad
  | _, _ => .bad
def sIntB (f : Int → Int → Bool) : U → U → AH → Out U := fun u w h => match u, w with
  | .int i, .int j => .ok (.bl (f i j)) h
  | _, _ => .bad
abbrev cMul (i j : Int) : Bool := decide (-(2 ^ 64) < i ∧ i < 2 ^ 64) || decide (-(2 ^ 64) < j ∧ j < 2 ^ 64)
abbrev cDiv (_ j : Int) : Bool := decide (0 < j ∧ j < 1073741824)
abbrev cMod (_ j : Int) : Bool := decide (0 < j)
abbrev cPow (i j : Int) : Bool := decide (0 ≤ j ∧ j ≤ 1000000 ∧ i.natAbs < 2 ^ 64)
abbrev sSub : U → U → AH → Out U := sInt fun i j => i - j
abbrev sMul : U → U → AH → Out U := sIntC cMul fun i j => i * j
abbrev sDiv : U → U → AH → Out U := sIntC cDiv fun i j => i / j
abbrev sMod : U → U → AH → Out U := sIntC cMod fun i j => i % j
abbrev sPow : U → U → AH → Out U := sIntC cPow fun i j => i ^ j.toNat
abbrev sLt : U → U → AH → Out U := sIntB fun i j => decide (i < j)
abbrev sGt : U → U → AH → Out U := sIntB fun i j => decide (j < i)
abbrev sGe : U → U → AH → Out U := sIntB fun i j => decide (j ≤ i)
abbrev sLe : U → U → AH → Out U := sIntB fun i j => decide (i ≤ j)
theorem ou_int {op : Value → Value → Sem Value} {f : Int → Int → Int} (h : OpR X op (rI0 fun i j => .int (f i j))) : OpU g X op (sInt f) := ⟨_, h, fun E r H h u y v w Q wd d1 d2 p => by
  unfold sInt at p
  split at p
  · simp only [DV] at d1 d2
    subst d1 d2
    exact ⟨_, _, rfl, rfl, fin_here wd (by simp [DV]) p⟩
  · exact p.elim⟩
theorem ou_intC {op : Value → Value → Sem Value} {C : Int → Int → Prop} {c : Int → Int → Bool} {f : Int → Int → Int} (h : OpR X op (rI C fun i j => .int (f i j))) (hc : ∀ i j, c i j = true → C i j) : OpU g X op (sIntC c f) := ⟨_, h, fun E r H h u y v w Q wd d1 d2 p => by
  unfold sIntC at p
  split at p
  · split at p
    · rename_i hc'
      simp only [DV] at d1 d2
      subst d1 d2
      exact ⟨_, _, rfl, rfl, hc _ _ hc', fin_here wd (by simp [DV]) p⟩
    · exact p.elim
  · exact p.elim⟩
theorem ou_intB {op : Value → Value → Sem Value} {f : Int → Int → Bool} (h : OpR X op (rI0 fun i j => .bl (f i j))) : OpU g X op (sIntB f) := ⟨_, h, fun E r H h u y v w Q wd d1 d2 p => by
  unfold sIntB at p
  split at p
  · simp only [DV] at d1 d2
    subst d1 d2
    exact ⟨_, _, rfl, rfl, fin_here wd (by simp [DV]) p⟩
  · exact p.elim⟩
theorem ou_sub : OpU g X (binaryOp .Sub) sSub := ou_int op_sub
theorem ou_mul : OpU g X (binaryOp .Mult) sMul := ou_intC op_mul fun i j h => by
  simp only [cMul, Bool.or_eq_true, decide_eq_true_eq] at h
  exact h
theorem ou_div : OpU g X (binaryOp .FloorDiv) sDiv := ou_intC op_fdiv fun i j h => by
  simp only [cDiv, decide_eq_true_eq] at h
  exact h
theorem ou_mod : OpU g X (binaryOp .Mod) sMod := ou_intC op_mod fun i j h => by
  simp only [cMod, decide_eq_true_eq] at h
  exact h
theorem ou_pow : OpU g X (binaryOp .Pow) sPow := ou_intC op_pow fun i j h => by
  simp only [cPow, decide_eq_true_eq] at h
  exact h
theorem ou_lt : OpU g X (compareOp .Lt) sLt := ou_intB op_lt
theorem ou_le : OpU g X (compareOp .LtE) sLe := ou_intB op_le
theorem ou_gt : OpU g X (compareOp .Gt) sGt := ou_intB op_gt
theorem ou_ge : OpU g X (compareOp .GtE) sGe := ou_intB op_ge

/-! ### +: numbers, tuples, lists (the new list one that nobody writes; one of ours) -/
def sAdd : U → U → AH → Out U := fun u w h => match u, w with
  | .int i, .int j => .ok (.int (i + j)) h
  | .seq .tup xs, .seq .tup ys => if xs ≠ [] ∧ xs.length + ys.length ≤ 1000 then .ok (.seq .tup (xs ++ ys)) h else .bad
  | u, w => match asW h u, asW h w with
    | some xs, some ys => if xs.length + ys.length ≤ 1000 then .ok (.seq .lst (xs ++ ys)) h else .bad
    | _, _ => .bad
def sAddN : U → U → AH → Out U := fun u w h => match asW h u, asW h w with
    | some xs, some ys => if xs.length + ys.length ≤ 1000 then .ok (.obj h.length) (h ++ [.lst (xs ++ ys)]) else .bad
    | _, _ => .bad
theorem ou_addN : OpU g X (binaryOp .Add) sAddN := ⟨_, op_cat, fun E r H h u y v w Q wd d1 d2 p => by
  unfold sAddN at p
  split at p
  · rename_i xs ys e1 e2
    split at p
    · rename_i hl
      obtain ⟨a, vs, rfl, q1, f1⟩ := asW_dv wd e1 d1
      obtain ⟨b, ws, rfl, q2, f2⟩ := asW_dv wd e2 d2
      exact ⟨a, b, vs, ws, rfl, rfl, q1, q2, le1000 (by rw [f1.length, f2.length]; exact hl), fin_obj wd (f1.app f2) p⟩
    · exact p.elim
  · exact p.elim⟩
theorem ou_add (C : Cxt g X E) : OpU g X (binaryOp .Add) sAdd := ⟨_, op_add.or (op_catT.or op_cat), fun E r H h u y v w Q wd d1 d2 p => by
  unfold sAdd at p
  split at p
  · simp only [DV] at d1 d2
    subst d1 d2
    exact .inl ⟨_, _, rfl, rfl, fin_here wd (by simp [DV]) p⟩
  · rename_i xs ys
    split at p
    · rename_i hl
      obtain ⟨a, vs, rfl, q1, f1⟩ := asT_dv (u := .seq .tup xs) rfl d1
      obtain ⟨b, ws, rfl, q2, f2⟩ := asT_dv (u := .seq .tup ys) rfl d2
      rw [← C.K] at q1 q2
      refine .inr (.inl ⟨a, b, vs, ws, rfl, rfl, q1, q2, fun z => hl.1 ?_, le1000 (by rw [f1.length, f2.length]; exact hl.2), fun z => ?_, fun z => fin_tup wd (f1.app f2) p⟩)
      · have := f1.length; rw [z] at this; exact List.length_eq_zero_iff.mp this.symm
      · have e : ys = [] := by have := f2.length; rw [z] at this; exact List.length_eq_zero_iff.mp this.symm
        subst e
        rw [List.append_nil] at p
        exact fin_here wd d1 p
    · exact p.elim
  · split at p
    · rename_i xs ys e1 e2
      split at p
      · rename_i hl
        obtain ⟨a, vs, rfl, q1, f1⟩ := asW_dv wd e1 d1
        obtain ⟨b, ws, rfl, q2, f2⟩ := asW_dv wd e2 d2
        exact .inr (.inr ⟨a, b, vs, ws, rfl, rfl, q1, q2, le1000 (by rw [f1.length, f2.length]; exact hl), fin_lst wd (f1.app f2) p⟩)
      · exact p.elim
    · exact p.elim⟩

/-! ### is None, in -/
def isNon : U → Bool
  | .non => true
  | _ => false
theorem isNon_dv {r : List Addr} {H : Hp} {u : U} {v : V} (d : DV g r H u v) : decide (v = .non) = isNon u := by
  cases u with
  | non => simp only [DV] at d; subst d; rfl
  | bl b => simp only [DV] at d; subst d; rfl
  | int b => simp only [DV] at d; subst d; rfl
  | str b => simp only [DV] at d; subst d; rfl
  | seq k us => simp only [DV] at d; obtain ⟨a, vs, rfl, _⟩ := d; rfl
  | obj i => simp only [DV] at d; obtain ⟨a, rfl, _⟩ := d; rfl
def sIsN : U → U → AH → Out U := fun u w h => match w with
  | .non => .ok (.bl (isNon u)) h
  | _ => .bad
def sNotN : U → U → AH → Out U := fun u w h => match w with
  | .non => .ok (.bl !(isNon u)) h
  | _ => .bad
theorem ou_isN : OpU g X (compareOp .Is) sIsN := ⟨_, op_isN, fun E r H h u y v w Q wd d1 d2 p => by
  unfold sIsN at p
  split at p
  · simp only [DV] at d2
    subst d2
    exact ⟨rfl, by rw [isNon_dv d1]; exact fin_here wd (by simp [DV]) p⟩
  · exact p.elim⟩
theorem ou_notN : OpU g X (compareOp .IsNot) sNotN := ⟨_, op_notN, fun E r H h u y v w Q wd d1 d2 p => by
  unfold sNotN at p
  split at p
  · simp only [DV] at d2
    subst d2
    exact ⟨rfl, by rw [isNon_dv d1]; exact fin_here wd (by simp [DV]) p⟩
  · exact p.elim⟩
/-- numbers and texts -/
def flU : U → Option V
  | .int i => some (.int i)
  | .str x => some (.str x)
  | _ => none
def sIn : U → U → AH → Out U := fun u w h => match flU u, w with
  | some x, .seq .tup us => match us.mapM flU with
    | some xs => .ok (.bl (inV x xs)) h
    | none => .bad
  | _, _ => .bad
theorem flU_dv {r : List Addr} {H : Hp} {u : U} {v x : V} (e : flU u = some x) (d : DV g r H u v) : v = x ∧ flatV v = true := by
  cases u with
  | int b => simp only [DV] at d; subst d; cases e; exact ⟨rfl, rfl⟩
  | str b => simp only [DV] at d; subst d; cases e; exact ⟨rfl, rfl⟩
  | _ => cases e
theorem flUs_dv {r : List Addr} {H : Hp} : ∀ {us : List U} {vs xs : List V}, us.mapM flU = some xs → DVs g r H us vs → vs = xs ∧ vs.all flatV = true
  | [], vs, xs, e, d => by simp only [DVs] at d; subst d; simp at e; subst e; exact ⟨rfl, rfl⟩
  | u :: us, vs, xs, e, d => by
    simp only [DVs] at d
    obtain ⟨v, ws, rfl, d1, d2⟩ := d
    rw [List.mapM_cons] at e
    cases e1 : flU u with
    | none => rw [e1] at e; cases e
    | some x =>
      cases e2 : us.mapM flU with
      | none => rw [e1, e2] at e; cases e
      | some zs =>
        rw [e1, e2] at e
        cases e
        obtain ⟨rfl, f1⟩ := flU_dv e1 d1
        obtain ⟨rfl, f2⟩ := flUs_dv e2 d2
        exact ⟨rfl, by rw [List.all_cons, f1, f2]; rfl⟩
theorem ou_in (C : Cxt g X E) : OpU g X (compareOp .In) sIn := ⟨_, op_in_seq, fun E r H h u y v w Q wd d1 d2 p => by
  unfold sIn at p
  split at p
  · rename_i x us e1
    split at p
    · rename_i xs e2
      obtain ⟨rfl, f1⟩ := flU_dv e1 d1
      obtain ⟨a, vs, rfl, q2, d2⟩ := asT_dv (u := .seq .tup us) rfl d2
      obtain ⟨rfl, f2⟩ := flUs_dv e2 d2
      rw [← C.K] at q2
      exact ⟨a, vs, rfl, .inr q2, f1, f2, fin_here wd (by simp [DV]) p⟩
    · exact p.elim
  · exact p.elim⟩
end
end Wk
set_option maxRecDepth 100000
set_option maxHeartbeats 4000000
/-! Fw5: subscripts, slices, fields, tests, built-in calls, methods of lists, join. -/
namespace Wk
open PySem PySem.Spec PyProof.Rows L2

/-! ### subscripts -/
def sIx : U → U → AH → Out U := fun u w h => match u, w with
  | .str z, .int i => if z.length ≤ 1000 then match atI z.cps.toList i with
    | some c => .ok (.str ⟨#[c]⟩) h
    | none => .bad
    else .bad
  | u, .int i => match asSeq h u with
    | some us => match atI us i with
      | some x => .ok x h
      | none => .bad
    | none => .bad
  | _, _ => .bad
/-- a dict by a text -/
def asD (h : AH) : U → Option (List (Str × U))
  | .obj i => match h[i]? with
    | some (.dct kvs) => some kvs
    | _ => none
  | _ => none
def sGet : U → U → AH → Out U := fun u w h => match asD h u, w with
  | some kvs, .str k => match look kvs k with
    | some x => .ok x h
    | none => .bad
  | _, _ => .bad
section
variable {g : Gd} {r : List Addr} {H : Hp} {h : AH}
theorem atI_dv {us : List U} {vs : List V} {i : Int} {u : U} (d : DVs g r H us vs) (e : atI us i = some u) : ∃ v, atI vs i = some v ∧ DV g r H u v := by
  unfold atI at e ⊢
  rw [d.length]
  cases q : ixN us.length i with
  | none => rw [q] at e; cases e
  | some j =>
    rw [q] at e
    exact DVs.get d e
theorem asD_dv {u : U} {kvs : List (Str × U)} {v : V} (w : Wd g r H h) (e : asD h u = some kvs) (d : DV g r H u v) :
    ∃ i a kws, u = .obj i ∧ v = .ref a ∧ r[i]? = some a ∧ h[i]? = some (.dct kvs) ∧ H a = some (.dK kws) ∧ kws.length ≤ kvs.length ∧ ∀ k u, look kvs k = some u → ∃ v, valV kws (Sum.inr k : Key) = some v ∧ DV g r H u v := by
  cases u with
  | obj i =>
    simp only [DV] at d
    obtain ⟨a, rfl, q⟩ := d
    simp only [asD] at e
    split at e
    · rename_i xs hx
      cases e
      obtain ⟨b, hb, m⟩ := w.ok i _ hx
      rw [q] at hb; cases hb
      obtain ⟨vs, m, l, d⟩ := m
      exact ⟨i, a, vs, rfl, rfl, q, hx, m, l, d⟩
    · cases e
  | _ => cases e
end
section
variable {g : Gd} {X : Cx} {E : WE'} {e a b o : Expr} {es : List Expr} {pos : Pos} {m ma mb : ME} {mas : MA}
theorem pm_ix (C : Cxt g X E) (ha : PE X a (tM g E ma)) (hb : PE X b (tM g E mb)) (hs : PlainIx b) : PE X (.Subscript a b pos) (tM g E (eOp sIx ma mb)) := by
  refine PEw (pe_ix ix_seq ha hb hs) (tOp_of fun E r H h u y v w Q wd d1 d2 p => ?_)
  unfold sIx at p
  split at p
  · rename_i z i
    split at p
    · rename_i hz
      split at p
      · rename_i c hc
        simp only [DV] at d1 d2
        subst d1 d2
        exact .inr (.inr ⟨z, i, c, rfl, rfl, le1000 hz, hc, fin_here wd (by simp [DV]) p⟩)
      · exact p.elim
    · exact p.elim
  · rename_i i hn
    simp only [DV] at d2
    subst d2
    split at p
    · rename_i us e1
      split at p
      · rename_i x e2
        obtain ⟨a, vs, rfl, q1, f1⟩ := asSeq_dv wd e1 d1
        obtain ⟨v, e3, d3⟩ := atI_dv f1 e2
        rw [C.K]
        rcases q1 with q1 | q1
        · exact .inl ⟨a, vs, i, v, rfl, rfl, q1, e3, fin_here wd d3 p⟩
        · exact .inr (.inl ⟨a, vs, i, v, rfl, rfl, q1, e3, fin_here wd d3 p⟩)
      · exact p.elim
    · exact p.elim
  · exact p.elim
theorem pm_get (C : Cxt g X E) (ha : PE X a (tM g E ma)) (hb : PE X b (tM g E mb)) (hs : NoSl b) : PE X (.Subscript a b pos) (tM g E (eOp sGet ma mb)) := by
  refine PEw (pe_dget (by have := C.room; omega) ha hb hs) fun σ H Q hq => ?_
  obtain ⟨r, hh, ls, w, l, p⟩ := hq
  refine tM_bind w l p fun v H1 r1 h1 u e1 w1 l1 d1 p1 => ?_
  refine tM_bind w1 l1 p1 fun y H2 r2 h2 us e2 w2 l2 d2 p2 => ?_
  unfold sGet at p2
  split at p2
  · rename_i kvs k hk
    split at p2
    · rename_i x hx
      simp only [DV] at d2
      subst d2
      obtain ⟨i, a, vs, rfl, rfl, _, _, q, _, f⟩ := asD_dv w2 hk (DV.ext e2 _ _ d1)
      obtain ⟨z, h3, h4⟩ := f k x hx
      exact ⟨a, z, rfl, .inl ⟨_, Sum.inr k, .inl q, rfl, h3.symm⟩, fin_here w2 h4 p2⟩
    · exact p2.elim
  · exact p2.elim

/-! ### slices -/
abbrev MOp := Loc → AH → Out (Option Int)
def oNone : MOp := fun _ h => .ok none h
def oSome (m : ME) : MOp := fun ls h => (m ls h).bind fun u h1 => match u with
  | .int i => .ok (some i) h1
  | _ => .bad
abbrev Ro : List Addr → Hp → Option Int → Option Int → Prop := fun _ _ a b => a = b
def tMO (g : Gd) (E : WE') (m : MOp) : TO := fun σ H Q => ∃ r h ls, Wd g r H h ∧ LOk g r H ls σ ∧ Po g (E σ) Ro r H Q (m ls h)
theorem POw {e : Option Expr} {t t' : TO} (h : PO X e t) (k : ∀ σ H Q, t' σ H Q → t σ H Q) : PO X e t' := ⟨fun pins s σ H Q I q => h.run pins s σ H Q I (k σ H Q q)⟩
theorem pm_onone : PO X none (tMO g E oNone) := POw po_none fun σ H Q hq => by
  obtain ⟨r, hh, ls, w, l, p⟩ := hq
  exact p r H _ Ext.refl w rfl
theorem pm_osome (he : PE X e (tM g E m)) : PO X (some e) (tMO g E (oSome m)) := POw (po_some he) fun σ H Q hq => by
  obtain ⟨r, hh, ls, w, l, p⟩ := hq
  refine tM_bind w l p fun v H1 r1 h1 u e1 w1 l1 d1 p1 => ?_
  cases u with
  | int i => exact ⟨i, by simpa [DV] using d1, p1 r1 H1 _ Ext.refl w1 rfl⟩
  | _ => exact p1.elim
def cutU (us : List U) (lo hi : Option Int) : List U := (us.drop (HT.sIx us.length 0 lo)).take (HT.sIx us.length us.length hi - HT.sIx us.length 0 lo)
theorem cut_dv {r : List Addr} {H : Hp} {us : List U} {vs : List V} {lo hi : Option Int} (d : DVs g r H us vs) : DVs g r H (cutU us lo hi) (cutV vs lo hi) := by
  unfold cutU cutV
  rw [d.length]
  exact (d.dropN _).takeN _
def sSl : U → Option Int → Option Int → AH → Out U := fun u lo hi h => match u with
  | .seq .tup us => if HT.sIx us.length 0 lo = 0 ∧ HT.sIx us.length us.length hi = us.length then .bad else .ok (.seq .tup (cutU us lo hi)) h
  | u => match asL h u with
    | some us => .ok (.seq .lst (cutU us lo hi)) h
    | none => .bad
def eSl (m : ME) (lo hi : MOp) : ME := fun ls h => (m ls h).bind fun u h1 => (lo ls h1).bind fun l h2 => (hi ls h2).bind fun t h3 => sSl u l t h3
theorem tMO_bind {γ δ : Type} {m : MOp} {R2 : List Addr → Hp → γ → δ → Prop} {r : List Addr} {H : Hp} {h : AH} {ls : Loc} {σ : L2.St} {f : Option Int → AH → Out γ} {Q2 : δ → Hp → Prop} {Q : Option Int → Hp → Prop}
    (w : Wd g r H h) (l : LOk g r H ls σ) (p : Po g (E σ) R2 r H Q2 ((m ls h).bind f))
    (k : ∀ b H' r' h', Ext r H r' H' → Wd g r' H' h' → LOk g r' H' ls σ → Po g (E σ) R2 r' H' Q2 (f b h') → Q b H') : tMO g E m σ H Q :=
  ⟨r, h, ls, w, l, (Po.bind (R := Ro) p).mono fun v H' ⟨r', h', u, e, w', d, q⟩ => k v H' r' h' e w' (l.ext e) (d ▸ q)⟩
theorem pm_sl (C : Cxt g X E) {lo hi : Option Expr} {p2 : Pos} {ml mh : MOp} (he : PE X e (tM g E m)) (hl : PO X lo (tMO g E ml)) (hu : PO X hi (tMO g E mh)) : PE X (.Subscript e (.Slice lo hi none p2) pos) (tM g E (eSl m ml mh)) := by
  refine PEw (pe_slice (sl_tup.or sl_list) he hl hu) fun σ H Q hq => ?_
  obtain ⟨r, hh, ls, w, l, p⟩ := hq
  refine tM_bind w l p fun v H1 r1 h1 u e1 w1 l1 d1 p1 => ?_
  refine tMO_bind w1 l1 p1 fun lo' H2 r2 h2 e2 w2 l2 p2 => ?_
  refine tMO_bind w2 l2 p2 fun hi' H3 r3 h3 e3 w3 l3 p3 => ?_
  have d3 := DV.ext (e2.trans e3) _ _ d1
  unfold sSl at p3
  split at p3
  · rename_i us
    split at p3
    · exact p3.elim
    · rename_i hn
      obtain ⟨a, vs, rfl, q, f⟩ := asT_dv (u := .seq .tup us) rfl d3
      rw [← C.K] at q
      exact .inl ⟨a, vs, rfl, q, by rw [f.length]; exact hn, fin_tup w3 (cut_dv f) p3⟩
  · split at p3
    · rename_i us e4
      obtain ⟨a, vs, rfl, q, f⟩ := asL_dv w3 e4 d3
      rw [← C.K] at q
      exact .inr ⟨a, vs, rfl, q, fin_lst w3 (cut_dv f) p3⟩
    · exact p3.elim

/-! ### fields of the log -/
def asI (h : AH) : U → Option (List (Str × U))
  | .obj i => match h[i]? with
    | some (.ins fs) => some fs
    | _ => none
  | _ => none
theorem asI_dv {r : List Addr} {H : Hp} {h : AH} {u : U} {fs : List (Str × U)} {v : V} (w : Wd g r H h) (e : asI h u = some fs) (d : DV g r H u v) :
    ∃ i a dx vs, u = .obj i ∧ v = .ref a ∧ r[i]? = some a ∧ h[i]? = some (.ins fs) ∧ H a = some (.ins g.CL dx ((fs.map (·.1)).zip vs)) ∧ DVs g r H (fs.map (·.2)) vs := by
  cases u with
  | obj i =>
    simp only [DV] at d
    obtain ⟨a, rfl, q⟩ := d
    simp only [asI] at e
    split at e
    · rename_i xs hx
      cases e
      obtain ⟨b, hb, m⟩ := w.ok i _ hx
      rw [q] at hb; cases hb
      obtain ⟨dx, vs, m, d⟩ := m
      exact ⟨i, a, dx, vs, rfl, rfl, q, hx, m, d⟩
    · cases e
  | _ => cases e
theorem fld_dv {r : List Addr} {H : Hp} : ∀ {fs : List (Str × U)} {vs : List V} {k : Str} {x : U}, DVs g r H (fs.map (·.2)) vs → fs.lookup k = some x → ∃ v, ((fs.map (·.1)).zip vs).lookup k = some v ∧ DV g r H x v
  | [], vs, k, x, d, e => by cases e
  | (k', u) :: kvs, vs, k, x, d, e => by
    simp only [List.map_cons, DVs] at d
    obtain ⟨v, ws, rfl, d1, d2⟩ := d
    rw [List.lookup_cons] at e
    rw [List.map_cons, List.zip_cons_cons, List.lookup_cons]
    cases hk : k == k' with
    | true => rw [hk] at e; cases e; exact ⟨v, rfl, d1⟩
    | false => rw [hk] at e; exact fld_dv d2 e
theorem fld_dvN {r : List Addr} {H : Hp} : ∀ {fs : List (Str × U)} {vs : List V} {k : Str}, DVs g r H (fs.map (·.2)) vs → fs.lookup k = none → ((fs.map (·.1)).zip vs).lookup k = none
  | [], vs, k, d, e => by rfl
  | (k', u) :: kvs, vs, k, d, e => by
    simp only [List.map_cons, DVs] at d
    obtain ⟨v, ws, rfl, d1, d2⟩ := d
    rw [List.lookup_cons] at e
    rw [List.map_cons, List.zip_cons_cons, List.lookup_cons]
    cases hk : k == k' with
    | true => rw [hk] at e; cases e
    | false => rw [hk] at e; exact fld_dvN d2 e
def sFl (f : Str) : U → AH → Out U := fun u h => match asI h u with
  | some fs => match fs.lookup f with
    | some x => .ok x h
    | none => .bad
  | none => .bad
theorem pm_fld (C : Cxt g X E) {f : Str} (he : PE X e (tM g E m)) (c : Cls g.K g.CL) (n : NoAttr g.K g.CL f) (hb : attributeBase e f X.env (eval e X.env) = eval e X.env) : PE X (.Attribute e f pos) (tM g E (eUn (sFl f) m)) := by
  refine PEw (pe_fld he hb) fun σ H Q hq => ?_
  obtain ⟨r, hh, ls, w, l, p⟩ := hq
  refine tM_bind w l p fun v H1 r1 h1 u e1 w1 l1 d1 p1 => ?_
  unfold sFl at p1
  split at p1
  · rename_i fs e2
    split at p1
    · rename_i x hx
      obtain ⟨i, a, dx, vs, rfl, rfl, _, _, q, f1⟩ := asI_dv w1 e2 d1
      obtain ⟨z, h3, h4⟩ := fld_dv f1 hx
      exact ⟨a, g.CL, dx, _, z, rfl, q, C.K ▸ c, C.K ▸ n, h3, fin_here w1 h4 p1⟩
    · exact p1.elim
  · exact p1.elim

/-! ### tests -/
theorem pm_val (he : PE X e (tM g E m)) (h : ∀ whole, isTrue e X.env whole = (do let v ← whole; standAt e.pos; holding [v] (truthy v)) := by intro _; rfl) : PT X e (tMT g E (tst m)) := by
  refine PTw (pt_val he h) fun σ H Q hq => ?_
  obtain ⟨r, hh, ls, w, l, p⟩ := hq
  refine tM_bind w l p fun v H1 r1 h1 u e1 w1 l1 d1 p1 => ?_
  cases u with
  | bl b => exact ⟨b, by simpa [DV] using d1, p1 r1 H1 b Ext.refl w1 rfl⟩
  | _ => exact p1.elim
def tNotM (m : MT) : MT := fun ls h => (m ls h).bind fun b h1 => .ok (!b) h1
def tAndM (a b : MT) : MT := fun ls h => (a ls h).bind fun c h1 => if c then b ls h1 else .ok false h1
def tOrM (a b : MT) : MT := fun ls h => (a ls h).bind fun c h1 => if c then .ok true h1 else b ls h1
section
variable {mt mu : MT} {rest : List Expr}
theorem pm_not (ha : PT X a (tMT g E mt)) : PT X (.UnaryOp .Not a pos) (tMT g E (tNotM mt)) := PTw (pt_not ha) fun σ H Q hq => by
  obtain ⟨r, hh, ls, w, l, p⟩ := hq
  exact tMT_bind w l p fun b H1 r1 h1 e1 w1 l1 p1 => p1 r1 H1 _ Ext.refl w1 rfl
theorem PWw {t t' : TT} (h : PW X e t) (k : ∀ σ H Q, t' σ H Q → t σ H Q) : PW X e t' := ⟨fun wh pins s σ H Q I q => h.run wh pins s σ H Q I (k σ H Q q)⟩
theorem pw_and1M (ha : PT X a (tMT g E mt)) : PW X (.BoolOp .And [a] pos) (tMT g E mt) := pw_and1 ha
theorem pw_or1M (ha : PT X a (tMT g E mt)) : PW X (.BoolOp .Or [a] pos) (tMT g E mt) := pw_or1 ha
theorem pw_andM (ha : PT X a (tMT g E mt)) (hb : PW X (.BoolOp .And (b :: rest) pos) (tMT g E mu)) : PW X (.BoolOp .And (a :: b :: rest) pos) (tMT g E (tAndM mt mu)) := PWw (pw_and ha hb) fun σ H Q hq => by
  obtain ⟨r, hh, ls, w, l, p⟩ := hq
  refine tMT_bind w l p fun c H1 r1 h1 e1 w1 l1 p1 => ?_
  cases c with
  | true => exact ⟨r1, h1, ls, w1, l1, p1⟩
  | false => exact p1 r1 H1 _ Ext.refl w1 rfl
theorem pw_orM (ha : PT X a (tMT g E mt)) (hb : PW X (.BoolOp .Or (b :: rest) pos) (tMT g E mu)) : PW X (.BoolOp .Or (a :: b :: rest) pos) (tMT g E (tOrM mt mu)) := PWw (pw_or ha hb) fun σ H Q hq => by
  obtain ⟨r, hh, ls, w, l, p⟩ := hq
  refine tMT_bind w l p fun c H1 r1 h1 e1 w1 l1 p1 => ?_
  cases c with
  | true => exact p1 r1 H1 _ Ext.refl w1 rfl
  | false => exact ⟨r1, h1, ls, w1, l1, p1⟩
end
/-- as values (bools) -/
def eNot (m : ME) : ME := fun ls h => (m ls h).bind fun u h1 => match u with
  | .bl b => .ok (.bl !b) h1
  | _ => .bad
def eAnd (a b : ME) : ME := fun ls h => (a ls h).bind fun u h1 => match u with
  | .bl c => if c then b ls h1 else .ok (.bl false) h1
  | _ => .bad
def eOr (a b : ME) : ME := fun ls h => (a ls h).bind fun u h1 => match u with
  | .bl c => if c then .ok (.bl true) h1 else b ls h1
  | _ => .bad
section
variable {rest : List Expr}
theorem pm_notV (ha : PE X a (tM g E ma)) : PE X (.UnaryOp .Not a pos) (tM g E (eNot ma)) := PEw (pe_not ha) fun σ H Q hq => by
  obtain ⟨r, hh, ls, w, l, p⟩ := hq
  refine tM_bind w l p fun v H1 r1 h1 u e1 w1 l1 d1 p1 => ?_
  cases u with
  | bl b => exact ⟨b, by simpa [DV] using d1, fin_here w1 (by simp [DV]) p1⟩
  | _ => exact p1.elim
theorem pm_oneV {op : BoolOp} (ha : PE X a (tM g E ma)) : PE X (.BoolOp op [a] pos) (tM g E ma) := pe_one ha
theorem pm_andV (ha : PE X a (tM g E ma)) (hb : PE X (.BoolOp .And (b :: rest) pos) (tM g E mb)) : PE X (.BoolOp .And (a :: b :: rest) pos) (tM g E (eAnd ma mb)) := PEw (pe_and ha hb) fun σ H Q hq => by
  obtain ⟨r, hh, ls, w, l, p⟩ := hq
  refine tM_bind w l p fun v H1 r1 h1 u e1 w1 l1 d1 p1 => ?_
  cases u with
  | bl c =>
    refine ⟨c, by simpa [DV] using d1, ?_⟩
    cases c with
    | true => exact ⟨r1, h1, ls, w1, l1, p1⟩
    | false => exact fin_here w1 (by simp [DV]) p1
  | _ => exact p1.elim
theorem pm_orV (ha : PE X a (tM g E ma)) (hb : PE X (.BoolOp .Or (b :: rest) pos) (tM g E mb)) : PE X (.BoolOp .Or (a :: b :: rest) pos) (tM g E (eOr ma mb)) := PEw (pe_or ha hb) fun σ H Q hq => by
  obtain ⟨r, hh, ls, w, l, p⟩ := hq
  refine tM_bind w l p fun v H1 r1 h1 u e1 w1 l1 d1 p1 => ?_
  cases u with
  | bl c =>
    refine ⟨c, by simpa [DV] using d1, ?_⟩
    cases c with
    | true => exact fin_here w1 (by simp [DV]) p1
    | false => exact ⟨r1, h1, ls, w1, l1, p1⟩
  | _ => exact p1.elim
end

/-! ### calls of built-ins -/
def eCall (f : List U → AH → Out U) (ma : MA) : ME := fun ls h => (ma ls h).bind fun us h1 => f us h1
def CallU (g : Gd) (X : Cx) (f : Value) (m : List U → AH → Out U) : Prop :=
  ∃ rr, CallR X f rr ∧ ∀ (E : XK) r H h us vs Q, Wd g r H h → DVs g r H us vs → Po g E (DV g) r H Q (m us h) → rr vs H Q
theorem tCB_of {rr : List V → Hp → VK → Prop} {f : List U → AH → Out U} (k : ∀ (E : XK) r H h us vs Q, Wd g r H h → DVs g r H us vs → Po g E (DV g) r H Q (f us h) → rr vs H Q) :
    ∀ σ H Q, tM g E (eCall f mas) σ H Q → tCB rr (tMA g E mas) σ H Q := fun σ H Q hq => by
  obtain ⟨r, hh, ls, w, l, p⟩ := hq
  exact tMA_bind w l p fun vs H2 r2 h2 us e2 w2 l2 d2 p2 => k _ r2 H2 h2 us vs Q w2 d2 p2
theorem pm_callB {x : Str} {pf : Pos} {id : String} {f : List U → AH → Out U} (hc : CallU g X (.builtin id) f) (hg : Gl X x) (hm : X.mg x = none) (hv : bootBuiltins x = some (.builtin id)) (ha : PA X (e :: es) (tMA g E mas)) (hn : x ≠ "__name__" := by decide) (hdb : (x == ("__debug__" : Str)) = false := by decide)
    (he : starEach (e :: es) X.env = (false, eval e X.env) :: starEach es X.env := by rfl) (hpl : (backTo pos (starEach es X.env)).any (·.1) = false := by rfl) : PE X (.Call (.Name x pf) (e :: es) [] pos) (tM g E (eCall f mas)) := by
  obtain ⟨rr, hr, k⟩ := hc
  exact PEw (pe_callB hr hg hm hv ha hn hdb he hpl) (tCB_of k)
theorem pm_callTy {x : Str} {pf : Pos} {id : String} {f : List U → AH → Out U} (hc : CallU g X (.type id) f) (hg : Gl X x) (hm : X.mg x = none) (hv : bootBuiltins x = some (.type id)) (ha : PA X (e :: es) (tMA g E mas)) (hn : x ≠ "__name__" := by decide) (hdb : (x == ("__debug__" : Str)) = false := by decide)
    (he : starEach (e :: es) X.env = (false, eval e X.env) :: starEach es X.env := by rfl) (hpl : (backTo pos (starEach es X.env)).any (·.1) = false := by rfl) : PE X (.Call (.Name x pf) (e :: es) [] pos) (tM g E (eCall f mas)) := by
  obtain ⟨rr, hr, k⟩ := hc
  exact PEw (pe_callTy hr hg hm hv ha hn hdb he hpl) (tCB_of k)
theorem dvs1 {r : List Addr} {H : Hp} {u : U} {vs : List V} (d : DVs g r H [u] vs) : ∃ v, vs = [v] ∧ DV g r H u v := by
  simp only [DVs] at d
  obtain ⟨v, ws, rfl, d1, rfl⟩ := d
  exact ⟨v, rfl, d1⟩
theorem dvs2 {r : List Addr} {H : Hp} {u w : U} {vs : List V} (d : DVs g r H [u, w] vs) : ∃ v y, vs = [v, y] ∧ DV g r H u v ∧ DV g r H w y := by
  simp only [DVs] at d
  obtain ⟨v, ws, rfl, d1, y, zs, rfl, d2, rfl⟩ := d
  exact ⟨v, y, rfl, d1, d2⟩
def bLen : List U → AH → Out U := fun us h => match us with
  | [u] => match asSeq h u with
    | some xs => .ok (.int xs.length) h
    | none => .bad
  | _ => .bad
theorem cu_len (C : Cxt g X E) : CallU g X (.builtin "len") bLen := ⟨_, call_len_seq, fun E r H h us vs Q wd d p => by
  unfold bLen at p
  split at p
  · rename_i u
    split at p
    · rename_i xs e1
      obtain ⟨v, rfl, dx⟩ := dvs1 d
      obtain ⟨a, ws, rfl, q, f⟩ := asSeq_dv wd e1 dx
      rw [← C.K] at q
      exact ⟨a, ws, rfl, q, fin_here wd (by simp [DV, f.length]) p⟩
    · exact p.elim
  · exact p.elim⟩
def bTuple : List U → AH → Out U := fun us h => match us with
  | [u] => match asSeq h u with
    | some xs => .ok (.seq .tup xs) h
    | none => .bad
  | _ => .bad
theorem cu_tuple (C : Cxt g X E) : CallU g X (.type "tuple") bTuple := ⟨_, call_tuple_of, fun E r H h us vs Q wd d p => by
  unfold bTuple at p
  split at p
  · rename_i u
    split at p
    · rename_i xs e1
      obtain ⟨v, rfl, dx⟩ := dvs1 d
      cases e2 : asT u with
      | some ys =>
        have : u = .seq .tup ys := by
          cases u with
          | seq k _ => cases k <;> first | (cases e2; rfl) | cases e2
          | _ => cases e2
        subst this
        cases e1
        obtain ⟨a, ws, e, q, f⟩ := asT_dv e2 dx
        rw [← C.K] at q
        subst e
        exact ⟨a, ws, rfl, .inr ⟨q, fin_here wd dx p⟩⟩
      | none =>
        have e3 : asL h u = some xs := by
          cases u with
          | seq k _ => cases k <;> first | exact e1 | cases e2
          | obj i => exact e1
          | _ => cases e1
        obtain ⟨a, ws, rfl, q, f⟩ := asL_dv wd e3 dx
        rw [← C.K] at q
        exact ⟨a, ws, rfl, .inl ⟨q, fin_tup wd f p⟩⟩
    · exact p.elim
  · exact p.elim⟩
def bList : List U → AH → Out U := fun us h => match us with
  | [u] => match asSeq h u with
    | some xs => .ok (.seq .lst xs) h
    | none => .bad
  | _ => .bad
def bListN : List U → AH → Out U := fun us h => match us with
  | [u] => match asSeq h u with
    | some xs => .ok (.obj h.length) (h ++ [.lst xs])
    | none => .bad
  | _ => .bad
theorem cu_list (C : Cxt g X E) : CallU g X (.type "list") bList := ⟨_, call_list_of, fun E r H h us vs Q wd d p => by
  unfold bList at p
  split at p
  · rename_i u
    split at p
    · rename_i xs e1
      obtain ⟨v, rfl, dx⟩ := dvs1 d
      obtain ⟨a, ws, rfl, q, f⟩ := asSeq_dv wd e1 dx
      rw [← C.K] at q
      exact ⟨a, ws, rfl, q, fin_lst wd f p⟩
    · exact p.elim
  · exact p.elim⟩
theorem cu_listN (C : Cxt g X E) : CallU g X (.type "list") bListN := ⟨_, call_list_of, fun E r H h us vs Q wd d p => by
  unfold bListN at p
  split at p
  · rename_i u
    split at p
    · rename_i xs e1
      obtain ⟨v, rfl, dx⟩ := dvs1 d
      obtain ⟨a, ws, rfl, q, f⟩ := asSeq_dv wd e1 dx
      rw [← C.K] at q
      exact ⟨a, ws, rfl, q, fin_obj wd f p⟩
    · exact p.elim
  · exact p.elim⟩
def bInt : List U → AH → Out U := fun us h => match us with
  | [.bl b] => .ok (.int (if b then 1 else 0)) h
  | _ => .bad
theorem cu_int : CallU g X (.type "int") bInt := ⟨_, call_int1, fun E r H h us vs Q wd d p => by
  unfold bInt at p
  split at p
  · obtain ⟨v, rfl, dx⟩ := dvs1 d
    simp only [DV] at dx
    subst dx
    exact .inr ⟨_, rfl, fin_here wd (by simp [DV]) p⟩
  · exact p.elim⟩
def intU : U → Option Int
  | .int i => some i
  | _ => none
theorem intU_dv {r : List Addr} {H : Hp} : ∀ {us : List U} {vs : List V} {is : List Int}, us.mapM intU = some is → DVs g r H us vs → vs = is.map V.int
  | [], vs, xs, e, d => by simp only [DVs] at d; subst d; simp at e; subst e; rfl
  | u :: us, vs, xs, e, d => by
    simp only [DVs] at d
    obtain ⟨v, ws, rfl, d1, d2⟩ := d
    rw [List.mapM_cons] at e
    cases u with
    | int i =>
      cases e2 : us.mapM intU with
      | none => rw [e2] at e; cases e
      | some zs =>
        rw [e2] at e
        cases e
        simp only [DV] at d1
        rw [d1, intU_dv e2 d2]
        rfl
    | _ => cases e
def bSum : List U → AH → Out U := fun us h => match us with
  | [u] => match (asL h u).bind (fun xs => xs.mapM intU) with
    | some is => .ok (.int is.sum) h
    | none => .bad
  | _ => .bad
theorem cu_sum (C : Cxt g X E) : CallU g X (.builtin "sum") bSum := ⟨_, cr_sum C.calm, fun E r H h us vs Q wd d p => by
  unfold bSum at p
  split at p
  · rename_i u
    split at p
    · rename_i is e1
      obtain ⟨v, rfl, dx⟩ := dvs1 d
      cases e2 : asL h u with
      | none => rw [e2] at e1; cases e1
      | some xs =>
        rw [e2] at e1
        obtain ⟨a, ws, rfl, q, f⟩ := asL_dv wd e2 dx
        have := intU_dv e1 f
        subst this
        rw [← C.K] at q
        exact ⟨a, is, rfl, q, fin_here wd (by simp [DV]) p⟩
    · exact p.elim
  · exact p.elim⟩
/-- the least of a list that is not empty -/
def leastI : List Int → Int
  | [] => 0
  | [x] => x
  | x :: y :: r => min x (leastI (y :: r))
theorem leastI_le : ∀ {l : List Int} {x : Int}, x ∈ l → leastI l ≤ x
  | [a], x, h => by simp at h; subst h; exact Int.le_refl _
  | a :: b :: r, x, h => by
    rcases List.mem_cons.mp h with e | h
    · subst e; exact Int.min_le_left _ _
    · exact Int.le_trans (Int.min_le_right _ _) (leastI_le h)
theorem leastI_mem : ∀ {l : List Int}, l ≠ [] → leastI l ∈ l
  | [a], _ => by simp [leastI]
  | a :: b :: r, _ => by
    show min a (leastI (b :: r)) ∈ _
    have ih := leastI_mem (l := b :: r) (by simp)
    rcases Int.le_total a (leastI (b :: r)) with h | h
    · rw [Int.min_eq_left h]; simp
    · rw [Int.min_eq_right h]; exact List.mem_cons_of_mem _ ih
def bMin : List U → AH → Out U := fun us h => match us with
  | [u] => match (asL h u).bind (fun xs => xs.mapM intU) with
    | some is => if is = [] then .bad else .ok (.int (leastI is)) h
    | none => .bad
  | _ => .bad
theorem cu_min (C : Cxt g X E) : CallU g X (.builtin "min") bMin := ⟨_, cr_min C.calm, fun E r H h us vs Q wd d p => by
  unfold bMin at p
  split at p
  · rename_i u
    split at p
    · rename_i is e1
      split at p
      · exact p.elim
      · rename_i hne
        obtain ⟨v, rfl, dx⟩ := dvs1 d
        cases e2 : asL h u with
        | none => rw [e2] at e1; cases e1
        | some xs =>
          rw [e2] at e1
          obtain ⟨a, ws, rfl, q, f⟩ := asL_dv wd e2 dx
          have := intU_dv e1 f
          subst this
          rw [← C.K] at q
          refine ⟨a, is, rfl, q, List.length_pos_iff.mpr hne, fun m hm hle => ?_⟩
          have : m = leastI is := Int.le_antisymm (hle _ (leastI_mem hne)) (leastI_le hm)
          subst this
          exact fin_here wd (by simp [DV]) p
    · exact p.elim
  · exact p.elim⟩
/-! isinstance -/
inductive Ty5 where
  | int | bool | tuple | list | str
def Ty5.name : Ty5 → String
  | .int => "int"
  | .bool => "bool"
  | .tuple => "tuple"
  | .list => "list"
  | .str => "str"
/-- is it such a thing -/
def isA (h : AH) (u : U) (t : Ty5) : Option Bool := match u with
  | .non => some false
  | .bl _ => some (match t with | .int => true | .bool => true | _ => false)
  | .int _ => some (match t with | .int => true | _ => false)
  | .str _ => some (match t with | .str => true | _ => false)
  | .seq .tup _ => some (match t with | .tuple => true | _ => false)
  | .seq _ _ => some (match t with | .list => true | _ => false)
  | .obj i => match h[i]? with
    | some (.lst _) => some (match t with | .list => true | _ => false)
    | _ => none
def bIsi (t : Ty5) : List U → AH → Out U := fun us h => match us with
  | [u] => match isA h u t with
    | some b => .ok (.bl b) h
    | none => .bad
  | _ => .bad
theorem isA_dv {K : PySem.W.Frag} {r : List Addr} {H : Hp} {h : AH} {u : U} {v : V} {t : Ty5} {b : Bool} (w : Wd g r H h) (d : DV g r H u v) (e : isA h u t = some b) :
    ∃ n, TyX g.K H v (.type n) ∧ PySem.W.kitOne K (.type n) (.type t.name) = some b := by
  cases u with
  | non => simp only [DV] at d; subst d; simp only [isA] at e; cases e; exact ⟨"NoneType", .base .non, by cases t <;> exact kit_ty (by decide +kernel)⟩
  | bl x => simp only [DV] at d; subst d; simp only [isA] at e; cases t <;> cases e <;> exact ⟨"bool", .base (.bl x), kit_ty (by decide +kernel)⟩
  | int x => simp only [DV] at d; subst d; simp only [isA] at e; cases t <;> cases e <;> exact ⟨"int", .base (.int x), kit_ty (by decide +kernel)⟩
  | str x => simp only [DV] at d; subst d; simp only [isA] at e; cases t <;> cases e <;> exact ⟨"str", .base (.str x), kit_ty (by decide +kernel)⟩
  | seq k us =>
    simp only [DV] at d
    obtain ⟨a, vs, rfl, q, _⟩ := d
    cases k with
    | tup =>
      have : TyX g.K H (.ref a) (.type "tuple") := by
        rcases q with ⟨q | ⟨o, q⟩, _, _⟩ | ⟨o, its, n, q1, q2, _⟩
        · exact .base (.tup q)
        · exact .fTuple q
        · exact .kTuple q1 q2
      simp only [isA] at e
      cases t <;> cases e <;> exact ⟨"tuple", this, kit_ty (by decide +kernel)⟩
    | lst =>
      have : TyX g.K H (.ref a) (.type "list") := .base (.lst q.1)
      simp only [isA] at e
      cases t <;> cases e <;> exact ⟨"list", this, kit_ty (by decide +kernel)⟩
    | ro =>
      have : TyX g.K H (.ref a) (.type "list") := by
        rcases q with ⟨⟨o, q⟩, _⟩ | ⟨o, its, n, q1, q2, _⟩
        · exact .base (.frz q)
        · exact .kList q1 q2
      simp only [isA] at e
      cases t <;> cases e <;> exact ⟨"list", this, kit_ty (by decide +kernel)⟩
  | obj i =>
    simp only [isA] at e
    split at e
    · rename_i us hx
      obtain ⟨a, vs, rfl, q, _⟩ := asW_dv (u := .obj i) (us := us) w (by simp only [asW, hx]) d
      have : TyX g.K H (.ref a) (.type "list") := .base (.lst q)
      cases t <;> cases e <;> exact ⟨"list", this, kit_ty (by decide +kernel)⟩
    · cases e
theorem pm_isi (C : Cxt g X E) {x y : Str} {pf py : Pos} (t : Ty5) (hg : Gl X x) (hm : X.mg x = none) (hv : bootBuiltins x = some (.builtin "isinstance")) (he : PE X e (tM g E m)) (hgy : Gl X y) (hmy : X.mg y = none) (hvy : bootBuiltins y = some (.type t.name))
    (hn : x ≠ "__name__" := by decide) (hdb : (x == ("__debug__" : Str)) = false := by decide) (hny : y ≠ "__name__" := by decide) (hdby : (y == ("__debug__" : Str)) = false := by decide)
    (hs : starEach [e, .Name y py] X.env = (false, eval e X.env) :: starEach [.Name y py] X.env := by rfl) (hs2 : starEach [.Name y py] X.env = (false, eval (.Name y py) X.env) :: starEach [] X.env := by rfl) (hpl : (backTo pos (starEach [.Name y py] X.env)).any (·.1) = false := by rfl) :
    PE X (.Call (.Name x pf) [e, .Name y py] [] pos) (tM g E (eCall (bIsi t) (aCons m aNil))) := by
  have hy : PE X (.Name y py) (tC (.ty t.name)) := pe_bltn hgy hmy hvy rfl hny hdby
  refine PEw (pe_callB call_isi hg hm hv (pa_cons he (pa_cons hy pa_nil hs2) hs) hn hdb hs hpl) fun σ H Q hq => ?_
  obtain ⟨r, hh, ls, w, l, p⟩ := hq
  have p' : Po g (E σ) (DV g) r H Q ((m ls hh).bind fun u h1 => bIsi t [u] h1) := by
    simp only [eCall, aCons, aNil, Out.bind_ok] at p
    cases q : m ls hh with
    | ok u h1 => rw [q] at p; exact p
    | cut h1 => rw [q] at p; exact p
    | bad => rw [q] at p; exact p
  refine tM_bind w l p' fun v H1 r1 h1 u e1 w1 l1 d1 p1 => ?_
  simp only [bIsi] at p1
  split at p1
  · rename_i b hb
    obtain ⟨n, t1, t2⟩ := isA_dv (K := X.K) w1 d1 hb
    rw [← C.K] at t1
    exact ⟨v, .ty t.name, .type n, .type t.name, b, rfl, .ty _, t1, t2, fin_here w1 (by simp [DV]) p1⟩
  · exact p1.elim

/-! ### methods of lists; join -/
def mtAppend : U → List U → AH → Out U := fun u ws h => match u, ws with
  | .obj i, [w] => match h[i]? with
    | some (.lst us) => if us.length ≤ 999 then .ok .non (h.set i (.lst (us ++ [w]))) else .bad
    | _ => .bad
  | _, _ => .bad
def mtPop : U → List U → AH → Out U := fun u ws h => match u, ws with
  | .obj i, [] => match h[i]? with
    | some (.lst us) => match us[us.length - 1]? with
      | some x => .ok x (h.set i (.lst us.dropLast))
      | none => .bad
    | _ => .bad
  | _, _ => .bad
def mtClear : U → List U → AH → Out U := fun u ws h => match u, ws with
  | .obj i, [] => match h[i]? with
    | some (.lst us) => .ok .non (h.set i (.lst []))
    | _ => .bad
  | _, _ => .bad
/-- a list of ours -/
def isLo (h : AH) : U → Bool
  | .obj i => match h[i]? with
    | some (.lst _) => true
    | _ => false
  | _ => false
def eMt (f : U → List U → AH → Out U) (mo : ME) (ma : MA) : ME := fun ls h => (mo ls h).bind fun u h1 => if isLo h1 u then (ma ls h1).bind fun ws h2 => f u ws h2 else .bad
def eMt0 (f : U → List U → AH → Out U) (mo : ME) : ME := fun ls h => (mo ls h).bind fun u h1 => if isLo h1 u then f u [] h1 else .bad
theorem isLo_dv {r : List Addr} {H : Hp} {h : AH} {u : U} {v : V} (w : Wd g r H h) (d : DV g r H u v) (e : isLo h u = true) : tyV g.K "list" v H := by
  cases u with
  | obj i =>
    simp only [isLo] at e
    split at e
    · rename_i us hx
      obtain ⟨a, vs, rfl, q, _⟩ := asW_dv (u := .obj i) (us := us) w (by simp only [asW, hx]) d
      exact .inl ⟨rfl, vs, SqL.of q⟩
    · cases e
  | _ => cases e
/-- a list of ours: where it stands -/
theorem obj_dv {r : List Addr} {H : Hp} {h : AH} {i : Nat} {us : List U} {v : V} (w : Wd g r H h) (d : DV g r H (.obj i) v) (e : h[i]? = some (.lst us)) : ∃ a vs, v = .ref a ∧ r[i]? = some a ∧ H a = some (.lst vs) ∧ DVs g r H us vs := by
  simp only [DV] at d
  obtain ⟨a, rfl, q⟩ := d
  obtain ⟨b, hb, m⟩ := w.ok i _ e
  rw [q] at hb; cases hb
  obtain ⟨vs, m, d⟩ := m
  exact ⟨a, vs, rfl, q, m, d⟩
/-- a list of ours was written -/
theorem fin_wr {r : List Addr} {H : Hp} {h : AH} {E : XK} {Q : VK} {i : Nat} {a : Addr} {us : List U} {vs : List V} {u : U} {v : V} (w : Wd g r H h) (hi : r[i]? = some a) (d : DVs g r H us vs) (dv : DV g r H u v) (p : Po g E (DV g) r H Q (.ok u (h.set i (.lst us)))) :
    Q v (upd H a (.lst vs)) := by
  have hm := List.mem_of_getElem? hi
  exact p r _ _ (Ext.wr hm) (w.wr hi ⟨vs, upd_same, DVs.ext (Ext.wr hm) _ _ d⟩) (DV.ext (Ext.wr hm) _ _ dv)
theorem pm_append (C : Cxt g X E) {apos cpos : Pos} (ho : PE X o (tM g E m)) (ha : PA X [e] (tMA g E mas))
    (hbase : attributeBase o "append" X.env (eval o X.env) = eval o X.env := by rfl)
    (hfew : ((backTo cpos (starEach [e] X.env)).all (fun x => !x.1) && (backToKw cpos (keywordEach [] X.env)).all (fun x => x.1.isSome)
      && decide ([e].length + ([] : List Keyword).length + (if ([] : List Keyword).isEmpty then 0 else 1) < 30)) = true := by rfl)
    (hline : (apos.endLine == cpos.line) = true := by rfl) (hs : starEach [e] X.env = (false, eval e X.env) :: starEach [] X.env := by rfl) (hplain : (backTo cpos (starEach [] X.env)).any (·.1) = false := by rfl) :
    PE X (.Call (.Attribute o "append" apos) [e] [] cpos) (tM g E (eMt mtAppend m mas)) := by
  refine PEw (pe_bm PySem.F.plainAttrs_list PySem.F.slot_list_append PySem.F.type_list_append mt_append ho ha hbase hfew hline hs hplain) fun σ H Q hq => ?_
  obtain ⟨r, hh, ls, w, l, p⟩ := hq
  refine tM_bind w l p fun v H1 r1 h1 u e1 w1 l1 d1 p1 => ?_
  split at p1
  · rename_i hlo
    refine ⟨C.K ▸ isLo_dv w1 d1 hlo, tMA_bind w1 l1 p1 fun vs H2 r2 h2 ws e2 w2 l2 d2 p2 => ?_⟩
    unfold mtAppend at p2
    split at p2
    · rename_i i x
      split at p2
      · rename_i us hx
        split at p2
        · rename_i hl
          obtain ⟨y, rfl, dx⟩ := dvs1 d2
          obtain ⟨a, zs, rfl, hi, q, f⟩ := obj_dv w2 (DV.ext e2 _ _ d1) hx
          exact ⟨a, zs, y, rfl, rfl, q, small1000 (by rw [f.length]; omega), fin_wr w2 hi (f.app (DVs.one dx)) (by simp [DV]) p2⟩
        · exact p2.elim
      · exact p2.elim
    · exact p2.elim
  · exact p1.elim
theorem pm_pop (C : Cxt g X E) {apos cpos : Pos} (ho : PE X o (tM g E m))
    (hbase : attributeBase o "pop" X.env (eval o X.env) = eval o X.env := by rfl) (hline : (apos.endLine == cpos.line) = true := by rfl) : PE X (.Call (.Attribute o "pop" apos) [] [] cpos) (tM g E (eMt0 mtPop m)) := by
  refine PEw (pe_bm0 PySem.F.plainAttrs_list PySem.F.slot_list_pop PySem.F.type_list_pop mt_pop ho hbase hline) fun σ H Q hq => ?_
  obtain ⟨r, hh, ls, w, l, p⟩ := hq
  refine tM_bind w l p fun v H1 r1 h1 u e1 w1 l1 d1 p1 => ?_
  split at p1
  · rename_i hlo
    refine ⟨C.K ▸ isLo_dv w1 d1 hlo, ?_⟩
    unfold mtPop at p1
    split at p1
    · rename_i i
      split at p1
      · rename_i us hx
        split at p1
        · rename_i x hl
          obtain ⟨a, zs, rfl, hi, q, f⟩ := obj_dv w1 d1 hx
          obtain ⟨y, h3, h4⟩ := f.get hl
          exact ⟨a, zs, y, rfl, rfl, q, by rw [f.length]; exact h3, fin_wr w1 hi f.dropLastN h4 p1⟩
        · exact p1.elim
      · exact p1.elim
    · exact p1.elim
  · exact p1.elim
theorem pm_clear (C : Cxt g X E) {apos cpos : Pos} (ho : PE X o (tM g E m))
    (hbase : attributeBase o "clear" X.env (eval o X.env) = eval o X.env := by rfl) (hline : (apos.endLine == cpos.line) = true := by rfl) : PE X (.Call (.Attribute o "clear" apos) [] [] cpos) (tM g E (eMt0 mtClear m)) := by
  refine PEw (pe_bm0 PySem.F.plainAttrs_list PySem.F.slot_list_clear PySem.F.type_list_clear mt_clear ho hbase hline) fun σ H Q hq => ?_
  obtain ⟨r, hh, ls, w, l, p⟩ := hq
  refine tM_bind w l p fun v H1 r1 h1 u e1 w1 l1 d1 p1 => ?_
  split at p1
  · rename_i hlo
    refine ⟨C.K ▸ isLo_dv w1 d1 hlo, ?_⟩
    unfold mtClear at p1
    split at p1
    · rename_i i
      split at p1
      · rename_i us hx
        obtain ⟨a, zs, rfl, hi, q, f⟩ := obj_dv w1 d1 hx
        exact ⟨a, zs, rfl, rfl, q, fin_wr w1 hi DVs.nil (by simp [DV]) p1⟩
      · exact p1.elim
    · exact p1.elim
  · exact p1.elim
def strU : U → Option Str
  | .str i => some i
  | _ => none
theorem strU_dv {r : List Addr} {H : Hp} : ∀ {us : List U} {vs : List V} {is : List Str}, us.mapM strU = some is → DVs g r H us vs → vs = is.map V.str
  | [], vs, xs, e, d => by simp only [DVs] at d; subst d; simp at e; subst e; rfl
  | u :: us, vs, xs, e, d => by
    simp only [DVs] at d
    obtain ⟨v, ws, rfl, d1, d2⟩ := d
    rw [List.mapM_cons] at e
    cases u with
    | str i =>
      cases e2 : us.mapM strU with
      | none => rw [e2] at e; cases e
      | some zs =>
        rw [e2] at e
        cases e
        simp only [DV] at d1
        rw [d1, strU_dv e2 d2]
        rfl
    | _ => cases e
def sJoin : U → U → AH → Out U := fun u w h => match u, (asL h w).bind (fun xs => xs.mapM strU) with
  | .str a, some ys => if (ys.map (·.length)).sum + ys.length * a.length ≤ 16777216 then .ok (.str (Txt.join a ys)) h else .bad
  | _, _ => .bad
def isStrU : U → Bool
  | .str _ => true
  | _ => false
def eJoin (mo ma : ME) : ME := fun ls h => (mo ls h).bind fun u h1 => if isStrU u then (ma ls h1).bind fun w h2 => sJoin u w h2 else .bad
theorem pm_join (C : Cxt g X E) {apos cpos : Pos} (ho : PE X o (tM g E ma)) (he : PE X e (tM g E mb)) (hs : starEach [e] X.env = [(false, eval e X.env)] := by rfl)
    (hbase : attributeBase o "join" X.env (eval o X.env) = eval o X.env := by rfl) (hline : (apos.endLine == cpos.line) = true := by rfl) : PE X (.Call (.Attribute o "join" apos) [e] [] cpos) (tM g E (eJoin ma mb)) := by
  refine PEw (pe_join ho he hs hbase hline) fun σ H Q hq => ?_
  obtain ⟨r, hh, ls, w, l, p⟩ := hq
  refine tM_bind w l p fun v H1 r1 h1 u e1 w1 l1 d1 p1 => ?_
  cases u with
  | str a =>
    simp only [DV] at d1
    subst d1
    refine ⟨⟨a, rfl⟩, tM_bind w1 l1 p1 fun y H2 r2 h2 wy e2 w2 l2 d2 p2 => ?_⟩
    unfold sJoin at p2
    split at p2
    · rename_i _ _ a' ys e3 e4
      cases e3
      split at p2
      · rename_i hz
        cases e5 : asL h2 wy with
        | none => rw [e5] at e4; cases e4
        | some xs =>
          rw [e5] at e4
          obtain ⟨b, vs, rfl, q, f⟩ := asL_dv w2 e5 d2
          have := strU_dv e4 f
          subst this
          rw [← C.K] at q
          exact ⟨a, b, ys, rfl, rfl, .inl q, hz, fin_here w2 (by simp [DV]) p2⟩
      · exact p2.elim
    · exact p2.elim
  | _ => exact p1.elim
end
end Wk
set_option maxRecDepth 100000
set_option maxHeartbeats 4000000
/-! Fw6: statements, targets, while. -/
namespace Wk
open PySem PySem.Spec PyProof.Rows L2

def Out.s {α : Type} (o : Out α) (ls : Loc) (f : α → AH → OutS) : OutS := match o with
  | .ok a h => f a h
  | .cut h => .cut ls h
  | .bad => .bad
@[simp] theorem Out.s_ok {α : Type} (a : α) (h : AH) (ls : Loc) (f : α → AH → OutS) : (Out.ok a h).s ls f = f a h := rfl
@[simp] theorem Out.s_cut {α : Type} (h : AH) (ls : Loc) (f : α → AH → OutS) : (Out.cut h : Out α).s ls f = .cut ls h := rfl
@[simp] theorem Out.s_bad {α : Type} (ls : Loc) (f : α → AH → OutS) : (Out.bad : Out α).s ls f = .bad := rfl
def sNil : MS := fun ls h => .nx ls h
def sSeq (a b : MS) : MS := fun ls h => match a ls h with
  | .nx l k => b l k
  | o => o
def sCont : MS := fun ls h => .ct ls h
def sSet (i : Nat) (m : ME) : MS := fun ls h => (m ls h).s ls fun u h1 => .nx (ls.set i (some u)) h1
def sExpr (m : ME) : MS := fun ls h => (m ls h).s ls fun _ h1 => .nx ls h1
def sRet (m : ME) : MS := fun ls h => (m ls h).s ls fun u h1 => .rt u h1
def sIf (c : MT) (a b : MS) : MS := fun ls h => (c ls h).s ls fun t h1 => if t then a ls h1 else b ls h1
abbrev Tg := U → AH → Loc → Option Loc
def sAsg (T : Tg) (m : ME) : MS := fun ls h => (m ls h).s ls fun u h1 => match T u h1 ls with
  | some l => .nx l h1
  | none => .bad
def sNever : MS := fun _ _ => .bad
/-- raise Cut -/
def sRaise : MS := fun ls h => .cut ls h
def whileL (c : MT) (b : MS) : Nat → Loc → AH → OutS
  | 0, _, _ => .bad
  | n + 1, ls, h => (c ls h).s ls fun t h1 => if t then (match b ls h1 with
    | .nx l k => whileL c b n l k
    | .ct l k => whileL c b n l k
    | .bk l k => .nx l k
    | o => o) else .nx ls h1
def sWhile (N : Nat) (c : MT) (b : MS) : MS := fun ls h => whileL c b N ls h

section
variable {α β : Type} {g : Gd} {E : WE'} {R : List Addr → Hp → α → β → Prop} {r : List Addr} {H : Hp} {h : AH} {ls : Loc} {σ : L2.St} {D : Ends}
theorem LOk.set {i : Nat} {u : U} {v : V} (l : LOk g r H ls σ) (d : DV g r H u v) : LOk g r H (ls.set i (some u)) (σ.set i (some v)) := by
  refine ⟨by simp [l.len], fun j w e => ?_⟩
  by_cases hj : i = j
  · subst hj
    have hi : i < ls.length := by
      have := (List.getElem?_eq_some_iff.mp e).1
      simpa using this
    rw [List.getElem?_set_self hi] at e
    cases e
    exact ⟨v, by rw [List.getElem?_set_self (by rw [← l.len]; exact hi)], d⟩
  · rw [List.getElem?_set_ne hj] at e
    rw [List.getElem?_set_ne hj]
    exact l.at_ j w e
theorem PoS.bind {o : Out α} {f : α → AH → OutS} (l : LOk g r H ls σ) (p : PoS g E r H D (o.s ls f)) :
    Po g (E σ) R r H (fun v H' => ∃ r' h' u, Ext r H r' H' ∧ Wd g r' H' h' ∧ LOk g r' H' ls σ ∧ R r' H' u v ∧ PoS g E r' H' D (f u h')) o := by
  cases o with
  | ok u h' => exact fun r' H' v e w d => ⟨r', h', u, e, w, l.ext e, d, PoS.ext p e⟩
  | cut h' => exact fun r' H' e w => p r' H' σ e w (l.ext e)
  | bad => exact p
theorem tM_s {m : ME} {f : U → AH → OutS} {Q : VK} (w : Wd g r H h) (l : LOk g r H ls σ) (p : PoS g E r H D ((m ls h).s ls f))
    (k : ∀ v H' r' h' u, Ext r H r' H' → Wd g r' H' h' → LOk g r' H' ls σ → DV g r' H' u v → PoS g E r' H' D (f u h') → Q v H') : tM g E m σ H Q :=
  ⟨r, h, ls, w, l, (PoS.bind (R := DV g) l p).mono fun v H' ⟨r', h', u, e, w', l', d, q⟩ => k v H' r' h' u e w' l' d q⟩
theorem tMT_s {m : MT} {f : Bool → AH → OutS} {Q : Bool → Hp → Prop} (w : Wd g r H h) (l : LOk g r H ls σ) (p : PoS g E r H D ((m ls h).s ls f))
    (k : ∀ b H' r' h', Ext r H r' H' → Wd g r' H' h' → LOk g r' H' ls σ → PoS g E r' H' D (f b h') → Q b H') : tMT g E m σ H Q :=
  ⟨r, h, ls, w, l, (PoS.bind (R := Rb) l p).mono fun v H' ⟨r', h', u, e, w', l', d, q⟩ => k v H' r' h' e w' l' (d ▸ q)⟩
theorem tMA_s {m : MA} {f : List U → AH → OutS} {Q : List V → Hp → Prop} (w : Wd g r H h) (l : LOk g r H ls σ) (p : PoS g E r H D ((m ls h).s ls f))
    (k : ∀ v H' r' h' u, Ext r H r' H' → Wd g r' H' h' → LOk g r' H' ls σ → DVs g r' H' u v → PoS g E r' H' D (f u h') → Q v H') : tMA g E m σ H Q :=
  ⟨r, h, ls, w, l, (PoS.bind (R := DVs g) l p).mono fun v H' ⟨r', h', u, e, w', l', d, q⟩ => k v H' r' h' u e w' l' d q⟩
/-- what comes behind a statement -/
def Beh (g : Gd) (E : WE') (D : Ends) (k : Loc → AH → OutS) : L2.St → Hp → Prop := fun σ H => ∃ r h ls, Wd g r H h ∧ LOk g r H ls σ ∧ PoS g E r H D (k ls h)
theorem PoS.here {o : OutS} (w : Wd g r H h) (l : LOk g r H ls σ) (p : PoS g E r H D (.nx ls h)) : D.nx σ H := p r H σ Ext.refl w l
end
section
variable {g : Gd} {X : Cx} {E : WE'} {e o : Expr} {st : Stmt} {sts : List Stmt} {pos : Pos} {m : ME} {a b : MS} {c : MT}
theorem sm_nil : PSs X [] (tMS g E sNil) := PSsw pss_nil fun D σ H hq => by
  obtain ⟨r, hh, ls, w, l, p⟩ := hq
  exact p r H σ Ext.refl w l
theorem sm_seq (h1 : PS X st (tMS g E a)) (h2 : PSs X sts (tMS g E b)) : PSs X (st :: sts) (tMS g E (sSeq a b)) := PSsw (pss_cons h1 h2) fun D σ H hq => by
  obtain ⟨r, hh, ls, w, l, p⟩ := hq
  refine ⟨r, hh, ls, w, l, ?_⟩
  unfold sSeq at p
  cases q : a ls hh with
  | nx l k => rw [q] at p; exact fun r' H' σ' e w' l' => ⟨r', k, l, w', l', PoS.ext p e⟩
  | rt u k => rw [q] at p; exact p
  | bk l k => rw [q] at p; exact p
  | ct l k => rw [q] at p; exact p
  | cut l k => rw [q] at p; exact p
  | bad => rw [q] at p; exact p
theorem sm_one (h1 : PS X st (tMS g E a)) : PSs X [st] (tMS g E a) := pss_one h1
theorem sm_cont : PS X (.Continue pos) (tMS g E sCont) := PSw ps_continue fun D σ H hq => by
  obtain ⟨r, hh, ls, w, l, p⟩ := hq
  exact p r H σ Ext.refl w l
theorem sm_never : PS X st (tMS g E sNever) := PSw ps_never fun D σ H hq => by
  obtain ⟨r, hh, ls, w, l, p⟩ := hq
  exact p
theorem sm_set {i : Nat} (h : PS X st (tAsg (tM g E m) (gName i))) : PS X st (tMS g E (sSet i m)) := PSw h fun D σ H hq => by
  obtain ⟨r, hh, ls, w, l, p⟩ := hq
  exact tM_s w l p fun v H1 r1 h1 u e1 w1 l1 d1 p1 => p1 r1 H1 _ Ext.refl w1 (l1.set d1)
theorem sm_expr (h : PS X st (tDrop (tM g E m))) : PS X st (tMS g E (sExpr m)) := PSw h fun D σ H hq => by
  obtain ⟨r, hh, ls, w, l, p⟩ := hq
  exact tM_s w l p fun v H1 r1 h1 u e1 w1 l1 d1 p1 => p1 r1 H1 _ Ext.refl w1 l1
theorem sm_ret (he : PE X e (tM g E m)) : PS X (.Return (some e) pos) (tMS g E (sRet m)) := PSw (ps_ret he) fun D σ H hq => by
  obtain ⟨r, hh, ls, w, l, p⟩ := hq
  exact tM_s w l p fun v H1 r1 h1 u e1 w1 l1 d1 p1 => p1 r1 H1 _ Ext.refl w1 d1
theorem sm_if {tc : Expr} {sa sb : List Stmt} (hc : PT X tc (tMT g E c)) (ha : PSs X sa (tMS g E a)) (hb : PSs X sb (tMS g E b)) : PS X (.If tc sa sb pos) (tMS g E (sIf c a b)) := PSw (ps_if hc ha hb) fun D σ H hq => by
  obtain ⟨r, hh, ls, w, l, p⟩ := hq
  refine tMT_s w l p fun t H1 r1 h1 e1 w1 l1 p1 => ?_
  cases t with
  | true => exact ⟨r1, h1, ls, w1, l1, p1⟩
  | false => exact ⟨r1, h1, ls, w1, l1, p1⟩

/-! ### targets -/
/-- a target's reading, told on our side; ix: the slots that it may change -/
def GU (g : Gd) (gg : TG) (T : Tg) (ix : List Nat) : Prop :=
  ∀ r H h u v ls σ ls' (Q : L2.St → Hp → Prop), Wd g r H h → DV g r H u v → LOk g r H ls σ → T u h ls = some ls' →
    (∀ σ', LOk g r H ls' σ' → σ'.length = σ.length → (∀ j, j ∉ ix → σ'[j]? = σ[j]?) → Q σ' H) → gg v σ H Q
def tgN (i : Nat) : Tg := fun u _ ls => some (ls.set i (some u))
theorem gu_name {i : Nat} : GU g (gName i) (tgN i) [i] := fun r H h u v ls σ ls' Q w d l e k => by
  cases e
  refine k _ (l.set d) (by simp) fun j hj => ?_
  rw [List.getElem?_set_ne (by intro z; exact hj (by simp [z]))]
def setMany : List Nat → List U → Loc → Option Loc
  | [], [], ls => some ls
  | i :: is, u :: us, ls => setMany is us (ls.set i (some u))
  | _, _, _ => none
def gM : List Nat → TGs
  | [] => gNil
  | i :: is => gCons (gName i) (gM is)
theorem setMany_len : ∀ {is : List Nat} {us : List U} {ls ls' : Loc}, setMany is us ls = some ls' → us.length = is.length
  | [], [], _, _, _ => rfl
  | i :: is, u :: us, ls, ls', e => by
    have := setMany_len (is := is) (us := us) e
    simp [this]
  | [], _ :: _, _, _, e => by cases e
  | _ :: _, [], _, _, e => by cases e
theorem gM_of {r : List Addr} {H : Hp} : ∀ {is : List Nat} {us : List U} {vs : List V} {ls ls' : Loc} {σ : L2.St} {Q : L2.St → Hp → Prop}, DVs g r H us vs → LOk g r H ls σ → setMany is us ls = some ls' →
    (∀ σ', LOk g r H ls' σ' → σ'.length = σ.length → (∀ j, j ∉ is → σ'[j]? = σ[j]?) → Q σ' H) → gM is vs σ H Q
  | [], [], vs, ls, ls', σ, Q, d, l, e, k => by
    simp only [DVs] at d; subst d
    cases e
    exact ⟨rfl, k σ l rfl fun _ _ => rfl⟩
  | i :: is, u :: us, vs, ls, ls', σ, Q, d, l, e, k => by
    simp only [DVs] at d
    obtain ⟨v, ws, rfl, d1, d2⟩ := d
    refine ⟨v, ws, rfl, ?_⟩
    refine gM_of (is := is) d2 (l.set d1) e fun σ' l' hl hj => k σ' l' (by rw [hl]; simp) fun j hm => ?_
    rw [hj j (fun z => hm (List.mem_cons_of_mem _ z)), List.getElem?_set_ne (by intro z; exact hm (by simp [z]))]
  | [], _ :: _, _, _, _, _, _, _, _, e, _ => by cases e
  | _ :: _, [], _, _, _, _, _, _, _, e, _ => by cases e
def tgT (is : List Nat) : Tg := fun u _ ls => match asT u with
  | some us => setMany is us ls
  | none => none
theorem gu_tup {is : List Nat} : GU g (gTup g.K is.length (gM is)) (tgT is) is := fun r H h u v ls σ ls' Q w d l e k => by
  unfold tgT at e
  split at e
  · rename_i us e1
    obtain ⟨a, vs, rfl, q, f⟩ := asT_dv e1 d
    exact ⟨a, vs, rfl, q, by rw [f.length, setMany_len e], gM_of f l e k⟩
  · cases e
def tgL (is : List Nat) : Tg := fun u h ls => match asL h u with
  | some us => setMany is us ls
  | none => none
theorem gu_lst {is : List Nat} : GU g (gUnl g.K is.length (gM is)) (tgL is) is := fun r H h u v ls σ ls' Q w d l e k => by
  unfold tgL at e
  split at e
  · rename_i us e1
    obtain ⟨a, vs, rfl, q, f⟩ := asL_dv w e1 d
    exact ⟨a, vs, rfl, q, by rw [f.length, setMany_len e], gM_of f l e k⟩
  · cases e
theorem sm_asg {tg : Expr} {gg : TG} {T : Tg} {ix : List Nat} (h : PS X st (tAsg (tM g E m) gg)) (hg : GU g gg T ix) : PS X st (tMS g E (sAsg T m)) := PSw h fun D σ H hq => by
  obtain ⟨r, hh, ls, w, l, p⟩ := hq
  refine tM_s w l p fun v H1 r1 h1 u e1 w1 l1 d1 p1 => ?_
  split at p1
  · rename_i ls' e2
    exact hg r1 H1 h1 u v ls σ ls' _ w1 d1 l1 e2 fun σ' l' _ _ => p1 r1 H1 σ' Ext.refl w1 l'
  · exact p1.elim

/-! ### stores -/
/-- xs[i] = v; d[k] = v -/
def putD : List (Str × U) → Str → U → List (Str × U)
  | [], k, u => [(k, u)]
  | (k', u') :: r, k, u => if k' = k then (k', u) :: r else (k', u') :: putD r k u
def stL : U → U → U → AH → Option AH := fun o i v h => match o, i with
  | .obj p, .int k => match h[p]? with
    | some (.lst us) => match ixN us.length k with
      | some j => some (h.set p (.lst (us.set j v)))
      | none => none
    | _ => none
  | _, _ => none
/-- o[i] = value, the value first -/
def sSto (f : U → U → U → AH → Option AH) (mo mi mv : ME) : MS := fun ls h => (mv ls h).s ls fun v h1 => (mo ls h1).s ls fun o h2 => (mi ls h2).s ls fun i h3 => match f o i v h3 with
  | some h4 => .nx ls h4
  | none => .bad
theorem sm_stoL {mo mi : ME} (h : PS X st (tAsg (tM g E m) (gSub (tM g E mo) (tM g E mi) rSetL))) : PS X st (tMS g E (sSto stL mo mi m)) := PSw h fun D σ H hq => by
  obtain ⟨r, hh, ls, w, l, p⟩ := hq
  refine tM_s w l p fun v H1 r1 h1 u e1 w1 l1 d1 p1 => ?_
  refine tM_s w1 l1 p1 fun ov H2 r2 h2 uo e2 w2 l2 d2 p2 => ?_
  refine tM_s w2 l2 p2 fun iv H3 r3 h3 ui e3 w3 l3 d3 p3 => ?_
  split at p3
  · rename_i h4 e4
    unfold stL at e4
    split at e4
    · rename_i pp k
      split at e4
      · rename_i us hx
        split at e4
        · rename_i j hj
          cases e4
          simp only [DV] at d3
          subst d3
          obtain ⟨a, vs, rfl, hi, q, f⟩ := obj_dv w3 (DV.ext e3 _ _ d2) hx
          have hm := List.mem_of_getElem? hi
          refine ⟨a, vs, k, j, rfl, rfl, q, by rw [f.length]; exact hj, ?_⟩
          exact p3 r3 _ _ (Ext.wr hm) (w3.wr hi ⟨_, upd_same, DVs.ext (Ext.wr hm) _ _ (f.setN j (DV.ext (e2.trans e3) _ _ d1))⟩) (l3.ext (Ext.wr hm))
        · cases e4
      · cases e4
    · cases e4
  · exact p3.elim
def stD : U → U → U → AH → Option AH := fun o i v h => match o, i with
  | .obj p, .str k => match h[p]? with
    | some (.dct kvs) => if kvs.length ≤ 1000 then some (h.set p (.dct (putD kvs k v))) else none
    | _ => none
  | _, _ => none
theorem putD_len {k : Str} {u : U} : ∀ {kvs : List (Str × U)}, (putD kvs k u).length ≤ kvs.length + 1 ∧ kvs.length ≤ (putD kvs k u).length ∧ (look kvs k = none → (putD kvs k u).length = kvs.length + 1)
  | [] => by simp [putD]
  | (a, b) :: t => by
    unfold putD
    split
    · rename_i e
      subst e
      simp [look]
    · rename_i e
      obtain ⟨h1, h2, h3⟩ := putD_len (k := k) (u := u) (kvs := t)
      refine ⟨by simp; omega, by simp; omega, fun hn => ?_⟩
      have : look t k = none := by rw [← hn]; simp [look, List.find?_cons, e]
      simp [h3 this]
theorem look_put {k j : Str} {u : U} : ∀ {kvs : List (Str × U)}, look (putD kvs k u) j = if j = k then some u else look kvs j
  | [] => by
    unfold putD look
    by_cases e : k = j
    · subst e; simp
    · have e' : ¬ j = k := fun z => e z.symm
      simp [e, e']
  | (a, b) :: t => by
    unfold putD
    by_cases ha : a = k
    · subst ha
      rw [if_pos rfl]
      by_cases e : a = j
      · subst e; simp [look]
      · have e' : ¬ j = a := fun z => e z.symm
        simp [look, List.find?_cons, e, e']
    · rw [if_neg ha]
      by_cases e : a = j
      · subst e
        rw [if_neg ha]
        simp [look]
      · have ih := look_put (k := k) (j := j) (u := u) (kvs := t)
        have e1 : look ((a, b) :: putD t k u) j = look (putD t k u) j := by simp [look, List.find?_cons, e]
        have e2 : look ((a, b) :: t) j = look t j := by simp [look, List.find?_cons, e]
        rw [e1, e2, ih]
theorem sm_stoD (C : Cxt g X E) {mo mi : ME} (h : PS X st (sDPut (tM g E mo) (tM g E mi) (tM g E m))) : PS X st (tMS g E (sSto stD mo mi m)) := PSw h fun D σ H hq => by
  obtain ⟨r, hh, ls, w, l, p⟩ := hq
  refine tM_s w l p fun v H1 r1 h1 u e1 w1 l1 d1 p1 => ?_
  refine tM_s w1 l1 p1 fun ov H2 r2 h2 uo e2 w2 l2 d2 p2 => ?_
  refine tM_s w2 l2 p2 fun iv H3 r3 h3 ui e3 w3 l3 d3 p3 => ?_
  split at p3
  · rename_i h4 e4
    unfold stD at e4
    split at e4
    · rename_i pp k
      split at e4
      · rename_i kvs hx
        split at e4
        · rename_i hl
          cases e4
          simp only [DV] at d3
          subst d3
          obtain ⟨i, a, kws, e5, rfl, hi, _, q, hlen, f⟩ := asD_dv (kvs := kvs) w3 (by simp only [asD, hx]) (DV.ext e3 _ _ d2)
          cases e5
          have hm := List.mem_of_getElem? hi
          refine ⟨a, _, rfl, DPut.k (k := Sum.inr k) q (small1000 (by omega)), ?_⟩
          refine p3 r3 _ _ (Ext.wr hm) (w3.wr hi ⟨_, upd_same, ?_, fun j x hj => ?_⟩) (l3.ext (Ext.wr hm))
          · obtain ⟨h5, h6, h7⟩ := putD_len (k := k) (u := u) (kvs := kvs)
            cases hv : valV kws (Sum.inr k : Key) with
            | none =>
              rw [putK_new _ hv, List.length_append]
              cases hk : look kvs k with
              | none => rw [h7 hk]; simp; exact hlen
              | some z =>
                obtain ⟨y, h8, _⟩ := f k z hk
                rw [hv] at h8; cases h8
            | some z =>
              have : (putK kws (Sum.inr k : Key) v).length = kws.length := by
                unfold putK
                rw [valV_any, hv]
                simp
              omega
          · rw [look_put] at hj
            rw [valV_put]
            by_cases e : j = k
            · subst e
              rw [if_pos rfl] at hj ⊢
              cases hj
              exact ⟨v, rfl, DV.ext (Ext.wr hm) _ _ (DV.ext (e2.trans e3) _ _ d1)⟩
            · rw [if_neg e] at hj
              rw [if_neg (fun z => e (Sum.inr.inj z))]
              obtain ⟨y, h8, h9⟩ := f j x hj
              exact ⟨y, h8, DV.ext (Ext.wr hm) _ _ h9⟩
        · cases e4
      · cases e4
    · cases e4
  · exact p3.elim
/-- {} -/
def eDict : ME := fun _ h => .ok (.obj h.length) (h ++ [.dct []])
theorem pm_dict : PE X (.Dict [] [] pos) (tM g E eDict) := PEw pe_dnewK fun σ H Q hq => by
  obtain ⟨r, hh, ls, w, l, p⟩ := hq
  intro a ha
  exact p (r ++ [a]) _ _ (Ext.add ha) (w.add ha ⟨[], upd_same, Nat.le_refl _, fun k u e => by cases e⟩) (by
    simp only [DV]
    exact ⟨a, rfl, by rw [← w.len]; simp⟩)

/-! ### fields -/
def putI : List (Str × U) → Str → U → List (Str × U)
  | [], k, u => [(k, u)]
  | (k', u') :: r, k, u => if k' = k then (k, u) :: r else (k', u') :: putI r k u
theorem putI_dv {k : Str} {u : U} {y : V} {r : List Addr} {H : Hp} (e : DV g r H u y) : ∀ {fs : List (Str × U)} {vs : List V}, DVs g r H (fs.map (·.2)) vs →
    ∃ ws, putF k y ((fs.map (·.1)).zip vs) = ((putI fs k u).map (·.1)).zip ws ∧ DVs g r H ((putI fs k u).map (·.2)) ws
  | [], vs, d => by
    simp only [List.map_nil, DVs] at d
    subst d
    exact ⟨[y], rfl, DVs.one e⟩
  | (a, b) :: t, vs, d => by
    simp only [List.map_cons, DVs] at d
    obtain ⟨v, ws, rfl, d1, d2⟩ := d
    by_cases ha : a = k
    · refine ⟨y :: ws, ?_, ?_⟩
      · subst ha
        show putF a y ((a, v) :: List.zip (List.map (fun x => x.1) t) ws) = _
        unfold putI putF
        rw [if_pos rfl, if_pos rfl]
        rfl
      · unfold putI
        rw [if_pos ha]
        exact DVs.cons e d2
    · obtain ⟨zs, h1, h2⟩ := putI_dv (k := k) e d2
      refine ⟨v :: zs, ?_, ?_⟩
      · show putF k y ((a, v) :: List.zip (List.map (fun x => x.1) t) ws) = _
        unfold putI putF
        rw [if_neg ha, if_neg ha]
        show (a, v) :: putF k y (List.zip (List.map (fun x => x.1) t) ws) = _
        rw [h1]
        rfl
      · unfold putI
        rw [if_neg ha]
        exact DVs.cons d1 h2
def stI (f : Str) : U → U → AH → Option AH := fun o v h => match o with
  | .obj p => match h[p]? with
    | some (.ins fs) => if fs.length < 1000 then some (h.set p (.ins (putI fs f v))) else none
    | _ => none
  | _ => none
def sStoF (f : Str) (mo mv : ME) : MS := fun ls h => (mv ls h).s ls fun v h1 => (mo ls h1).s ls fun o h2 => match stI f o v h2 with
  | some h4 => .nx ls h4
  | none => .bad
theorem sm_stoF (C : Cxt g X E) {mo : ME} {f : Str} (c : Cls g.K g.CL) (n : NoAttr g.K g.CL f) (h : PS X st (sFld X.K (tM g E mo) (tM g E m) f)) : PS X st (tMS g E (sStoF f mo m)) := PSw h fun D σ H hq => by
  obtain ⟨r, hh, ls, w, l, p⟩ := hq
  refine tM_s w l p fun v H1 r1 h1 u e1 w1 l1 d1 p1 => ?_
  refine tM_s w1 l1 p1 fun ov H2 r2 h2 uo e2 w2 l2 d2 p2 => ?_
  split at p2
  · rename_i h4 e4
    unfold stI at e4
    split at e4
    · rename_i pp
      split at e4
      · rename_i fs hx
        split at e4
        · rename_i hl
          cases e4
          obtain ⟨i, a, dx, vs, e5, rfl, hi, _, q, f1⟩ := asI_dv (fs := fs) w2 (by simp only [asI, hx]) d2
          cases e5
          have hm := List.mem_of_getElem? hi
          obtain ⟨ws, h5, h6⟩ := putI_dv (k := f) (DV.ext e2 _ _ d1) f1
          refine ⟨a, g.CL, dx, _, rfl, q, C.K ▸ c, C.K ▸ n, ?_, ?_⟩
          · rw [List.length_zip, List.length_map]; omega
          · rw [h5]
            exact p2 r2 _ _ (Ext.wr hm) (w2.wr hi ⟨dx, ws, upd_same, DVs.ext (Ext.wr hm) _ _ h6⟩) (l2.ext (Ext.wr hm))
        · cases e4
      · cases e4
    · cases e4
  · exact p2.elim

/-! ### name += number; raise; while -/
def sInc (i : Nat) (m : ME) : MS := fun ls h => match ls[i]? with
  | some (some (.int a)) => (m ls h).s ls fun u h1 => match u with
    | .int b => .nx (ls.set i (some (.int (a + b)))) h1
    | _ => .bad
  | _ => .bad
theorem sm_inc {i : Nat} (h : PS X st (tAug i (tM g E m) (ipI fun i j => i + j))) : PS X st (tMS g E (sInc i m)) := PSw h fun D σ H hq => by
  obtain ⟨r, hh, ls, w, l, p⟩ := hq
  unfold sInc at p
  split at p
  · rename_i a ha
    obtain ⟨v, h1, h2⟩ := l.at_ i _ ha
    simp only [DV] at h2
    subst h2
    refine ⟨.int a, h1, tM_s w l p fun v H1 r1 h1 u e1 w1 l1 d1 p1 => ?_⟩
    split at p1
    · rename_i b
      simp only [DV] at d1
      subst d1
      exact ⟨a, b, rfl, rfl, p1 r1 H1 _ Ext.refl w1 (l1.set (by simp [DV]))⟩
    · exact p1.elim
  · exact p.elim
theorem sm_raise (h : PS X st (fun _ σ H => E σ (.ref g.CC) none H)) : PS X st (tMS g E sRaise) := PSw h fun D σ H hq => by
  obtain ⟨r, hh, ls, w, l, p⟩ := hq
  exact p r H σ Ext.refl w l
theorem sm_while {N : Nat} {tc : Expr} {body : List Stmt} (hp : PassesOwn (model X.prog X.w) X.A X.env X.xe) (hc : PT X tc (tMT g E c)) (hb : PSs X body (tMS g E b)) : PS X (.While tc body [] pos) (tMS g E (sWhile N c b)) :=
  PSw (ps_while hp hc hb) fun D σ H hq => by
    obtain ⟨r, hh, ls, w, l, p⟩ := hq
    refine ⟨fun m σ H => ∃ r h ls, Wd g r H h ∧ LOk g r H ls σ ∧ PoS g E r H D (whileL c b m ls h), ⟨N, r, hh, ls, w, l, p⟩, ?_⟩
    rintro m σ1 H1 ⟨r1, h1, ls1, w1, l1, p1⟩
    cases m with
    | zero => exact p1.elim
    | succ n =>
      refine tMT_s w1 l1 p1 fun t H2 r2 h2 e2 w2 l2 p2 => ?_
      cases t with
      | false => exact p2 r2 H2 σ1 Ext.refl w2 l2
      | true =>
        refine ⟨fun σ' H' => ∃ r h ls, Wd g r H' h ∧ LOk g r H' ls σ' ∧ PoS g E r H' D (whileL c b n ls h), fun σ' H' q => ⟨n, Nat.lt_succ_self n, q⟩, r2, h2, ls1, w2, l2, ?_⟩
        simp only [if_true] at p2
        cases q : b ls1 h2 with
        | nx l k => rw [q] at p2; exact fun r' H' σ' e w' l' => ⟨r', k, l, w', l', PoS.ext p2 e⟩
        | ct l k => rw [q] at p2; exact fun r' H' σ' e w' l' => ⟨r', k, l, w', l', PoS.ext p2 e⟩
        | bk l k => rw [q] at p2; exact p2
        | rt u k => rw [q] at p2; exact p2
        | cut l k => rw [q] at p2; exact p2
        | bad => rw [q] at p2; exact p2
end
end Wk
set_option maxRecDepth 100000
set_option maxHeartbeats 4000000
/-! Fw7: what is walked (lists, tuples, ranges, zip of any two), for. -/
namespace Wk
open PySem PySem.Spec PyProof.Rows L2

/-! ### zip of tuples and lists in any mix -/
/-- true: a tuple, false: a list -/
def SqK (K : PySem.W.Frag) (H : Hp) : Bool → Addr → List V → Prop
  | true, a, xs => SqT K H a xs
  | false, a, xs => SqL K H a xs
def IterK (h : Heap) : Bool → Addr → Addr → Nat → Prop
  | true, it, a, i => h.IsTupleIter it a i
  | false, it, a, i => h.IsListIter it a i
def ContK (h : Heap) : Bool → Addr → Array Value → Prop
  | true, a, its => h.IsTuple a its
  | false, a, its => h.IsList a its
theorem drawK {prog : Program} {w : World} {A : Around} (hh : A.handled = none) (k : Bool) (it a : Addr) (hne : a ≠ it) (items : Array Value) :
    Draws prog w A it [it, a] items.size (fun i v => items[i]? = some v) (fun i h => IterK h k it a i ∧ ContK h k a items) := by
  cases k with
  | true => exact Draws.tuple hh it a hne items
  | false => exact Draws.list hh it a hne items
theorem IterK.live {h : Heap} {k : Bool} {it a : Addr} {i : Nat} (x : IterK h k it a i) : ∃ o, h.get? it = some o ∧ ∀ v, o.data ≠ .cell v := by
  cases k with
  | true => obtain ⟨o, e, _, d⟩ := x; exact ⟨o, e, fun v z => by rw [d] at z; cases z⟩
  | false => obtain ⟨o, e, _, d⟩ := x; exact ⟨o, e, fun v z => by rw [d] at z; cases z⟩
theorem IterK.keep {h h' : Heap} {k : Bool} {it a : Addr} {i : Nat} (x : IterK h k it a i) (f : ∀ o, h.get? it = some o → h'.get? it = some o) : IterK h' k it a i := by
  cases k with
  | true => exact Heap.IsTupleIter.at x f
  | false => exact Heap.IsListIter.at x f
section
variable {X : Cx} {pins : List (Addr × Obj)} {σ : L2.St} {H : Hp} {s : Shared}
theorem seqK (I : Inv X pins σ H s) {k : Bool} {a : Addr} {xs : List V} (q : SqK X.K H k a xs) : ∃ its : List Value, Vals xs its ∧ ContK s.heap k a its.toArray := by
  cases k with
  | true => obtain ⟨its, r, p, _⟩ := I.tuple q; exact ⟨its, r, p⟩
  | false => obtain ⟨its, r, p, _⟩ := I.list q; exact ⟨its, r, p.isList⟩
theorem seqK_inj (I : Inv X pins σ H s) {k : Bool} {a : Addr} {xs ys : List V} (q : SqK X.K H k a xs) (q' : SqK X.K H k a ys) : xs = ys := by
  cases k with
  | true => exact I.tuple_inj q q'
  | false => exact I.list_inj q q'
end
def ItzK (K : PySem.W.Frag) (k1 k2 : Bool) (a b : Addr) : It :=
  ⟨fun i H => ∃ (xs ys : List V) (x y : V), SqK K H k1 a xs ∧ SqK K H k2 b ys ∧ xs[i]? = some x ∧ ys[i]? = some y,
    fun i H v H' => ∃ T x y, v = .ref T ∧ H T = none ∧ H' = upd H T (.tup [x, y]) ∧ (∀ xs, SqK K H k1 a xs → xs[i]? = some x) ∧ ∀ ys, SqK K H k2 b ys → ys[i]? = some y,
    fun i H => ∃ xs ys : List V, SqK K H k1 a xs ∧ SqK K H k2 b ys ∧ i ≤ xs.length ∧ i ≤ ys.length ∧ (i = xs.length ∨ i = ys.length)⟩
theorem turn_zipK {P : Program} {w : World} {K : PySem.W.Frag} {elts : List Expr} {kk : Nat} {tpos : Pos} {k1 k2 : Bool} {a b z TI TO i1 i2 : Addr} (S : ZipSep2 z TI TO i1 i2 [i1, a] [i2, b]) :
    Turn P w K (.Tuple elts kk tpos) (ItzK K k1 k2 a b) [z, TI, TO, i1, i2] z (fun i h => IsZip h z TI TO .none ∧ IsTupOf2 h TI (.ref i1) (.ref i2) ∧ (∃ x y, IsTupOf2 h TO x y) ∧ IterK h k1 i1 a i ∧ IterK h k2 i2 b i) where
  mem := by simp
  obj := fun i h st c hc => by
    obtain ⟨hz, hTI, ⟨x, y, hTO⟩, h1, h2⟩ := st
    simp only [List.mem_cons, List.not_mem_nil, or_false] at hc
    rcases hc with q | q | q | q | q <;> subst q
    · exact ⟨_, hz, fun v q => nomatch q⟩
    · exact ⟨_, hTI, fun v q => nomatch q⟩
    · exact ⟨_, hTO, fun v q => nomatch q⟩
    · exact h1.live
    · exact h2.live
  keep := fun i h h' st kp => by
    obtain ⟨hz, hTI, ⟨x, y, hTO⟩, h1, h2⟩ := st
    exact ⟨kp z (by simp) _ hz, kp TI (by simp) _ hTI, ⟨x, y, kp TO (by simp) _ hTO⟩, h1.keep fun o q => kp i1 (by simp) o q, h2.keep fun o q => kp i2 (by simp) o q⟩
  item := by
    intro X hP hw hK hc i pins s σ H E I hf st hg
    subst hP hw hK
    obtain ⟨hz, hTI, ⟨x0, y0, hTO⟩, h1, h2⟩ := st
    obtain ⟨xs, ys, x, y, hqx, hqy, hx, hy⟩ := hg
    obtain ⟨its, rv, p⟩ := seqK I hqx
    obtain ⟨its2, rv2, p2⟩ := seqK I hqy
    obtain ⟨u, hu, ru⟩ := rv.get hx
    obtain ⟨u2, hu2, ru2⟩ := rv2.get hy
    have hd : X.A.in1.handled = none := I.ok.hd hc
    have ne1 : a ≠ i1 := fun e => by
      cases k1 with
      | true => obtain ⟨o, e1, c1, _⟩ := h1; obtain ⟨o2, e2, c2, _⟩ := p; rw [← e, e2] at e1; cases e1; rw [c2] at c1; exact absurd c1 (by decide)
      | false => obtain ⟨o, e1, c1, _⟩ := h1; obtain ⟨o2, e2, c2, _⟩ := p; rw [← e, e2] at e1; cases e1; rw [c2] at c1; exact absurd c1 (by decide)
    have ne2 : b ≠ i2 := fun e => by
      cases k2 with
      | true => obtain ⟨o, e1, c1, _⟩ := h2; obtain ⟨o2, e2, c2, _⟩ := p2; rw [← e, e2] at e1; cases e1; rw [c2] at c1; exact absurd c1 (by decide)
      | false => obtain ⟨o, e1, c1, _⟩ := h2; obtain ⟨o2, e2, c2, _⟩ := p2; rw [← e, e2] at e1; cases e1; rw [c2] at c1; exact absurd c1 (by decide)
    refine wpAny_pyNext_zipD2_item S (drawK hd k1 i1 a ne1 its.toArray) (drawK hd k2 i2 b ne2 its2.toArray) hz hTI hTO ⟨h1, p⟩ ⟨h2, p2⟩ (by have := (List.getElem?_eq_some_iff.mp hu).1; simpa using this) (by have := (List.getElem?_eq_some_iff.mp hu2).1; simpa using this)
      fun x1 x2 h' tk y1 y2 b1 b2 d1 d2 b5 b6 hk => ?_
    have ex1 : x1 = u := by
      have q : its[i]? = some x1 := by simpa using y1
      rw [hu] at q; exact (Option.some.inj q).symm
    have ex2 : x2 = u2 := by
      have q : its2[i]? = some x2 := by simpa using y2
      rw [hu2] at q; exact (Option.some.inj q).symm
    subst ex1 ex2
    have hzl : z < s.heap.objs.size := Heap.lt_size hz
    refine ⟨_, rfl, wpAny_letOwnedTupleGo_zip (s := { s with heap := h', toks := tk }) b1 fun h'' z'' sb => ?_⟩
    have hT2 : h''.get? s.heap.objs.size = some { cls := .type "tuple", data := .seq #[x1, x2] } := (sb.2 _ (Nat.ne_of_gt hzl)).trans b5
    have new : ObjOk X.prog X.w (upd H s.heap.objs.size (.tup [x, y])) h'' s.heap.objs.size (.tup [x, y]) :=
      ⟨by show 2 ≤ sizeLine; decide, [x1, x2], .cons ru (.cons ru2 .nil), ⟨_, hT2, rfl, _, rfl⟩⟩
    have I1 : Inv X pins σ (upd H s.heap.objs.size (.tup [x, y])) { s with heap := h'', toks := tk } :=
      I.turnedNew (t' := tk) (ch := [z, TI, TO, i1, i2]) (fun c o hb q => by
        simp only [List.mem_cons, List.not_mem_nil, or_false, not_or] at hb
        exact (sb.2 c hb.1).trans (hk c o hb.1 hb.2.2.1 hb.2.2.2.1 hb.2.2.2.2 q)) hf (Nat.le_refl _) new
    refine ⟨.ref s.heap.objs.size, _, I1, rfl, ⟨_, x, y, rfl, I.hok.fresh (Nat.le_refl _), rfl, fun l hl => by rw [seqK_inj I hl hqx]; exact hx, fun l hl => by rw [seqK_inj I hl hqy]; exact hy⟩, ⟨z'', ?_, ⟨x1, x2, ?_⟩, ?_, ?_⟩, fun c hcm => ?_⟩
    · exact (sb.2 _ S.TIz).trans (hk _ _ S.TIz S.TITO S.TIi1 S.TIi2 hTI)
    · exact (sb.2 _ S.TOz).trans b2
    · exact d1.1.keep fun o q => (sb.2 _ (Ne.symm S.zi1)).trans q
    · exact d2.1.keep fun o q => (sb.2 _ (Ne.symm S.zi2)).trans q
    · have hlt : c < s.heap.objs.size := by
        simp only [List.mem_cons, List.not_mem_nil, or_false] at hcm
        rcases hcm with q | q | q | q | q <;> subst q
        · exact hzl
        · exact Heap.lt_size hTI
        · exact Heap.lt_size hTO
        · obtain ⟨_, e1, _⟩ := h1.live; exact Heap.lt_size e1
        · obtain ⟨_, e2, _⟩ := h2.live; exact Heap.lt_size e2
      rw [upd_ne (Nat.ne_of_lt hlt)]
      exact (hf c hcm).1
  done := by
    intro X hP hw hK hc i pins s σ H E I hf st hg
    subst hP hw hK
    obtain ⟨hz, hTI, ⟨x0, y0, hTO⟩, h1, h2⟩ := st
    obtain ⟨xs, ys, hqx, hqy, l1, l2, hend⟩ := hg
    obtain ⟨its, rv, p⟩ := seqK I hqx
    obtain ⟨its2, rv2, p2⟩ := seqK I hqy
    have e1 := rv.length
    have e2 := rv2.length
    have hd : X.A.in1.handled = none := I.ok.hd hc
    have ne1 : a ≠ i1 := fun e => by
      cases k1 with
      | true => obtain ⟨o, e1, c1, _⟩ := h1; obtain ⟨o2, e2, c2, _⟩ := p; rw [← e, e2] at e1; cases e1; rw [c2] at c1; exact absurd c1 (by decide)
      | false => obtain ⟨o, e1, c1, _⟩ := h1; obtain ⟨o2, e2, c2, _⟩ := p; rw [← e, e2] at e1; cases e1; rw [c2] at c1; exact absurd c1 (by decide)
    have ne2 : b ≠ i2 := fun e => by
      cases k2 with
      | true => obtain ⟨o, e1, c1, _⟩ := h2; obtain ⟨o2, e2, c2, _⟩ := p2; rw [← e, e2] at e1; cases e1; rw [c2] at c1; exact absurd c1 (by decide)
      | false => obtain ⟨o, e1, c1, _⟩ := h2; obtain ⟨o2, e2, c2, _⟩ := p2; rw [← e, e2] at e1; cases e1; rw [c2] at c1; exact absurd c1 (by decide)
    exact wpAny_pyNext_zipD2_end S (drawK hd k1 i1 a ne1 its.toArray) (drawK hd k2 i2 b ne2 its2.toArray) hz hTI hTO ⟨h1, p⟩ ⟨h2, p2⟩ (by simp; omega) (by simp; omega) (by simp; omega)
      fun h' tk hk => ⟨rfl, I.turnedL (t' := tk) (ch := [z, TI, TO, i1, i2]) (fun c o hb q => by
        simp only [List.mem_cons, List.not_mem_nil, or_false, not_or] at hb
        exact hk c o hb.1 hb.2.2.1 hb.2.2.2.1 hb.2.2.2.2 q) hf⟩
  self := fun A i s Q E st h => wpAny_pyIter_zip st.1 h
def iZipK (K : PySem.W.Frag) (ta : TA) : TI := fun σ H R => ta σ H fun vs H1 => ∃ k1 k2 a b xs ys, vs = [.ref a, .ref b] ∧ SqK K H1 k1 a xs ∧ SqK K H1 k2 b ys ∧ R (ItzK K k1 k2 a b) H1
theorem begK {X : Cx} {pins : List (Addr × Obj)} {σ : L2.St} {H : Hp} {s : Shared} (I : Inv X pins σ H s) (k : Bool) (a : Addr) (xs : List V) (q : SqK X.K H k a xs) :
    ∃ (o : Obj) (HH : Heap → Prop), Begins (.ref a) o HH ∧ HH s.heap ∧ a < s.heap.objs.size ∧ ∀ (h : Heap) (it : Addr), h.get? it = some o → IterK h k it a 0 := by
  cases k with
  | true =>
    obtain ⟨its, r, p, _⟩ := I.tuple q
    exact ⟨_, _, begins_tuple a its.toArray, p, p.lt, fun h it e => ⟨_, e, rfl, rfl⟩⟩
  | false =>
    obtain ⟨its, r, p, _⟩ := I.list q
    exact ⟨_, _, begins_list a its.toArray, p.isList, p.lt, fun h it e => ⟨_, e, rfl, rfl⟩⟩
theorem pi_zipK {X : Cx} {e e2 : Expr} {ta : TA} {p pos tpos : Pos} {elts : List Expr} {kk : Nat} (hg : Gl X "zip") (hm : X.mg "zip" = none) (ha : PA X [e, e2] ta)
    (hs : starEach [e, e2] X.env = (false, eval e X.env) :: starEach [e2] X.env := by rfl) (hpl : (backTo pos (starEach [e2] X.env)).any (·.1) = false := by rfl) :
    PI X (.Tuple elts kk tpos) (.Call (.Name "zip" p) [e, e2] [] pos) (iZipK X.K ta) := by
  refine ⟨fun pins s σ H R I h => ?_⟩
  refine Call_ (ld_blt I hg hm PyProof.Rows.boot_zip (PyProof.Rows.callWith_type1 (thn (ha.run pos pins s σ H _ I h) fun us s1 ⟨vs, H1, I1, r1, q1⟩ => ?_) hs hpl))
  obtain ⟨k1, k2, a, b, xs, ys, ex, hqx, hqy, q⟩ := q1
  subst ex
  obtain ⟨u1, u2, rfl, r1, r2⟩ := vals2 r1
  cases r1
  cases r2
  obtain ⟨o1, HH1, B1, hh1, l1, f1⟩ := begK I1 k1 a xs hqx
  obtain ⟨o2, HH2, B2, hh2, l2, f2⟩ := begK I1 k2 b ys hqy
  generalize hN : s1.heap.objs.size = N at l1 l2
  refine zip_begins2 B1 B2 hh1 hh2 fun h' hz hTI hTO h1 h2 hsz hk => wpAny_pyIter_zip hz ?_
  rw [hN] at hz hTI hTO h1 h2
  have I2 : Inv X pins σ H1 { s1 with heap := h' } := I1.kept (t' := s1.toks) hk
  have S : ZipSep2 (N + 4) (N + 2) (N + 3) N (N + 1) [N, a] [N + 1, b] := by
    have hN4 : ∀ {i j : Nat}, i ≠ j → N + i ≠ N + j := fun h e => h (Nat.add_left_cancel e)
    have hN0 : ∀ {i : Nat}, i ≠ 0 → N + i ≠ N := fun {i} h e => h (Nat.add_left_cancel (n := N) (m := i) (k := 0) e)
    have ha' : ∀ {i : Nat}, N + i ≠ a := fun {i} e => absurd l1 (by rw [← e]; exact Nat.not_lt.mpr (Nat.le_add_right _ _))
    have hb' : ∀ {i : Nat}, N + i ≠ b := fun {i} e => absurd l2 (by rw [← e]; exact Nat.not_lt.mpr (Nat.le_add_right _ _))
    have hb0 : N ≠ b := hb' (i := 0)
    have two : ∀ {x y z : Addr}, x ≠ y → x ≠ z → x ∉ [y, z] := fun h1 h2 hm => by
      rcases List.mem_cons.mp hm with e | hm
      · exact h1 e
      · exact h2 (List.mem_singleton.mp hm)
    exact ⟨hN4 (by decide), hN4 (by decide), hN4 (by decide), hN0 (by decide), List.mem_cons_self, two (hN0 (by decide)) ha', two (hN0 (by decide)) ha', hN4 (by decide), List.mem_cons_self, two (hN4 (by decide)) hb', two (hN4 (by decide)) hb',
      two (Ne.symm (hN0 (by decide))) hb0, two (hN0 (by decide)) ha'⟩
  refine ⟨N + 4, [N + 4, N + 2, N + 3, N, N + 1], (fun i h => IsZip h (N + 4) (N + 2) (N + 3) .none ∧ IsTupOf2 h (N + 2) (.ref N) (.ref (N + 1)) ∧ (∃ x y, IsTupOf2 h (N + 3) x y) ∧ IterK h k1 N a i ∧ IterK h k2 (N + 1) b i), _, H1, by rw [hN], I2, turn_zipK (k1 := k1) (k2 := k2) S, ⟨hz, hTI, ⟨_, _, hTO⟩, f1 _ _ h1, f2 _ _ h2⟩, fun c hcm => ?_, q⟩
  have hle : s1.heap.objs.size ≤ c := by
    rw [hN]
    simp only [List.mem_cons, List.not_mem_nil, or_false] at hcm
    rcases hcm with e | e | e | e | e <;> rw [e] <;> first | exact Nat.le_add_right _ _ | exact Nat.le_refl _
  exact I1.fpOk hle (I1.hok.fresh hle)

/-! ### iterators on our side -/
/-- at turn i: none: not told; some none: the end; some (some u): u -/
abbrev Itm := Nat → AH → Option (Option U)
def ItOk (g : Gd) (r : List Addr) (H : Hp) (J : It) (it : Itm) : Prop := ∀ g1 r1 H1 h1 i, ExtG g r H g1 r1 H1 → Wd g1 r1 H1 h1 →
  (it i h1 = some none → J.stop i H1) ∧ (∀ u, it i h1 = some (some u) → J.go i H1 ∧ ∀ x H2, J.yld i H1 x H2 → Ext r1 H1 r1 H2 ∧ Wd g1 r1 H2 h1 ∧ DV g1 r1 H2 u x)
abbrev MI := Loc → AH → Out Itm
def PoI (g : Gd) (E : XK) (r : List Addr) (H : Hp) (R : It → Hp → Prop) : Out Itm → Prop
  | .ok it h' => ∀ r' H' J, Ext r H r' H' → Wd g r' H' h' → ItOk g r' H' J it → R J H'
  | .cut h' => ∀ r' H', Ext r H r' H' → Wd g r' H' h' → E (.ref g.CC) none H'
  | .bad => False
def tI (g : Gd) (E : WE') (mi : MI) : TI := fun σ H R => ∃ r h ls, Wd g r H h ∧ LOk g r H ls σ ∧ PoI g (E σ) r H R (mi ls h)
theorem PIw {X : Cx} {tg iter : Expr} {t t' : TI} (h : PI X tg iter t) (k : ∀ σ H R, t' σ H R → t σ H R) : PI X tg iter t' := ⟨fun pins s σ H R I q => h.run pins s σ H R I (k σ H R q)⟩
def itSeq (u : U) : Itm := fun i h => match asSeq h u with
  | some us => some us[i]?
  | none => none
def itRange (n : Int) : Itm := fun i _ => some (if (i : Int) < n then some (.int i) else none)
def itZip (u w : U) : Itm := fun i h => match asSeq h u, asSeq h w with
  | some us, some ws => if i ≤ us.length ∧ i ≤ ws.length then some (match us[i]?, ws[i]? with
    | some a, some b => some (.seq .tup [a, b])
    | _, _ => none) else none
  | _, _ => none
def iSeq (m : ME) : MI := fun ls h => (m ls h).bind fun u h1 => if (asSeq h1 u).isSome then .ok (itSeq u) h1 else .bad
def iRange (m : ME) : MI := fun ls h => (m ls h).bind fun u h1 => match u with
  | .int n => if -(2 ^ 62) ≤ n ∧ n < 2 ^ 62 then .ok (itRange n) h1 else .bad
  | _ => .bad
def iZip2 (a b : ME) : MI := fun ls h => (a ls h).bind fun u h1 => (b ls h1).bind fun w h2 => if (asSeq h2 u).isSome && (asSeq h2 w).isSome then .ok (itZip u w) h2 else .bad
theorem Po.bindI {α β : Type} {g : Gd} {E : XK} {R : List Addr → Hp → α → β → Prop} {r : List Addr} {H : Hp} {o : Out α} {f : α → AH → Out Itm} {Q : It → Hp → Prop} (h : PoI g E r H Q (o.bind f)) :
    Po g E R r H (fun v H' => ∃ r' h' u, Ext r H r' H' ∧ Wd g r' H' h' ∧ R r' H' u v ∧ PoI g E r' H' Q (f u h')) o := by
  cases o with
  | ok u h' =>
    refine fun r' H' v e w d => ⟨r', h', u, e, w, d, ?_⟩
    show PoI g E r' H' Q (f u h')
    have h : PoI g E r H Q (f u h') := h
    cases q : f u h' with
    | ok it k => rw [q] at h; exact fun r2 H2 J e2 w2 i2 => h r2 H2 J (e.trans e2) w2 i2
    | cut k => rw [q] at h; exact fun r2 H2 e2 w2 => h r2 H2 (e.trans e2) w2
    | bad => rw [q] at h; exact h
  | cut h' => exact h
  | bad => exact h
theorem tM_bindI {g : Gd} {E : WE'} {m : ME} {r : List Addr} {H : Hp} {h : AH} {ls : Loc} {σ : L2.St} {f : U → AH → Out Itm} {Q2 : It → Hp → Prop} {Q : VK}
    (w : Wd g r H h) (l : LOk g r H ls σ) (p : PoI g (E σ) r H Q2 ((m ls h).bind f))
    (k : ∀ v H' r' h' u, Ext r H r' H' → Wd g r' H' h' → LOk g r' H' ls σ → DV g r' H' u v → PoI g (E σ) r' H' Q2 (f u h') → Q v H') : tM g E m σ H Q :=
  ⟨r, h, ls, w, l, (Po.bindI (R := DV g) p).mono fun v H' ⟨r', h', u, e, w', d, q⟩ => k v H' r' h' u e w' (l.ext e) d q⟩
section
variable {g : Gd} {r : List Addr} {H : Hp} {h : AH}
theorem itOk_list {u : U} {a : Addr} (d : DV g r H u (.ref a)) (hL : ∀ h : AH, asT u = none) : ItOk g r H (Itl g.K a) (itSeq u) := fun g1 r1 H1 h1 i e w => by
  have d1 := DV.extG e _ _ d
  have eq : ∀ us, asSeq h1 u = some us → asL h1 u = some us := fun us q => by
    have hn := hL h1
    cases u with
    | seq k us' => cases k <;> first | exact q | cases hn
    | obj i => exact q
    | _ => cases q
  refine ⟨fun q => ?_, fun x q => ?_⟩
  · unfold itSeq at q
    split at q
    · rename_i us hu
      obtain ⟨b, vs, eb, sq, f⟩ := asL_dv w (eq us hu) d1
      cases eb
      rw [e.K] at sq
      have : us.length ≤ i := List.getElem?_eq_none_iff.mp (Option.some.inj q)
      exact ⟨vs, sq, by rw [f.length]; exact this⟩
    · cases q
  · unfold itSeq at q
    split at q
    · rename_i us hu
      obtain ⟨b, vs, eb, sq, f⟩ := asL_dv w (eq us hu) d1
      cases eb
      rw [e.K] at sq
      obtain ⟨v, h3, h4⟩ := f.get (Option.some.inj q)
      refine ⟨⟨vs, v, sq, h3⟩, fun y H2 yl => ?_⟩
      obtain ⟨rfl, hy⟩ := yl
      have := hy vs sq
      rw [h3] at this
      cases this
      exact ⟨Ext.refl, w, h4⟩
    · cases q
theorem itOk_tup {us : List U} {a : Addr} (d : DV g r H (.seq .tup us) (.ref a)) : ItOk g r H (Itt g.K a) (itSeq (.seq .tup us)) := fun g1 r1 H1 h1 i e w => by
  have d1 := DV.extG e _ _ d
  obtain ⟨b, vs, eb, sq, f⟩ := asT_dv (u := .seq .tup us) rfl d1
  cases eb
  rw [e.K] at sq
  refine ⟨fun q => ?_, fun x q => ?_⟩
  · have : us.length ≤ i := List.getElem?_eq_none_iff.mp (Option.some.inj q)
    exact ⟨vs, sq, by rw [f.length]; exact this⟩
  · obtain ⟨v, h3, h4⟩ := f.get (Option.some.inj q)
    refine ⟨⟨vs, v, sq, h3⟩, fun y H2 yl => ?_⟩
    obtain ⟨rfl, hy⟩ := yl
    have := hy vs sq
    rw [h3] at this
    cases this
    exact ⟨Ext.refl, w, h4⟩
theorem itOk_range {n : Int} : ItOk g r H (Itr 0 n.toNat) (itRange n) := fun g1 r1 H1 h1 i e w => by
  refine ⟨fun q => ?_, fun x q => ?_⟩
  · unfold itRange at q
    split at q
    · cases q
    · show n.toNat ≤ i
      omega
  · unfold itRange at q
    split at q
    · cases q
      refine ⟨(by show i < n.toNat; omega), fun y H2 yl => ?_⟩
      obtain ⟨rfl, rfl⟩ := yl
      exact ⟨Ext.refl, w, by simp [DV]⟩
    · cases q
/-- which kind: a tuple (true), a list -/
def kindB (u : U) : Bool := (asT u).isSome
theorem sqK_dv {u : U} {us : List U} {v : V} (w : Wd g r H h) (e : asSeq h u = some us) (d : DV g r H u v) : ∃ a vs, v = .ref a ∧ SqK g.K H (kindB u) a vs ∧ DVs g r H us vs := by
  cases u with
  | seq k us' =>
    cases k with
    | tup => obtain ⟨a, vs, e1, e2, e3⟩ := asT_dv (u := .seq .tup us') (by exact e) d; exact ⟨a, vs, e1, e2, e3⟩
    | lst => obtain ⟨a, vs, e1, e2, e3⟩ := asL_dv (u := .seq .lst us') w (by exact e) d; exact ⟨a, vs, e1, e2, e3⟩
    | ro => obtain ⟨a, vs, e1, e2, e3⟩ := asL_dv (u := .seq .ro us') w (by exact e) d; exact ⟨a, vs, e1, e2, e3⟩
  | obj i => obtain ⟨a, vs, e1, e2, e3⟩ := asL_dv (u := .obj i) w (by exact e) d; exact ⟨a, vs, e1, e2, e3⟩
  | _ => cases e
theorem itOk_zip {u y : U} {a b : Addr} (d : DV g r H u (.ref a)) (d' : DV g r H y (.ref b)) : ItOk g r H (ItzK g.K (kindB u) (kindB y) a b) (itZip u y) := fun g1 r1 H1 h1 i e w => by
  have d1 := DV.extG e _ _ d
  have d2 := DV.extG e _ _ d'
  refine ⟨fun q => ?_, fun x q => ?_⟩
  · unfold itZip at q
    split at q
    · rename_i us ws hu hw
      obtain ⟨a', vs, ea, sq, f⟩ := sqK_dv w hu d1
      obtain ⟨b', ys, eb, sq2, f2⟩ := sqK_dv w hw d2
      rw [e.K] at sq sq2
      cases ea
      cases eb
      split at q
      · rename_i hl
        obtain ⟨l1, l2⟩ := hl
        have q' := Option.some.inj q
        refine ⟨vs, ys, sq, sq2, by rw [f.length]; exact l1, by rw [f2.length]; exact l2, ?_⟩
        rw [f.length, f2.length]
        by_cases c1 : i < us.length
        · by_cases c2 : i < ws.length
          · rw [List.getElem?_eq_getElem c1, List.getElem?_eq_getElem c2] at q'
            cases q'
          · exact .inr (by omega)
        · exact .inl (by omega)
      · cases q
    · cases q
  · unfold itZip at q
    split at q
    · rename_i us ws hu hw
      obtain ⟨a', vs, ea, sq, f⟩ := sqK_dv w hu d1
      obtain ⟨b', ys, eb, sq2, f2⟩ := sqK_dv w hw d2
      rw [e.K] at sq sq2
      cases ea
      cases eb
      split at q
      · have q' := Option.some.inj q
        split at q'
        · rename_i p1 p2 c1 c2
          cases q'
          obtain ⟨v1, h3, h4⟩ := f.get c1
          obtain ⟨v2, h5, h6⟩ := f2.get c2
          refine ⟨⟨vs, ys, v1, v2, sq, sq2, h3, h5⟩, fun z H2 yl => ?_⟩
          obtain ⟨T, z1, z2, rfl, hT, rfl, k1, k2⟩ := yl
          have e1 := k1 vs sq
          have e2 := k2 ys sq2
          rw [h3] at e1
          rw [h5] at e2
          cases e1
          cases e2
          refine ⟨Ext.new hT, w.new hT, ?_⟩
          simp only [DV]
          refine ⟨T, [v1, v2], rfl, .inl ⟨.inl upd_same, w.fresh hT, w.freshX hT⟩, ?_⟩
          exact DVs.cons (DV.ext (Ext.new hT) _ _ h4) (DVs.one (DV.ext (Ext.new hT) _ _ h6))
        · cases q'
      · cases q
    · cases q
end
section
variable {g : Gd} {X : Cx} {E : WE'} {e e1 e2 tg : Expr} {pos p tpos : Pos} {m ma mb : ME}
theorem im_seq (C : Cxt g X E) (he : PE X e (tM g E m)) : PI X tg e (tI g E (iSeq m)) := by
  refine ⟨fun pins s σ H R I hq => ?_⟩
  obtain ⟨r, hh, ls, w, l, p⟩ := hq
  have viaL : (∀ u h1, m ls hh = .ok u h1 → asT u = none) → iList X.K (tM g E m) σ H R := fun hn => by
    refine ⟨r, hh, ls, w, l, ?_⟩
    unfold iSeq at p
    cases q : m ls hh with
    | bad => rw [q] at p; exact p
    | cut k => rw [q] at p; exact p
    | ok u h1 =>
      rw [q] at p
      simp only [Out.bind_ok] at p
      refine fun r' H' v ex w' d => ?_
      split at p
      · rename_i hs
        obtain ⟨us, hus⟩ := Option.isSome_iff_exists.mp hs
        have hL : asL h1 u = some us := by
          have hn := hn u h1 q
          cases u with
          | seq k us' => cases k <;> first | exact hus | cases hn
          | obj i => exact hus
          | _ => cases hus
        obtain ⟨a, vs, rfl, sq, f⟩ := asL_dv w' hL d
        rw [C.K]
        exact ⟨a, rfl, ⟨vs, sq⟩, p r' H' _ ex w' (itOk_list d fun _ => hn u h1 q)⟩
      · exact p.elim
  have viaT : (∀ u h1, m ls hh = .ok u h1 → ∃ us, u = .seq .tup us) → iTup X.K (tM g E m) σ H R := fun hn => by
    refine ⟨r, hh, ls, w, l, ?_⟩
    unfold iSeq at p
    cases q : m ls hh with
    | bad => rw [q] at p; exact p
    | cut k => rw [q] at p; exact p
    | ok u h1 =>
      rw [q] at p
      simp only [Out.bind_ok] at p
      refine fun r' H' v ex w' d => ?_
      obtain ⟨us, rfl⟩ := hn u h1 q
      split at p
      · obtain ⟨a, vs, rfl, sq, f⟩ := asT_dv (u := .seq .tup us) rfl d
        rw [C.K]
        exact ⟨a, rfl, ⟨vs, sq⟩, p r' H' _ ex w' (itOk_tup d)⟩
      · exact p.elim
  cases q : m ls hh with
  | ok u h1 =>
    cases ht : asT u with
    | some us =>
      refine (pi_tup he).run pins s σ H R I (viaT fun u' h' q' => ?_)
      rw [q] at q'; cases q'
      cases u with
      | seq k us' => cases k <;> first | exact ⟨_, rfl⟩ | cases ht
      | _ => cases ht
    | none => exact (pi_list he).run pins s σ H R I (viaL fun u' h' q' => by rw [q] at q'; cases q'; exact ht)
  | cut k => exact (pi_list he).run pins s σ H R I (viaL fun u' h' q' => by rw [q] at q'; cases q')
  | bad => exact (pi_list he).run pins s σ H R I (viaL fun u' h' q' => by rw [q] at q'; cases q')
theorem im_range (hg : Gl X "range") (hm : X.mg "range" = none) (he : PE X e (tM g E m)) (hs : starEach [e] X.env = [(false, eval e X.env)] := by rfl) : PI X tg (.Call (.Name "range" p) [e] [] pos) (tI g E (iRange m)) := by
  refine PIw (pi_range1 hg hm (pa_cons he pa_nil hs) hs) fun σ H R hq => ?_
  obtain ⟨r, hh, ls, w, l, p⟩ := hq
  refine tM_bindI w l p fun v H1 r1 h1 u e1 w1 l1 d1 p1 => ?_
  cases u with
  | int n =>
    simp only [DV] at d1
    subst d1
    simp only at p1
    split at p1
    · rename_i hn
      exact ⟨n, rfl, hn.1, hn.2, p1 r1 H1 _ Ext.refl w1 itOk_range⟩
    · exact p1.elim
  | _ => exact p1.elim
theorem im_zip (C : Cxt g X E) {elts : List Expr} {kk : Nat} (hg : Gl X "zip") (hm : X.mg "zip" = none) (h1 : PE X e1 (tM g E ma)) (h2 : PE X e2 (tM g E mb))
    (hs : starEach [e1, e2] X.env = (false, eval e1 X.env) :: starEach [e2] X.env := by rfl) (hs2 : starEach [e2] X.env = (false, eval e2 X.env) :: starEach [] X.env := by rfl) (hpl : (backTo pos (starEach [e2] X.env)).any (·.1) = false := by rfl) :
    PI X (.Tuple elts kk tpos) (.Call (.Name "zip" p) [e1, e2] [] pos) (tI g E (iZip2 ma mb)) := by
  refine PIw (pi_zipK hg hm (pa_cons h1 (pa_cons h2 pa_nil hs2) hs) hs hpl) fun σ H R hq => ?_
  obtain ⟨r, hh, ls, w, l, p⟩ := hq
  refine tM_bindI w l p fun v H1 r1 h1 u e1 w1 l1 d1 p1 => ?_
  refine tM_bindI w1 l1 p1 fun v2 H2 r2 h2 u2 e2 w2 l2 d2 p2 => ?_
  split at p2
  · rename_i hs
    simp only [Bool.and_eq_true] at hs
    obtain ⟨us, hus⟩ := Option.isSome_iff_exists.mp hs.1
    obtain ⟨ws, hws⟩ := Option.isSome_iff_exists.mp hs.2
    have d1' := DV.ext e2 _ _ d1
    obtain ⟨a, vs, rfl, sq, f⟩ := sqK_dv w2 hus d1'
    obtain ⟨b, ys, rfl, sq2, f2⟩ := sqK_dv w2 hws d2
    rw [C.K]
    exact ⟨kindB u, kindB u2, a, b, vs, ys, rfl, sq, sq2, p2 r2 H2 _ Ext.refl w2 (itOk_zip d1' d2)⟩
  · exact p2.elim

/-! ### for -/
def forL (it : Itm) (T : Tg) (b : MS) : Nat → Nat → Loc → AH → OutS
  | 0, _, _, _ => .bad
  | n + 1, i, ls, h => match it i h with
    | none => .bad
    | some none => .nx ls h
    | some (some u) => match T u h ls with
      | none => .bad
      | some ls1 => match b ls1 h with
        | .nx l k => forL it T b n (i + 1) l k
        | .ct l k => forL it T b n (i + 1) l k
        | .bk l k => .nx l k
        | o => o
/-- N bounds the turns -/
def sFor (N : Nat) (mi : MI) (T : Tg) (b : MS) : MS := fun ls h => (mi ls h).s ls fun it h1 => forL it T b N 0 ls h1
theorem sm_for {N : Nat} {iter : Expr} {body : List Stmt} {mi : MI} {gg : TG} {T : Tg} {ix : List Nat} {b : MS} (hp : PassesOwn (model X.prog X.w) X.A X.env X.xe) (C : Cxt g X E) (hi : PI X tg iter (tI g E mi)) (hg : PG X tg gg) (gu : GU g gg T ix) (hb : PSs X body (tMS g E b))
    (hs : ∀ x, foldedSetIterable iter X.env x = pure x := by intro _; rfl) : PS X (.For tg iter body [] pos) (tMS g E (sFor N mi T b)) :=
  PSw (ps_for hp C.calm hi hg hb hs) fun D σ H hq => by
    obtain ⟨r, hh, ls, w, l, p⟩ := hq
    refine ⟨r, hh, ls, w, l, ?_⟩
    unfold sFor at p
    cases q : mi ls hh with
    | bad => rw [q] at p; exact p
    | cut k => rw [q] at p; exact fun r' H' e w' => p r' H' σ e w' (l.ext e)
    | ok it h1 =>
      rw [q] at p
      simp only [Out.s_ok] at p
      refine fun r' H' J e w' ok => ?_
      refine ⟨fun i m σ2 H2 => ∃ r2 h2 ls2, Ext r' H' r2 H2 ∧ Wd g r2 H2 h2 ∧ LOk g r2 H2 ls2 σ2 ∧ PoS g E r2 H2 D (forL it T b m i ls2 h2), ⟨N, r', h1, ls, Ext.refl, w', l.ext e, PoS.ext p e⟩, ?_⟩
      rintro i m σ2 H2 ⟨r2, h2, ls2, e2, w2, l2, p2⟩
      cases m with
      | zero => exact p2.elim
      | succ n =>
        unfold forL at p2
        obtain ⟨ok1, ok2⟩ := ok g r2 H2 h2 i (ExtG.of e2) w2
        split at p2
        · exact p2.elim
        · rename_i hn
          exact .inl ⟨ok1 hn, p2 r2 H2 σ2 Ext.refl w2 l2⟩
        · rename_i u hu
          obtain ⟨go, yl⟩ := ok2 u hu
          split at p2
          · exact p2.elim
          · rename_i ls3 hT
            refine .inr ⟨go, fun σ3 H3 => ∃ r3 h3 l3, Ext r' H' r3 H3 ∧ Wd g r3 H3 h3 ∧ LOk g r3 H3 l3 σ3 ∧ PoS g E r3 H3 D (forL it T b n (i + 1) l3 h3), fun σ3 H3 q3 => ⟨n, Nat.lt_succ_self n, q3⟩, fun x H3 hy => ?_⟩
            obtain ⟨e3, w3, d3⟩ := yl x H3 hy
            refine gu r2 H3 h2 u x ls2 σ2 ls3 _ w3 d3 (l2.ext e3) hT fun σ4 l4 _ _ => ?_
            refine ⟨r2, h2, ls3, w3, l4, ?_⟩
            have p3 := PoS.ext p2 e3
            have e4 := e2.trans e3
            cases q4 : b ls3 h2 with
            | nx a k => rw [q4] at p3; exact fun r5 H5 σ5 e5 w5 l5 => ⟨r5, k, a, e4.trans e5, w5, l5, PoS.ext p3 e5⟩
            | ct a k => rw [q4] at p3; exact fun r5 H5 σ5 e5 w5 l5 => ⟨r5, k, a, e4.trans e5, w5, l5, PoS.ext p3 e5⟩
            | bk a k => rw [q4] at p3; exact p3
            | rt a k => rw [q4] at p3; exact p3
            | cut a k => rw [q4] at p3; exact p3
            | bad => rw [q4] at p3; exact p3
end
end Wk
set_option maxRecDepth 100000
set_option maxHeartbeats 4000000
/-! Fw8: an exception out of a comprehension's element; the comprehension itself. -/
namespace Wk
open PySem PySem.Spec PyProof.Rows L2

/-- the block's context, with a wish about exceptions -/
abbrev blkE (X : Cx) (s : Shared) (H : Hp) (scope : Scope) (cenv : Env) (fp : List Addr) (xe : Value → Shared → Prop) : Cx := (X.blk s H scope cenv fp).wish xe

theorem flying_of_call {X : Cx} {pins : List (Addr × Obj)} {σ : L2.St} {H : Hp} {s s' : Shared} {E : XK} (I : Inv X pins σ H s) {u : Value} (c : CX X.prog X.w X.stack H s E u s') :
    ∃ (a : Addr) (B : Heap) (sI : Shared) (H' : Hp) (cls : Value) (d : Option Addr), u = .ref a ∧ Inv X pins σ H' sI ∧ (∀ b o, sI.heap.get? b = some o → b ∉ frs X.stack → B.get? b = some o) ∧ sI.heap.UpToSlots s'.heap ∧
      HandSPX.FlyingZ B X.stack a (Zc cls d) s'.heap ∧ H' a = none ∧ s'.os = sI.os ∧ AllBare s'.gens ∧ E cls d H' := by
  obtain ⟨a, B, H', cls, d, rfl, fl, hok, ub, na, os, ag, hE⟩ := c
  obtain ⟨G, g1, g2⟩ := restrict s'.heap fun b => (B.get? b).isSome || decide (b ∈ frs X.stack)
  have st : B.StaysIn s'.heap := fl.1
  have gB : ∀ b o, B.get? b = some o → G.get? b = some o := fun b o e => by
    rw [g1 b (by simp [e])]
    exact st b o e
  have gF : ∀ b, b ∈ frs X.stack → G.get? b = s'.heap.get? b := fun b hb => g1 b (by simp [hb])
  have og : ∀ b o, G.get? b = some o → s'.heap.get? b = some o ∧ ((B.get? b).isSome = true ∨ b ∈ frs X.stack) := fun b o e => by
    cases q : ((B.get? b).isSome || decide (b ∈ frs X.stack)) with
    | false => rw [g2 b q] at e; cases e
    | true =>
      rw [g1 b q] at e
      exact ⟨e, by simpa [Bool.or_eq_true] using q⟩
  refine ⟨a, B, { s with heap := G, gens := s'.gens, drawn := s'.drawn, toks := s'.toks }, H', cls, d, rfl, ?_, fun b o e hb => ?_, Heap.UpToSlots.of_keeps fun b o e => (og b o e).1, fl, na, os, ag, hE⟩
  · refine I.call (ch := []) ⟨fun b o e n hb _ => gB b o (ub.keep b o e n hb), fun b o e n hb _ => ?_, fun b o e n _ => ub.free b o e n, fun b o e _ => ?_, ub.tups, ub.frzs, ub.tbls⟩ (hok.kept gB) ag (fun _ z => nomatch z)
    · obtain ⟨sl, q⟩ := ub.slot b o e hb
      exact ⟨sl, by rw [gF b hb]; exact q⟩
    · by_cases hb : b ∈ frs X.stack
      · obtain ⟨sl, q⟩ := ub.slot b o e hb
        exact ⟨_, by rw [gF b hb]; exact q⟩
      · obtain ⟨o', q⟩ := ub.there b o e hb
        exact ⟨o', gB b o' q⟩
  · obtain ⟨e', h⟩ := og b o e
    rcases h with h | h
    · obtain ⟨o', q⟩ := Option.isSome_iff_exists.mp h
      have z := st b o' q
      rw [e'] at z; cases z
      exact q
    · exact absurd h hb

/-- out of a call in the block: the block is let go, the exception is in the def's air -/
theorem block_raise {X : Cx} {pins pinsB : List (Addr × Obj)} {σ σ8 : L2.St} {H3 H4 : Hp} {s3 s4 s' : Shared} {scope : Scope} {ce : Env} {fp : List Addr} {xe' : Value → Shared → Prop} {E : XK} {u : Value}
    (hst : X.stack = X.env :: X.outer) (hfL : X.env.frame = some X.env.locals) (hcf : ce.frame = X.env.frame) (hC : ce.locals = s3.heap.objs.size) (I3 : Inv X pins σ H3 s3) (f3 : ∀ b ∈ fp, FpOk X pins H3 b)
    (Ib : Inv (blkE X s3 H3 scope ce fp xe') pinsB σ8 H4 s4) (tk : Takes X fun cls d _ H => E cls d H) (c : CX X.prog X.w X.stack H4 s4 E u s') : notedBy (model X.prog X.w) X.A ce (CompFails (model X.prog X.w) X.A X.xe ce) u s' := by
  obtain ⟨a, B, sI, H', cls, d, rfl, J, nb, up, fl, na, os, ag, hE⟩ := flying_of_call Ib c
  have nb : ∀ b o, sI.heap.get? b = some o → b ∉ frs X.stack → B.get? b = some o := nb
  have hfr : X.A.frames = some (X.env :: X.outer) := by rw [I3.ok.frames, hst]
  have nC3 : s3.heap.get? ce.locals = none := by
    cases q : s3.heap.get? ce.locals with
    | none => rfl
    | some o => exact absurd (Heap.lt_size q) (by rw [hC]; exact Nat.lt_irrefl _)
  have HC : H' ce.locals = none := J.free
  show wpAny _ X.A (noteFrame (.ref a) ce) _ _ s'
  rw [noteFrame_env _ hcf]
  have fl : HandSPX.FlyingZ B (X.env :: X.outer) a (Zc cls d) s'.heap := hst ▸ fl
  refine HandSPX.looks_onZ Zc.steady hfr hfL fl fun h1 hh up1 => ?_
  obtain ⟨mI, hnI, _⟩ := J.loc
  have hnI : sI.heap.Ns ce.locals mI := hnI
  have hn1 : h1.Ns ce.locals mI := hnI.upToSlots (up.trans up1)
  refine ⟨mI, hn1, fun h2 m2 hn2 hs2 => ?_⟩
  obtain ⟨oC, esC, epC, hoC, hdC, _⟩ := hn1
  have notC : ∀ b o vs, h1.get? b = some o → o.data = .fields vs → b ≠ ce.locals := fun b o vs e q z => by
    rw [z, hoC] at e; cases e
    rw [hdC] at q; cases q
  have heldB : HandSPX.HeldZ (PySem.W.hideAll B [ce.locals]) (X.env :: X.outer) a (Zc cls d) X.env.locals h2 := by
    obtain ⟨k1, k2, k3, oe, vs, T, oT, ts, he, hz, hd, hv1, hnT, hTe, hT, hdT, hv3⟩ := hh
    have none_hide : ∀ b, B.get? b = none → (PySem.W.hideAll B [ce.locals]).get? b = none := fun b e => by
      cases q : (PySem.W.hideAll B [ce.locals]).get? b with
      | none => rfl
      | some o =>
        have z := PySem.W.of_hideAll _ q
        rw [e] at z; cases z
    refine ⟨fun b o e => ?_, none_hide a k2, funFrames_none (Heap.FunFrames.sameBut hs2 hn2 k3) fun L hL => none_hide L (k3.mem hL).1, oe, vs, T, oT, ts, ?_, hz, hd, hv1, none_hide T hnT, hTe, ?_, hdT, hv3⟩
    · have hb : b ≠ ce.locals := fun z => by
        rw [z, PySem.W.hideAll_none _ (by simp)] at e; cases e
      exact (hs2.2 b hb).trans (k1 b o (PySem.W.of_hideAll _ e))
    · exact (hs2.2 a (notC a oe vs he hd)).trans he
    · exact (hs2.2 T (notC T oT ts hT hdT)).trans hT
  have heldB' := heldB
  obtain ⟨k1, k2, k3, oe, vs, T, oT, ts, he, hz, hd, hv1, hnT, hTe, hT, hdT, hv3⟩ := heldB
  unfold PySem.passOn
  refine wpAny_bind (wpAny_field he hd hv1 ?_)
  rw [if_neg (show ¬ ((Value.ref T == Value.none) = true) from by simp)]
  rw [hcf, hfL]
  refine wpAny_bind (HandSPX.setFlight_onZ heldB' fun h3 hh3 up3 => wpAny_throw ?_)
  have bC : ∀ b o, (PySem.W.hideAll sI.heap [ce.locals]).get? b = some o → sI.heap.get? b = some o ∧ b ≠ ce.locals := fun b o e => by
    refine ⟨PySem.W.of_hideAll _ e, fun z => ?_⟩
    rw [z, PySem.W.hideAll_none _ (by simp)] at e; cases e
  have cB : ∀ b o, sI.heap.get? b = some o → b ≠ ce.locals → (PySem.W.hideAll sI.heap [ce.locals]).get? b = some o := fun b o e n => PySem.W.hideAll_get _ e (by simpa using n)
  have n3 : ∀ b o, s3.heap.get? b = some o → b ≠ ce.locals := fun b o e z => by rw [z, nC3] at e; cases e
  have I' : Inv X pins σ H' { sI with heap := PySem.W.hideAll sI.heap [ce.locals] } := by
    have Jb : Un (frs X.stack) fp H3 H' s3.heap sI.heap := J.base
    refine I3.call' (ch := fp) J.os ⟨fun b o e n hb hx => cB b o (Jb.keep b o e n hb hx) (n3 b o e), fun b o e n hb hx => ?_, Jb.free, fun b o e hx => ?_, Jb.tups, Jb.frzs, Jb.tbls⟩ (fun b o q => ?_) J.bare fun b hb => ⟨(f3 b hb).2.2.2.1, (f3 b hb).2.1, (f3 b hb).2.2.2.2.1, (f3 b hb).2.2.2.2.2⟩
    · obtain ⟨sl, q⟩ := Jb.slot b o e n hb hx
      exact ⟨sl, cB b _ q (n3 b o e)⟩
    · obtain ⟨o', q⟩ := Jb.there b o e hx
      exact ⟨o', cB b _ q (n3 b o e)⟩
    · exact (J.hok b o q).stay (fun c u hc r => cB c u r fun z => by
        have w := HC
        rw [← z] at w
        rcases hc with hc | hc
        · rw [hc, q] at w; cases w
        · rw [hc] at w; cases w) (fun _ r => r) fun _ _ r => r
  refine tk _ _ ⟨a, PySem.W.hideAll B [ce.locals], _, pins, σ, H', cls, d, rfl, I', fun b o e hb => ?_, fun b o e hnf => ?_, .inr (.inr (hst ▸ hh3)), na, os, ag, hE⟩
  · obtain ⟨e1, e2⟩ := bC b o e
    exact PySem.W.hideAll_get _ (nb b o e1 hb) (by simpa using e2)
  · obtain ⟨e1, e2⟩ := bC b o e
    obtain ⟨sl, q⟩ := (up.trans up1) b o e1 hnf
    have q2 : h2.get? b = _ := (hs2.2 b e2).trans q
    obtain ⟨sl2, q3⟩ := up3 b _ q2 hnf
    exact ⟨sl2, q3⟩

section
variable {X : Cx}
theorem lcE_core {Ed : XK} {pins : List (Addr × Obj)} {s : Shared} {σ : L2.St} {H : Hp} {Q : VK} {elt tg iter : Expr} {ifs : List Expr} {scope : Scope} {own : List (Str × Nat)} {pos pos' : Pos} {wi : TI} {g : TG} {tt : TT} {te : TE} {use : Option (Value → Sem Unit)} {Qf : Value → Shared → Prop}
    (hc : X.calm = true) (hN : X.N.Nodup) (hst : X.stack = X.env :: X.outer) (hfL : X.env.frame = some X.env.locals) (tk : Takes X fun cls d _ H => Ed cls d H) (I : Inv X pins σ H s) (hi : PI X tg iter wi) (ok : BlkOk X.N X.env.scope scope own)
    (hg : ∀ (s : Shared) (H : Hp) (C : Addr) (cl : List (Str × Addr)) (fp : List Addr) xe, PG (blkE X s H scope (compEnvC scope cl C X.env) fp xe) tg g)
    (ht : ∀ (s : Shared) (H : Hp) (C : Addr) (cl : List (Str × Addr)) (fp : List Addr) xe, (∀ σ, PassesAt (L2.CX X.prog X.w) (blkE X s H scope (compEnvC scope cl C X.env) fp xe) σ Ed) → PTs (blkE X s H scope (compEnvC scope cl C X.env) fp xe) ifs tt)
    (he : ∀ (s : Shared) (H : Hp) (C : Addr) (cl : List (Str × Addr)) (fp : List Addr) xe, (∀ σ, PassesAt (L2.CX X.prog X.w) (blkE X s H scope (compEnvC scope cl C X.env) fp xe) σ Ed) → PE (blkE X s H scope (compEnvC scope cl C X.env) fp xe) elt te) (hs : ∀ x, foldedSetIterable iter X.env x = pure x)
    (h : tLc wi g tt te (own.map (·.2)) σ H Q)
    (hRR : ∀ D (ce : Env) s' m H', Inv X pins σ H' s' → Q (.ref D) H' → s'.heap.Ns ce.locals m → FpOk X pins H' ce.locals → compEnds (model X.prog X.w) X.A X.xe use Qf (.ref D) ce (.ok .next) s') :
    wpAny (model X.prog X.w) X.A (comprehension (.ListComp elt [⟨tg, iter, ifs, 0⟩] scope pos) scope X.env pos' (newList []) false (eval iter X.env) use) Qf X.xe s := by
  have hfree : ∀ y ∈ scope.names, y.2 = .free → ∃ c, X.env.cells.lookup y.1 = some c := fun y hy e => by
    rcases ok.free y hy e with k | k
    · exact I.ok.has _ (.inl k)
    · exact I.ok.has _ (.inr k)
  refine comprehension_at (use := use) rfl hs (closure_ok hfree) ok.kind (fun y hy e => by rw [ok.uniq y hy, e])
    (thn (hi.run pins s σ H _ I h) fun xv s1 hx => thn hx fun itv s2 h2 => ?_)
  obtain ⟨it, fp, tn, J, H2, e, I2, T, st2, f2, q⟩ := h2
  subst e
  refine wpAny_newObj_type (newEnv_comp ?_) (by show 0 ≤ sizeLine; decide)
  generalize hD : s2.heap.objs.size = D
  have hDn : H2 D = none := I2.hok.fresh (Nat.le_of_eq hD)
  obtain ⟨W, ⟨m0, w0⟩, turn⟩ := q D hDn
  generalize hs3 : ({ s2 with heap := s2.heap.push { cls := .type "list", data := .seq ([] : List Value).toArray } } : Shared) = s3
  have I3 : Inv X pins σ (upd H2 D (.lst [])) s3 := by
    rw [← hs3]
    refine I2.laid (t' := s2.toks) (fun b o e => Heap.get?_push_of_some _ e) (Nat.le_of_eq hD) ⟨Nat.zero_le _, [], 0, .nil, ?_⟩
    rw [← hD]
    exact Heap.get?_push_size _ rfl
  have h3 : s3.heap = s2.heap.push { cls := .type "list", data := .seq ([] : List Value).toArray } := by rw [← hs3]
  have sz : ∀ b ∈ fp, b < s2.heap.objs.size := fun b hb => by
    obtain ⟨o, e, _⟩ := T.obj _ _ st2 b hb
    exact Heap.lt_size e
  have f3 : ∀ b ∈ fp, FpOk X pins (upd H2 D (.lst [])) b ∧ b < s3.heap.objs.size := fun b hb => by
    have hlt := sz b hb
    refine ⟨⟨?_, (f2 b hb).2⟩, by rw [h3, Heap.size_push]; exact Nat.lt_succ_of_lt hlt⟩
    rw [upd_ne (by rw [← hD]; exact Nat.ne_of_lt hlt)]
    exact (f2 b hb).1
  have st3 : tn 0 s3.heap := T.keep _ _ _ st2 fun b _ o e => by rw [h3]; exact Heap.get?_push_of_some _ e
  have I4 := block_start I3 ok hN f3
  generalize hcl : cellsFrom (s3.heap.objs.size + 1) scope.names (cloFrom X.env.cells scope.names []) = cl at I4 ⊢
  generalize hH3 : upd H2 D (.lst []) = H3 at I3 I4 w0 f3
  generalize hce : compEnvC scope cl s3.heap.objs.size X.env = ce at I4
  have cL : ce.locals = s3.heap.objs.size := by subst hce; rfl
  have cF : ce.frame = X.env.frame := by subst hce; rfl
  generalize hxB : (fun u s' => notedBy (model X.prog X.w) X.A ce (fun e s' => compEnds (model X.prog X.w) X.A X.xe use Qf (.ref D) ce (.error e) s') u s') = xB
  have I4 := I4.wish xB
  have pass : ∀ σ8, PassesAt (L2.CX X.prog X.w) (blkE X s3 H3 scope (compEnvC scope cl s3.heap.objs.size X.env) fp xB) σ8 Ed := fun σ8 pinsB H4 s4 u s' Ib c => by
    rw [hce] at Ib
    have z := block_raise (xe' := xB) hst hfL cF cL I3 (fun b hb => (f3 b hb).1) Ib tk c
    show xB u s'
    rw [← hxB]
    cases use <;> exact z
  have pg := hg s3 H3 s3.heap.objs.size cl fp xB
  have pt := ht s3 H3 s3.heap.objs.size cl fp xB pass
  have pe := he s3 H3 s3.heap.objs.size cl fp xB pass
  show codeAny _ _ (.compStart (.ListComp elt [⟨tg, iter, ifs, 0⟩] scope pos) 0 (.ref it) (.ref D) (compEnvC scope cl s3.heap.objs.size X.env)) (compEnds (model X.prog X.w) X.A X.xe use Qf (.ref D) (compEnvC scope cl s3.heap.objs.size X.env)) { s3 with heap := pushCells (s3.heap.push { cls := .type "dict", data := .dict #[] }) scope.names }
  rw [hce] at pg pt pe ⊢
  have nfp : ∀ b ∈ fp, H3 b = none := fun b hb => (f3 b hb).1.1
  generalize hs4 : ({ s3 with heap := pushCells (s3.heap.push { cls := .type "dict", data := .dict #[] }) scope.names } : Shared) = s4 at I4 ⊢
  have st4 : tn 0 s4.heap := T.keep _ _ _ st3 fun b _ o e => by rw [← hs4]; exact pushCells_keeps _ _ _ _ (Heap.get?_push_of_some _ e)
  have stat : ∀ {σ' : L2.St} {H' : Hp} {s' : Shared}, Inv (blkE X s3 H3 scope ce fp xB) [] σ' H' s' → (∀ b ∈ fp, H' b = none) → ∀ b ∈ fp, FpOk (blkE X s3 H3 scope ce fp xB) [] H' b := fun {σ' H' s'} I' hn b hb =>
    ⟨hn b hb, (I'.ok.exf b hb).1, I'.ok.exfs b hb, .inl hb, fun x c e => (I'.ok.exf b hb).2 x c e, fun p hp => absurd (show p ∈ ([] : List (Addr × Obj)) ++ [] from hp) (by simp)⟩
  have loop : codeAny (model X.prog X.w) X.A (.compLoop (.ListComp elt [⟨tg, iter, ifs, 0⟩] scope pos) 0 (.ref it) (.ref D) ce) (compEnds (model X.prog X.w) X.A X.xe use Qf (.ref D) ce) s4 := by
    refine compLoop_any (fun n s' => ∃ i H', Inv (blkE X s3 H3 scope ce fp xB) [] (wipe σ (own.map (·.2))) H' s' ∧ tn i s'.heap ∧ (∀ b ∈ fp, H' b = none) ∧ W i n H') ?_ m0 ⟨0, H3, I4, st4, nfp, w0⟩
    rintro n s5 ⟨i, H5, I5, st5, n5, w5⟩
    rcases turn i n H5 w5 with ⟨stop, qq⟩ | ⟨go, Nx, hNx, step⟩
    · have td := T.done (blkE X s3 H3 scope ce fp xB) rfl rfl rfl hc i [] s5 _ H5 (fun _ _ => False) I5 (stat I5 n5) st5 stop
      refine thnF td fun r s6 ⟨hr, I6⟩ => ?_
      subst hr
      have I7 : Inv X pins σ H5 s6 := I3.call' (ch := fp) I6.os I6.base I6.hok I6.bare fun b hb => ⟨(f3 b hb).1.2.2.2.1, (f3 b hb).1.2.1, (f3 b hb).1.2.2.2.2.1, (f3 b hb).1.2.2.2.2.2⟩
      have nC : H5 ce.locals = none := I6.free
      obtain ⟨m, hn, _⟩ := I6.loc
      have hn : s6.heap.Ns ce.locals m := hn
      exact hRR D ce s6 m H5 I7 qq hn (by rw [cL] at nC ⊢; exact I3.fpOk (Nat.le_refl _) nC)
    · have ti := T.item (blkE X s3 H3 scope ce fp xB) rfl rfl rfl hc i [] s5 _ H5 (fun _ _ => False) I5 (stat I5 n5) st5 go
      refine thnF ti fun r s6 ⟨u, hr, h6⟩ => ?_
      subst hr
      refine thnF h6 fun _ s7 ⟨x, H7, I7, r7, y7, st7, n7⟩ => ?_
      have I7' := I7.pinned (stat I7 n7) (T.obj _ _ st7)
      have hx : (blkE X s3 H3 scope ce fp xB).xe = fun u s' => notedBy (model X.prog X.w) X.A ce (fun e s' => compEnds (model X.prog X.w) X.A X.xe use Qf (.ref D) ce (.error e) s') u s' := hxB.symm
      have r1 := pg.run _ s7 _ H7 x u _ I7' r7 (step x H7 y7)
      rw [hx] at r1
      refine thn r1 fun _ s8 ⟨σ8, H8, I8, hw8, q8⟩ => ?_
      have r2 := pt.run _ s8 σ8 H8 _ I8 q8
      rw [hx] at r2
      refine thn r2 fun b s9 ⟨H9, I9, q9⟩ => ?_
      have fin : ∀ {s' : Shared} {H' : Hp}, Inv (blkE X s3 H3 scope ce fp xB) ([] ++ pinsAt fp s7.heap) σ8 H' s' → Nx H' → ∃ m, m < n ∧ ∃ i H', Inv (blkE X s3 H3 scope ce fp xB) [] (wipe σ (own.map (·.2))) H' s' ∧ tn i s'.heap ∧ (∀ b ∈ fp, H' b = none) ∧ W i m H' := fun {s' H'} I' nx => by
        obtain ⟨m', hm, w'⟩ := hNx H' nx
        have pin' : ∀ b ∈ fp, ∀ o, s7.heap.get? b = some o → s'.heap.get? b = some o ∧ H' b = none := fun b hb o e =>
          let z := I'.pin (b, o) (List.mem_append_right _ (List.mem_append_right _ (mem_pinsAt hb e)))
          ⟨z.1, z.2.1⟩
        have hl : (wipe σ (own.map (·.2))).length = σ8.length := by rw [← hw8, wipe_length]
        refine ⟨m', hm, i + 1, H', (I'.unpinned (pins := [])).weak hl (fun j v e => ?_), T.keep _ _ _ st7 fun b hb o e => (pin' b hb o e).1, fun b hb => ?_, w'⟩
        · rw [← hw8] at e
          exact (wipe_some e).1
        · obtain ⟨o, e, _⟩ := T.obj _ _ st7 b hb
          exact (pin' b hb o e).2
      cases b with
      | false =>
        simp only [Bool.false_eq_true, if_false] at q9 ⊢
        exact fin I9 q9
      | true =>
        simp only [if_true] at q9 ⊢
        have r3 := pe.run _ s9 σ8 H9 _ I9 q9
        rw [hx] at r3
        refine thn r3 fun z s10 ⟨yv, H10, I10, r10, acc, hD10, hz10, nx⟩ => ?_
        exact app_ok (X := blkE X s3 H3 scope ce fp xB) I10 hD10 hz10 r10 fun s11 I11 => fin I11 nx
  exact codeAny_compStart_list loop (T.self X.A 0 _ _ _ st4 loop)
end
end Wk
set_option maxRecDepth 100000
set_option maxHeartbeats 4000000
/-! Fw9: comprehensions on our side. -/
namespace Wk
open PySem PySem.Spec PyProof.Rows L2

abbrev Gd.w (g : Gd) (ex : List Addr) : Gd := { g with ex := ex }
def wipeU (ls : Loc) : List Nat → Loc
  | [] => ls
  | v :: vs => (wipeU ls vs).set v none
def lcL (it : Itm) (T : Tg) (ct : MT) (me : ME) (ls0 : Loc) : Nat → Nat → List U → AH → Out (List U)
  | 0, _, _, _ => .bad
  | n + 1, i, acc, h => match it i h with
    | none => .bad
    | some none => .ok acc h
    | some (some u) => match T u h ls0 with
      | none => .bad
      | some ls1 => (ct ls1 h).bind fun b h1 => if b then (me ls1 h1).bind fun y h2 => if acc.length ≤ 999 then lcL it T ct me ls0 n (i + 1) (acc ++ [y]) h2 else .bad else lcL it T ct me ls0 n (i + 1) acc h1
def eLc (N : Nat) (mi : MI) (T : Tg) (vs : List Nat) (ct : MT) (me : ME) : ME := fun ls h => (mi ls h).bind fun it h1 => (lcL it T ct me (wipeU ls vs) N 0 [] h1).bind fun us h2 => .ok (.seq .lst us) h2
def cYes : MT := fun _ h => .ok true h

section
variable {g : Gd} {r : List Addr} {H : Hp} {h : AH}
theorem SQ.wrx {k : SK} {a D : Addr} {o : HO} {vs : List V} (hD : D ∈ g.ex) (q : SQ g r H k a vs) : SQ g r (upd H D o) k a vs := by
  have ne : a ∉ g.ex → a ≠ D := fun n e => n (e ▸ hD)
  cases k with
  | tup =>
    rcases q with ⟨q, ha, hx⟩ | q
    · refine .inl ⟨?_, ha, hx⟩
      rcases q with q | ⟨o', q⟩
      · exact .inl (by rw [upd_ne (ne hx)]; exact q)
      · exact .inr ⟨o', by rw [upd_ne (ne hx)]; exact q⟩
    · exact .inr q
  | lst => exact ⟨by rw [upd_ne (ne q.2.2)]; exact q.1, q.2⟩
  | ro =>
    rcases q with ⟨⟨o', q⟩, ha, hx⟩ | q
    · exact .inl ⟨⟨o', by rw [upd_ne (ne hx)]; exact q⟩, ha, hx⟩
    · exact .inr q
mutual
theorem DV.wrx {D : Addr} {o : HO} (hD : D ∈ g.ex) : ∀ (u : U) (v : V), DV g r H u v → DV g r (upd H D o) u v
  | .non, v, h => by simpa [DV] using h
  | .bl b, v, h => by simpa [DV] using h
  | .int i, v, h => by simpa [DV] using h
  | .str x, v, h => by simpa [DV] using h
  | .seq k us, v, h => by
    simp only [DV] at h ⊢
    obtain ⟨a, vs, h1, h2, h3⟩ := h
    exact ⟨a, vs, h1, h2.wrx hD, DVs.wrx hD us vs h3⟩
  | .obj i, v, h => by simpa [DV] using h
theorem DVs.wrx {D : Addr} {o : HO} (hD : D ∈ g.ex) : ∀ (us : List U) (vs : List V), DVs g r H us vs → DVs g r (upd H D o) us vs
  | [], vs, h => by simpa [DVs] using h
  | u :: us, vs, h => by
    simp only [DVs] at h ⊢
    obtain ⟨v, ws, h1, h2, h3⟩ := h
    exact ⟨v, ws, h1, DV.wrx hD u v h2, DVs.wrx hD us ws h3⟩
end
theorem MOk.moveG {g' : Gd} {r' : List Addr} {H' : Hp} {a : Addr} {o : MO} (e : ExtG g r H g' r' H') (ha : H' a = H a) (m : MOk g r H a o) : MOk g' r' H' a o := by
  cases o with
  | lst us => obtain ⟨vs, m, d⟩ := m; exact ⟨vs, ha.trans m, DVs.extG e _ _ d⟩
  | dct us => obtain ⟨vs, m, l, d⟩ := m; exact ⟨vs, ha.trans m, l, fun k u q => let ⟨v, h1, h2⟩ := d k u q; ⟨v, h1, DV.extG e _ _ h2⟩⟩
  | ins us => obtain ⟨dx, vs, m, d⟩ := m; exact ⟨dx, vs, ha.trans (by rw [e.CL]; exact m), DVs.extG e _ _ d⟩
theorem ExtG.less {ex : List Addr} (hs : ∀ a ∈ ex, a ∈ g.ex) : ExtG g r H (g.w ex) r H := ⟨Ext.refl, rfl, rfl, rfl, fun a ha => .inl (hs a ha)⟩
theorem Wd.less {ex : List Addr} (hs : ∀ a ∈ ex, a ∈ g.ex) (w : Wd g r H h) : Wd (g.w ex) r H h :=
  ⟨w.nd, w.len, fun i o q => let ⟨a, h1, m⟩ := w.ok i o q; ⟨a, h1, m.moveG (ExtG.less hs) rfl⟩, fun a ha => w.exs a (hs a ha)⟩
theorem ExtG.opens {D : Addr} {o : HO} (hD : H D = none) : ExtG g r H (g.w (D :: g.ex)) r (upd H D o) :=
  ⟨Ext.new hD, rfl, rfl, rfl, fun a ha => by rcases List.mem_cons.mp ha with e | ha; exact .inr (e ▸ hD); exact .inl ha⟩
theorem Wd.opens {D : Addr} {o : HO} (hD : H D = none) (w : Wd g r H h) : Wd (g.w (D :: g.ex)) r (upd H D o) h := by
  refine ⟨w.nd, w.len, fun i o q => ?_, fun a ha => ?_⟩
  · obtain ⟨a, h1, m⟩ := w.ok i o q
    exact ⟨a, h1, m.moveG (ExtG.opens hD) (upd_ne fun e => w.fresh hD (e ▸ List.mem_of_getElem? h1))⟩
  · rcases List.mem_cons.mp ha with e | ha
    · subst e; exact ⟨⟨o, upd_same⟩, w.fresh hD⟩
    · exact w.exsE (Ext.new hD) a ha
theorem Wd.wrx {D : Addr} {o : HO} (hD : D ∈ g.ex) (w : Wd g r H h) : Wd g r (upd H D o) h := by
  refine ⟨w.nd, w.len, fun i u q => ?_, fun a ha => ?_⟩
  · obtain ⟨a, h1, m⟩ := w.ok i u q
    have ne : a ≠ D := fun e => (w.exs D hD).2 (e ▸ List.mem_of_getElem? h1)
    refine ⟨a, h1, ?_⟩
    cases u with
    | lst us => obtain ⟨vs, m, d⟩ := m; exact ⟨vs, (upd_ne ne).trans m, DVs.wrx hD _ _ d⟩
    | dct us => obtain ⟨vs, m, l, d⟩ := m; exact ⟨vs, (upd_ne ne).trans m, l, fun k u q => let ⟨v, h1, h2⟩ := d k u q; ⟨v, h1, DV.wrx hD _ _ h2⟩⟩
    | ins us => obtain ⟨dx, vs, m, d⟩ := m; exact ⟨dx, vs, (upd_ne ne).trans m, DVs.wrx hD _ _ d⟩
  · obtain ⟨⟨o', q⟩, n⟩ := w.exs a ha
    refine ⟨?_, n⟩
    by_cases e : a = D
    · subst e; exact ⟨o, upd_same⟩
    · exact ⟨o', by rw [upd_ne e]; exact q⟩
theorem LOk.wipe {ls : Loc} {σ : L2.St} (l : LOk g r H ls σ) : ∀ vs, LOk g r H (wipeU ls vs) (L2.wipe σ vs)
  | [] => l
  | v :: vs => by
    have l' := LOk.wipe l vs
    refine ⟨by simp [wipeU, L2.wipe, l'.len], fun i u e => ?_⟩
    unfold wipeU at e
    unfold L2.wipe
    by_cases hi : v = i
    · subst hi
      by_cases hv : v < (wipeU ls vs).length
      · rw [List.getElem?_set_self hv] at e; cases e
      · rw [List.getElem?_eq_none (by simpa using hv)] at e; cases e
    · rw [List.getElem?_set_ne hi] at e ⊢
      exact l'.at_ i u e
theorem wipe_in {σ : L2.St} {i : Nat} : ∀ {vs : List Nat}, i ∈ vs → i < σ.length → (L2.wipe σ vs)[i]? = some none
  | v :: vs, hm, hi => by
    unfold L2.wipe
    by_cases e : v = i
    · subst e; rw [List.getElem?_set_self (by rw [wipe_length]; exact hi)]
    · rw [List.getElem?_set_ne e]
      exact wipe_in ((List.mem_cons.mp hm).resolve_left fun z => e z.symm) hi
/-- written within the block's own slots: forgotten, the same -/
theorem wipe_back {σ σ' : L2.St} {vs ix : List Nat} (hs : ∀ j ∈ ix, j ∈ vs) (hl : σ'.length = (L2.wipe σ vs).length) (hj : ∀ j, j ∉ ix → σ'[j]? = (L2.wipe σ vs)[j]?) : L2.wipe σ' vs = L2.wipe σ vs := by
  rw [wipe_length] at hl
  refine List.ext_getElem? fun j => ?_
  by_cases hv : j ∈ vs
  · by_cases hlt : j < σ.length
    · rw [wipe_in hv hlt, wipe_in hv (by rw [hl]; exact hlt)]
    · rw [List.getElem?_eq_none (by rw [wipe_length, hl]; exact Nat.le_of_not_lt hlt), List.getElem?_eq_none (by rw [wipe_length]; exact Nat.le_of_not_lt hlt)]
  · rw [wipe_out hv, hj j fun z => hv (hs j z)]
end

/-! ### readings whatever places are left out -/
def tMx (g : Gd) (E : WE') (m : ME) : TE := fun σ H Q => ∃ ex, tM (g.w ex) E m σ H Q
def tMTx (g : Gd) (E : WE') (m : MT) : TT := fun σ H Q => ∃ ex, tMT (g.w ex) E m σ H Q
theorem pe_x {X : Cx} {g : Gd} {E : WE'} {e : Expr} {m : ME} (h : ∀ ex, PE X e (tM (g.w ex) E m)) : PE X e (tMx g E m) := ⟨fun pins s σ H Q I ⟨ex, q⟩ => (h ex).run pins s σ H Q I q⟩
theorem ptx_nil {X : Cx} {g : Gd} {E : WE'} : PTs X [] (tMTx g E cYes) := ⟨fun pins s σ H Q I ⟨ex, q⟩ => by
  obtain ⟨r, hh, ls, w, l, p⟩ := q
  exact pts_nil.run pins s σ H Q I (p r H true Ext.refl w rfl)⟩
theorem ptx_one {X : Cx} {g : Gd} {E : WE'} {c : Expr} {m : MT} (h : ∀ ex, PT X c (tMT (g.w ex) E m)) : PTs X [c] (tMTx g E m) := ⟨fun pins s σ H Q I ⟨ex, q⟩ => (pts_one (h ex)).run pins s σ H Q I q⟩

theorem tLc_of {g : Gd} {Ed : XK} {N : Nat} {mi : MI} {gg : TG} {T : Tg} {ix vs : List Nat} {ct : MT} {me : ME} (gu : ∀ ex, GU (g.w ex) gg T ix) (hix : ∀ j ∈ ix, j ∈ vs) :
    ∀ σ H Q, tM g (fun _ => Ed) (eLc N mi T vs ct me) σ H Q → tLc (tI g (fun _ => Ed) mi) gg (tMTx g (fun _ => Ed) ct) (tMx g (fun _ => Ed) me) vs σ H Q := fun σ H Q hq => by
  obtain ⟨r, hh, ls, w, l, p⟩ := hq
  refine ⟨r, hh, ls, w, l, ?_⟩
  unfold eLc at p
  cases q : mi ls hh with
  | bad => rw [q] at p; exact p
  | cut k => rw [q] at p; exact p
  | ok it h1 =>
    rw [q] at p
    simp only [Out.bind_ok] at p
    refine fun r' H' J e w' ok D hD => ?_
    have p' := Po.ext p e
    have l' := l.ext e
    have hDex : D ∉ g.ex := w'.freshX hD
    refine ⟨fun i m Hc => ∃ r2 h2 acc vacc, ExtG g r' H' (g.w (D :: g.ex)) r2 Hc ∧ Wd (g.w (D :: g.ex)) r2 Hc h2 ∧ Hc D = some (.lst vacc) ∧ DVs (g.w (D :: g.ex)) r2 Hc acc vacc ∧
      Po g Ed (DV g) r' H' Q ((lcL it T ct me (wipeU ls vs) m i acc h2).bind fun us h2 => .ok (.seq .lst us) h2),
      ⟨N, r', h1, [], [], ExtG.opens hD, w'.opens hD, upd_same, DVs.nil, p'⟩, ?_⟩
    rintro i m Hc ⟨r2, h2, acc, vacc, xg, w2, hDc, dacc, p2⟩
    have inD : D ∈ (g.w (D :: g.ex)).ex := List.mem_cons_self
    have sub : ∀ a ∈ g.ex, a ∈ (g.w (D :: g.ex)).ex := fun a ha => List.mem_cons_of_mem _ ha
    cases m with
    | zero => exact p2.elim
    | succ n =>
      unfold lcL at p2
      obtain ⟨ok1, ok2⟩ := ok (g.w (D :: g.ex)) r2 Hc h2 i xg w2
      split at p2
      · exact p2.elim
      · rename_i hn
        refine .inl ⟨ok1 hn, p2 r2 Hc _ xg.ext (Wd.less (g := g.w (D :: g.ex)) (ex := g.ex) sub w2) ?_⟩
        simp only [DV]
        exact ⟨D, vacc, rfl, ⟨hDc, (w2.exs D inD).2, hDex⟩, DVs.extG (ExtG.less (g := g.w (D :: g.ex)) sub) _ _ dacc⟩
      · rename_i u hu
        obtain ⟨go, yl⟩ := ok2 u hu
        split at p2
        · exact p2.elim
        · rename_i ls3 hT
          refine .inr ⟨go, fun Hn => ∃ r2 h2 acc vacc, ExtG g r' H' (g.w (D :: g.ex)) r2 Hn ∧ Wd (g.w (D :: g.ex)) r2 Hn h2 ∧ Hn D = some (.lst vacc) ∧ DVs (g.w (D :: g.ex)) r2 Hn acc vacc ∧
            Po g Ed (DV g) r' H' Q ((lcL it T ct me (wipeU ls vs) n (i + 1) acc h2).bind fun us h2 => .ok (.seq .lst us) h2), fun Hn q3 => ⟨n, Nat.lt_succ_self n, q3⟩, fun x H3 hy => ?_⟩
          obtain ⟨e3, w3, d3⟩ := yl x H3 hy
          have xg3 : ExtG g r' H' (g.w (D :: g.ex)) r2 H3 := xg.trans (ExtG.of e3)
          have l3 : LOk (g.w (D :: g.ex)) r2 H3 (wipeU ls vs) (L2.wipe σ vs) := (l'.wipe vs).extG xg3
          refine gu _ r2 H3 h2 u x (wipeU ls vs) (L2.wipe σ vs) ls3 _ w3 d3 l3 hT fun σ4 l4 hl hj => ⟨wipe_back hix hl hj, D :: g.ex, r2, h2, ls3, w3, l4, ?_⟩
          have hD3 : H3 D = some (.lst vacc) := e3.keep D _ (w2.exs D inD).2 hDc
          have da3 := DVs.ext e3 _ _ dacc
          cases q4 : ct ls3 h2 with
          | bad => rw [q4] at p2; exact p2
          | cut k =>
            rw [q4] at p2
            exact fun r5 H5 e5 w5 => p2 r5 H5 (xg3.ext.trans e5) (Wd.less (g := g.w (D :: g.ex)) (ex := g.ex) sub w5)
          | ok b k =>
            rw [q4] at p2
            simp only [Out.bind_ok] at p2
            intro r5 H5 b' e5 w5 hb
            have hb : b = b' := hb
            subst hb
            have xg5 := xg3.trans (ExtG.of e5)
            have hD5 : H5 D = some (.lst vacc) := e5.keep D _ (w3.exs D inD).2 hD3
            have da5 := DVs.ext e5 _ _ da3
            cases b with
            | false =>
              simp only [Bool.false_eq_true, if_false] at p2 ⊢
              exact ⟨r5, k, acc, vacc, xg5, w5, hD5, da5, p2⟩
            | true =>
              simp only [if_true] at p2 ⊢
              refine ⟨D :: g.ex, r5, k, ls3, w5, l4.ext e5, ?_⟩
              cases q6 : me ls3 k with
              | bad => rw [q6] at p2; exact p2
              | cut k6 =>
                rw [q6] at p2
                exact fun r7 H7 e7 w7 => p2 r7 H7 (xg5.ext.trans e7) (Wd.less (g := g.w (D :: g.ex)) (ex := g.ex) sub w7)
              | ok y k6 =>
                rw [q6] at p2
                simp only [Out.bind_ok] at p2
                intro r7 H7 yv e7 w7 dy
                split at p2
                · rename_i hlen
                  have hD7 : H7 D = some (.lst vacc) := e7.keep D _ (w5.exs D inD).2 hD5
                  have da7 := DVs.ext e7 _ _ da5
                  refine ⟨vacc, hD7, small1000 (by rw [da7.length]; omega), r7, k6, acc ++ [y], vacc ++ [yv], ?_, w7.wrx inD, upd_same, DVs.app (DVs.wrx inD _ _ da7) (DVs.one (DV.wrx inD _ _ dy)), p2⟩
                  have xg7 := xg5.trans (ExtG.of e7)
                  refine ⟨⟨xg7.ext.pre, fun a o ha q => ?_, fun a o q => ?_⟩, xg7.K, xg7.CL, xg7.CC, xg7.ex⟩
                  · rw [upd_ne (ne_of_none q hD)]; exact xg7.ext.keep a o ha q
                  · obtain ⟨o', z⟩ := xg7.ext.dom a o q
                    exact ⟨o', by rw [upd_ne (ne_of_none q hD)]; exact z⟩
                · exact p2.elim

section
variable {X : Cx} {g : Gd} {Ed : XK}
/-- what a block's derivations are given -/
abbrev BPE (X : Cx) (g : Gd) (Ed : XK) (scope : Scope) (e : Expr) (m : ME) : Prop :=
  ∀ (ex : List Addr) (s : Shared) (H : Hp) (C : Addr) (cl : List (Str × Addr)) (fp : List Addr) xe, Cxt (g.w ex) (blkE X s H scope (compEnvC scope cl C X.env) fp xe) (fun _ => Ed) → PE (blkE X s H scope (compEnvC scope cl C X.env) fp xe) e (tM (g.w ex) (fun _ => Ed) m)
abbrev BPT (X : Cx) (g : Gd) (Ed : XK) (scope : Scope) (e : Expr) (m : MT) : Prop :=
  ∀ (ex : List Addr) (s : Shared) (H : Hp) (C : Addr) (cl : List (Str × Addr)) (fp : List Addr) xe, Cxt (g.w ex) (blkE X s H scope (compEnvC scope cl C X.env) fp xe) (fun _ => Ed) → PT (blkE X s H scope (compEnvC scope cl C X.env) fp xe) e (tMT (g.w ex) (fun _ => Ed) m)
/-- the tests of a clause -/
inductive BTs (X : Cx) (g : Gd) (Ed : XK) (scope : Scope) : List Expr → MT → Prop where
  | nil : BTs X g Ed scope [] cYes
  | one {c : Expr} {m : MT} (h : BPT X g Ed scope c m) : BTs X g Ed scope [c] m
theorem Cxt.blk (C : Cxt g X (fun _ => Ed)) {ex : List Addr} {s : Shared} {H : Hp} {scope : Scope} {cenv : Env} {fp : List Addr} {xe : Value → Shared → Prop} (p : ∀ σ, PassesAt (L2.CX X.prog X.w) (blkE X s H scope cenv fp xe) σ Ed) :
    Cxt (g.w ex) (blkE X s H scope cenv fp xe) (fun _ => Ed) := ⟨C.K, C.calm, C.room, C.nd, p⟩
theorem BTs.run {scope : Scope} {ifs : List Expr} {ct : MT} (h : BTs X g Ed scope ifs ct) (Cc : Cxt g X (fun _ => Ed)) (s : Shared) (H : Hp) (C : Addr) (cl : List (Str × Addr)) (fp : List Addr) xe
    (p : ∀ σ, PassesAt (L2.CX X.prog X.w) (blkE X s H scope (compEnvC scope cl C X.env) fp xe) σ Ed) : PTs (blkE X s H scope (compEnvC scope cl C X.env) fp xe) ifs (tMTx g (fun _ => Ed) ct) := by
  cases h with
  | nil => exact ptx_nil
  | one h => exact ptx_one fun ex => h ex s H C cl fp xe (Cc.blk p)
/-- as a value -/
theorem pm_lc {N : Nat} {elt tg iter : Expr} {ifs : List Expr} {scope : Scope} {own : List (Str × Nat)} {pos : Pos} {mi : MI} {gg : TG} {T : Tg} {ix : List Nat} {ct : MT} {me : ME} (C : Cxt g X (fun _ => Ed)) (hst : X.stack = X.env :: X.outer) (hfL : X.env.frame = some X.env.locals) (tk : Takes X fun cls d _ H => Ed cls d H)
    (hi : PI X tg iter (tI g (fun _ => Ed) mi)) (ok : BlkOk X.N X.env.scope scope own) (hg : ∀ (s : Shared) (H : Hp) (C : Addr) (cl : List (Str × Addr)) (fp : List Addr) xe, PG (blkE X s H scope (compEnvC scope cl C X.env) fp xe) tg gg) (gu : ∀ ex, GU (g.w ex) gg T ix) (hix : ∀ j ∈ ix, j ∈ own.map (·.2))
    (ht : BTs X g Ed scope ifs ct) (he : BPE X g Ed scope elt me) (hs : ∀ x, foldedSetIterable iter X.env x = pure x := by intro _; rfl) :
    PE X (.ListComp elt [⟨tg, iter, ifs, 0⟩] scope pos) (tM g (fun _ => Ed) (eLc N mi T (own.map (·.2)) ct me)) := by
  refine ⟨fun pins s σ H Q I h => ?_⟩
  rw [eval_ListComp]
  refine lcE_core C.calm C.nd hst hfL tk I hi ok hg (fun s H Ca cl fp xe p => ht.run C s H Ca cl fp xe p) (fun s H Ca cl fp xe p => pe_x fun ex => he ex s H Ca cl fp xe (C.blk p)) hs (tLc_of gu hix σ H Q h) fun D ce s' m H' I' q hn f => ⟨m, hn, fun h'' sb => ?_⟩
  obtain ⟨f0, f1, f2, f3, f4, f5⟩ := f
  exact ⟨.ref D, H', I'.turned (t' := s'.toks) (fun b o hb e => (sb.2 b hb).trans e) f0 f1 f3 f4 f5, rfl, q⟩
/-- name = [..] on one line, the name a local -/
theorem sm_setLc {N i : Nat} {y : Str} {py : Pos} {elt tg iter : Expr} {ifs : List Expr} {scope : Scope} {own : List (Str × Nat)} {pos spos : Pos} {mi : MI} {gg : TG} {T : Tg} {ix : List Nat} {ct : MT} {me : ME} (C : Cxt g X (fun _ => Ed)) (hst : X.stack = X.env :: X.outer) (hfL : X.env.frame = some X.env.locals) (tk : Takes X fun cls d _ H => Ed cls d H)
    (hy : X.N[i]? = some y) (hyl : X.env.scope.names.lookup y = some .local) (hsw : swapsWith (.ListComp elt [⟨tg, iter, ifs, 0⟩] scope pos) (some (.Name y py)) spos.line X.env = pure true)
    (hi : PI X tg iter (tI g (fun _ => Ed) mi)) (ok : BlkOk X.N X.env.scope scope own) (hg : ∀ (s : Shared) (H : Hp) (C : Addr) (cl : List (Str × Addr)) (fp : List Addr) xe, PG (blkE X s H scope (compEnvC scope cl C X.env) fp xe) tg gg) (gu : ∀ ex, GU (g.w ex) gg T ix) (hix : ∀ j ∈ ix, j ∈ own.map (·.2))
    (ht : BTs X g Ed scope ifs ct) (he : BPE X g Ed scope elt me) (hs : ∀ x, foldedSetIterable iter X.env x = pure x := by intro _; rfl) :
    PS X (.Assign [.Name y py] (.ListComp elt [⟨tg, iter, ifs, 0⟩] scope pos) spos) (tMS g (fun _ => Ed) (sSet i (eLc N mi T (own.map (·.2)) ct me))) := by
  refine sm_set ?_
  refine ⟨fun pins s σ H D I h => ?_⟩
  rw [exec_Assign_Name_used _ _ _ _ hsw]
  refine wpAny_bind (wpAny_standAt (wpAny_bind ?_))
  show wpAny _ X.A (do let _ ← comprehension (.ListComp elt [⟨tg, iter, ifs, 0⟩] scope pos) scope X.env (firstIterPos [⟨tg, iter, ifs, 0⟩] pos) (newList []) false (eval iter X.env) (some (assign (.Name y py) X.env))) _ _ s
  have h := tLc_of gu hix σ H (fun x H1 => gName i x σ H1 D.nx) h
  refine wpAny_bind (thn (lcE_core (Qf := fun _ s' => SP X pins D .next s') C.calm C.nd hst hfL tk I hi ok hg (fun s H Ca cl fp xe p => ht.run C s H Ca cl fp xe p) (fun s H Ca cl fp xe p => pe_x fun ex => he ex s H Ca cl fp xe (C.blk p)) hs h fun L ce s' m H' I' q hn f => ?_) fun _ s' hq => wpAny_pure (wpAny_pure hq))
  show wpAny _ _ (assign (.Name y py) X.env (.ref L)) _ _ _
  refine wpAny_assign_Name (store_ok2 (v := V.ref L) I' C.nd hy (.inl hyl) rfl (fun s2 I2 ⟨a, sb, ha⟩ => ?_) (.inr hyl))
  obtain ⟨f0, f1, f2, f3, f4, f5⟩ := f
  have haC : ce.locals ≠ a := by
    rcases ha with z | z
    · rw [z]; exact f1
    · exact fun e => f4 y a z e.symm
  refine ⟨m, hn.sameBut sb haC, fun h3 sb3 => ?_⟩
  exact ⟨_, H', I2.turned (t' := s2.toks) (fun b o hb e => (sb3.2 b hb).trans e) f0 f1 f3 f4 f5, q⟩
end
end Wk
set_option maxRecDepth 100000
set_option maxHeartbeats 4000000
/-! Fw10: a slice with a step; a display of a dict, asked at once. -/
namespace Wk
open PySem PySem.Spec PyProof.Rows L2

/-! ### a slice with a step -/
def pickL {α : Type} (xs : List α) (lo hi st : Option Int) : List α := (sliceRange (sliceBounds lo hi st xs.length).1 (sliceBounds lo hi st xs.length).2.1 (sliceBounds lo hi st xs.length).2.2).filterMap (xs[·]?)
theorem Vals.places {xs : List V} {us : List Value} (r : Vals xs us) : ∀ js : List Nat, Vals (js.filterMap (xs[·]?)) (js.filterMap (us[·]?))
  | [] => .nil
  | j :: js => by
    have ih := Vals.places r js
    cases e : xs[j]? with
    | none =>
      have e2 := Vals.none_of r e
      rw [List.filterMap_cons_none e, List.filterMap_cons_none e2]
      exact ih
    | some x =>
      obtain ⟨u, e2, ru⟩ := Vals.get r e
      rw [List.filterMap_cons_some e, List.filterMap_cons_some e2]
      exact .cons ru ih
section
variable {g : Gd} {X : Cx} {E : WE'} {e : Expr} {lo hi st : Option Expr} {pos p2 : Pos} {m : ME} {ml mh mt : MOp}
theorem DVs.places {r : List Addr} {H : Hp} {us : List U} {vs : List V} (d : DVs g r H us vs) : ∀ js : List Nat, DVs g r H (js.filterMap (us[·]?)) (js.filterMap (vs[·]?))
  | [] => DVs.nil
  | j :: js => by
    have ih := DVs.places d js
    cases e : us[j]? with
    | none =>
      have e2 : vs[j]? = none := List.getElem?_eq_none (by rw [d.length]; exact List.getElem?_eq_none_iff.mp e)
      rw [List.filterMap_cons_none e, List.filterMap_cons_none e2]
      exact ih
    | some x =>
      obtain ⟨u, e2, ru⟩ := d.get e
      rw [List.filterMap_cons_some e, List.filterMap_cons_some e2]
      exact DVs.cons ru ih
def sSl3 : U → Option Int → Option Int → Option Int → AH → Out U := fun u lo hi st h => match asL h u with
  | some us => if st = some 0 then .bad else .ok (.seq .lst (pickL us lo hi st)) h
  | none => .bad
def eSl3 (m : ME) (lo hi st : MOp) : ME := fun ls h => (m ls h).bind fun u h1 => (lo ls h1).bind fun l h2 => (hi ls h2).bind fun t h3 => (st ls h3).bind fun k h4 => sSl3 u l t k h4
theorem pm_sl3 (C : Cxt g X E) (he : PE X e (tM g E m)) (hl : PO X lo (tMO g E ml)) (hu : PO X hi (tMO g E mh)) {se : Expr} (hst : PO X (some se) (tMO g E mt)) : PE X (.Subscript e (.Slice lo hi (some se) p2) pos) (tM g E (eSl3 m ml mh mt)) := by
  refine ⟨fun pins s σ H Q I hq => ?_⟩
  obtain ⟨r, hh, ls, w, l, p⟩ := hq
  refine Subscript_ (thn (he.run pins s σ H _ I (tM_bind (Q := fun v H1 => ∃ r1 h1 u, Wd g r1 H1 h1 ∧ LOk g r1 H1 ls σ ∧ DV g r1 H1 u v ∧ Po g (E σ) (DV g) r1 H1 Q ((ml ls h1).bind fun l h2 => (mh ls h2).bind fun t h3 => (mt ls h3).bind fun k h4 => sSl3 u l t k h4)) w l p
    fun v H1 r1 h1 u e1 w1 l1 d1 p1 => ⟨r1, h1, u, w1, l1, d1, p1⟩)) fun v s1 ⟨x, H1, I1, rx, r1, h1, u, w1, l1, d1, p1⟩ => ?_)
  refine wpAny_Slice (thn (hl.run pins s1 σ H1 _ I1 (tMO_bind (Q := fun o H2 => ∃ r2 h2, Ext r1 H1 r2 H2 ∧ Wd g r2 H2 h2 ∧ LOk g r2 H2 ls σ ∧ Po g (E σ) (DV g) r2 H2 Q ((mh ls h2).bind fun t h3 => (mt ls h3).bind fun k h4 => sSl3 u o t k h4)) w1 l1 p1
    fun b H2 r2 h2 e2 w2 l2 p2 => ⟨r2, h2, e2, w2, l2, p2⟩)) fun vl s2 ⟨o, H2, I2, pl, r2, h2, e2, w2, l2, p2⟩ =>
    thn (hu.run pins s2 σ H2 _ I2 (tMO_bind (Q := fun t H3 => ∃ r3 h3, Ext r2 H2 r3 H3 ∧ Wd g r3 H3 h3 ∧ LOk g r3 H3 ls σ ∧ Po g (E σ) (DV g) r3 H3 Q ((mt ls h3).bind fun k h4 => sSl3 u o t k h4)) w2 l2 p2
      fun b H3 r3 h3 e3 w3 l3 p3 => ⟨r3, h3, e3, w3, l3, p3⟩)) fun vu s3 ⟨t, H3, I3, pu, r3, h3, e3, w3, l3, p3⟩ =>
      thn (hst.run pins s3 σ H3 _ I3 (tMO_bind (Q := fun k H4 => ∃ r4 h4, Ext r3 H3 r4 H4 ∧ Wd g r4 H4 h4 ∧ Po g (E σ) (DV g) r4 H4 Q (sSl3 u o t k h4)) w3 l3 p3
        fun b H4 r4 h4 e4 w4 l4 p4 => ⟨r4, h4, e4, w4, p4⟩)) fun vk s4 ⟨k, H4, I4, pk, r4, h4, e4, w4, p4⟩ => ?_)
  have I5 : Inv X pins σ H4 { s4 with heap := s4.heap.push { cls := .type "slice", data := .fields #[vl, vu, vk] } } := I4.kept (t' := s4.toks) fun b ob q => Heap.get?_push_of_some _ q
  have d4 := DV.ext (e2.trans (e3.trans e4)) _ _ d1
  unfold sSl3 at p4
  split at p4
  · rename_i us hus
    split at p4
    · exact p4.elim
    · rename_i h0
      obtain ⟨a, xs, rfl, sq, f⟩ := asL_dv w4 hus d4
      rw [← C.K] at sq
      cases rx
      obtain ⟨its, rv, ht, hz⟩ := I5.list sq
      have hlen := rv.length
      show wpAny (model X.prog X.w) X.A (subscriptTail e (.Slice lo hi (some se) _) (.ref a) (.ref s4.heap.objs.size)) (EP X pins σ Q) X.xe { s4 with heap := s4.heap.push { cls := .type "slice", data := .fields #[vl, vu, vk] } }
      refine tail_any ht.isList.typeIs slot_list_getitem.lookup ?_ (by with_unfolding_all rfl)
      refine wpAny_getItem_list_slice ht.isList (Heap.IsSliceOf.new ..) pl pu pk h0 ?_ (by rw [List.size_toArray] <;> omega)
      have ep : (slicePick its.toArray o t k) = ((sliceRange (sliceBounds o t k xs.length).1 (sliceBounds o t k xs.length).2.1 (sliceBounds o t k xs.length).2.2).filterMap (its[·]?)).toArray := by
        simp [slicePick, hlen]
      have rp := Vals.places rv (sliceRange (sliceBounds o t k xs.length).1 (sliceBounds o t k xs.length).2.1 (sliceBounds o t k xs.length).2.2)
      have zl : ((sliceRange (sliceBounds o t k xs.length).1 (sliceBounds o t k xs.length).2.1 (sliceBounds o t k xs.length).2.2).filterMap (xs[·]?)).length ≤ sizeLine := by
        have h1 := slicePick_size_le its.toArray o t k
        rw [ep, List.size_toArray, ← rp.length] at h1
        simp only [List.size_toArray] at h1
        omega
      rw [ep]
      refine ⟨.ref _, _, I5.laid (t' := s4.toks) (o := .lst _) (fun b ob q => Heap.get?_push_of_some _ q) (Nat.le_refl _) ⟨zl, _, 0, rp, Heap.get?_push_size _ rfl⟩, rfl, ?_⟩
      refine fin_lst w4 (us := pickL us o t k) ?_ p4 _ (I5.hok.fresh (Nat.le_refl _))
      unfold pickL
      rw [← f.length]
      exact f.places _
  · exact p4.elim

/-! ### a display, asked at once -/
def dispL : List (Str × ME) → Loc → AH → Out (List (Str × U))
  | [], _, h => .ok [] h
  | (k, m) :: t, ls, h => (m ls h).bind fun u h1 => (dispL t ls h1).bind fun ps h2 => .ok ((k, u) :: ps) h2
def putAll (ps : List (Str × U)) : List (Str × U) := ps.foldl (fun acc p => putD acc p.1 p.2) []
def eDispGet (kvs : List (Str × ME)) (mk : ME) : ME := fun ls h => (dispL kvs ls h).bind fun ps h1 => (mk ls h1).bind fun k h2 => match k with
  | .str x => match look (putAll ps) x with
    | some u => .ok u h2
    | none => .bad
  | _ => .bad
def VPs (g : Gd) (r : List Addr) (H : Hp) : List (Str × U) → List (V × V) → Prop
  | [], ps => ps = []
  | (k, u) :: t, ps => ∃ v qs, ps = (.str k, v) :: qs ∧ DV g r H u v ∧ VPs g r H t qs
theorem VPs.ext {r r' : List Addr} {H H' : Hp} (e : Ext r H r' H') : ∀ {us : List (Str × U)} {ps : List (V × V)}, VPs g r H us ps → VPs g r' H' us ps
  | [], ps, h => h
  | (k, u) :: t, ps, h => by
    obtain ⟨v, qs, h1, h2, h3⟩ := h
    exact ⟨v, qs, h1, DV.ext e _ _ h2, VPs.ext e h3⟩
theorem tPairs_of {γ δ : Type} {r0 : List Addr} {H0 : Hp} : ∀ {kvs : List (Str × ME)} {R2 : List Addr → Hp → γ → δ → Prop} {r : List Addr} {H : Hp} {h : AH} {ls : Loc} {σ : L2.St} {f : List (Str × U) → AH → Out γ} {Q2 : δ → Hp → Prop} {Q : List (V × V) → Hp → Prop},
    Ext r0 H0 r H → Wd g r H h → LOk g r H ls σ → Po g (E σ) R2 r0 H0 Q2 ((dispL kvs ls h).bind f) →
    (∀ ps H' r' h' us, Ext r H r' H' → Wd g r' H' h' → LOk g r' H' ls σ → VPs g r' H' us ps → us.map (·.1) = kvs.map (·.1) → Po g (E σ) R2 r0 H0 Q2 (f us h') → Q ps H') → tPairs (kvs.map fun p => (tC (.str p.1), tM g E p.2)) σ H Q
  | [], R2, r, H, h, ls, σ, f, Q2, Q, e0, w, l, p, k => k [] H r h [] Ext.refl w l rfl rfl p
  | (x, m) :: t, R2, r, H, h, ls, σ, f, Q2, Q, e0, w, l, p, k => by
    show tM g E m σ H _
    refine ⟨r, h, ls, w, l, ?_⟩
    unfold dispL at p
    cases q : m ls h with
    | bad => rw [q] at p; exact p
    | cut j => rw [q] at p; exact fun r' H' e w' => p r' H' (e0.trans e) w'
    | ok u h1 =>
      rw [q] at p
      simp only [Out.bind_ok] at p
      intro r1 H1 v e1 w1 d1
      have p' : Po g (E σ) R2 r0 H0 Q2 ((dispL t ls h1).bind fun ps h2 => f ((x, u) :: ps) h2) := by
        cases q2 : dispL t ls h1 with
        | bad => rw [q2] at p; exact p
        | cut j => rw [q2] at p; exact p
        | ok ps h2 => rw [q2] at p; exact p
      refine tPairs_of (kvs := t) (e0.trans e1) w1 (l.ext e1) p' fun ps H2 r2 h2 us e2 w2 l2 d2 hu p2 => ?_
      exact k _ H2 r2 h2 ((x, u) :: us) (e1.trans e2) w2 l2 ⟨v, ps, rfl, DV.ext e2 _ _ d1, d2⟩ (by simp [hu]) p2
/-- what we know of a dict's pairs -/
def KvOk (g : Gd) (r : List Addr) (H : Hp) (kvs : List (Str × U)) (kws : List (Key × V)) : Prop := ∀ k u, look kvs k = some u → ∃ v, valV kws (Sum.inr k : Key) = some v ∧ DV g r H u v
theorem KvOk.put {r : List Addr} {H : Hp} {kvs : List (Str × U)} {kws : List (Key × V)} {k : Str} {u : U} {v : V} (f : KvOk g r H kvs kws) (d : DV g r H u v) : KvOk g r H (putD kvs k u) (putK kws (Sum.inr k) v) := fun j x hj => by
  rw [look_put] at hj
  rw [valV_put]
  by_cases e : j = k
  · subst e
    rw [if_pos rfl] at hj ⊢
    cases hj
    exact ⟨v, rfl, d⟩
  · rw [if_neg e] at hj
    rw [if_neg (fun z => e (Sum.inr.inj z))]
    exact f j x hj
theorem KvOk.merge {r : List Addr} {H : Hp} : ∀ {us : List (Str × U)} {ps : List (V × V)} {kvs : List (Str × U)} {kws : List (Key × V)}, VPs g r H us ps → KvOk g r H kvs kws →
    ∃ rs : List (Key × V), ps = rs.map (fun kv => (kV kv.1, kv.2)) ∧ rs.length = us.length ∧ KvOk g r H (us.foldl (fun acc p => putD acc p.1 p.2) kvs) (mergeK kws rs)
  | [], ps, kvs, kws, h, f => by
    have h : ps = [] := h
    subst h
    exact ⟨[], rfl, rfl, f⟩
  | (k, u) :: t, ps, kvs, kws, h, f => by
    obtain ⟨v, qs, rfl, h2, h3⟩ := h
    obtain ⟨rs, e, hl, z⟩ := KvOk.merge h3 (f.put (k := k) h2)
    exact ⟨(Sum.inr k, v) :: rs, by rw [e]; rfl, by simp [hl], z⟩
mutual
theorem DV.keepS {r : List Addr} {H H' : Hp} (hs : ∀ a o, H a = some o → (∀ kvs, o ≠ .dK kvs) → H' a = some o) : ∀ (u : U) (v : V), DV g r H u v → DV g r H' u v
  | .non, v, h => by simpa [DV] using h
  | .bl b, v, h => by simpa [DV] using h
  | .int i, v, h => by simpa [DV] using h
  | .str x, v, h => by simpa [DV] using h
  | .seq k us, v, h => by
    simp only [DV] at h ⊢
    obtain ⟨a, vs, h1, h2, h3⟩ := h
    refine ⟨a, vs, h1, ?_, DVs.keepS hs us vs h3⟩
    cases k with
    | tup =>
      rcases h2 with ⟨h | ⟨o, h⟩, hx⟩ | h
      · exact .inl ⟨.inl (hs _ _ h fun _ z => by cases z), hx⟩
      · exact .inl ⟨.inr ⟨o, hs _ _ h fun _ z => by cases z⟩, hx⟩
      · exact .inr h
    | lst => exact ⟨hs _ _ h2.1 (fun _ z => by cases z), h2.2⟩
    | ro =>
      rcases h2 with ⟨⟨o, h⟩, hx⟩ | h
      · exact .inl ⟨⟨o, hs _ _ h fun _ z => by cases z⟩, hx⟩
      · exact .inr h
  | .obj i, v, h => by simpa [DV] using h
theorem DVs.keepS {r : List Addr} {H H' : Hp} (hs : ∀ a o, H a = some o → (∀ kvs, o ≠ .dK kvs) → H' a = some o) : ∀ (us : List U) (vs : List V), DVs g r H us vs → DVs g r H' us vs
  | [], vs, h => by simpa [DVs] using h
  | u :: us, vs, h => by
    simp only [DVs] at h ⊢
    obtain ⟨v, ws, h1, h2, h3⟩ := h
    exact ⟨v, ws, h1, DV.keepS hs u v h2, DVs.keepS hs us ws h3⟩
end
theorem Wd.keepS {r : List Addr} {H H' : Hp} {h : AH} (w : Wd g r H h) (hs : ∀ a o, H a = some o → (∀ kvs, o ≠ .dK kvs) → H' a = some o) (hr : ∀ a ∈ r, H' a = H a) (hd : ∀ a o, H a = some o → ∃ o', H' a = some o') : Wd g r H' h := by
  refine ⟨w.nd, w.len, fun i u q => ?_, fun a ha => ?_⟩
  · obtain ⟨a, h1, m⟩ := w.ok i u q
    have ea := hr a (List.mem_of_getElem? h1)
    refine ⟨a, h1, ?_⟩
    cases u with
    | lst us => obtain ⟨vs, m, d⟩ := m; exact ⟨vs, ea.trans m, DVs.keepS hs _ _ d⟩
    | dct us => obtain ⟨vs, m, l, d⟩ := m; exact ⟨vs, ea.trans m, l, fun k u q => let ⟨v, h1, h2⟩ := d k u q; ⟨v, h1, DV.keepS hs _ _ h2⟩⟩
    | ins us => obtain ⟨dx, vs, m, d⟩ := m; exact ⟨dx, vs, ea.trans m, DVs.keepS hs _ _ d⟩
  · obtain ⟨⟨o, q⟩, n⟩ := w.exs a ha
    exact ⟨hd a o q, n⟩
/-- the display's pairs, each built -/
def DPs (X : Cx) (g : Gd) (E : WE') (pos : Pos) (keys : List (Option Expr)) (values : List Expr) (kvs : List (Str × ME)) : Prop := PPs X pos keys values (kvs.map fun p => (tC (.str p.1), tM g E p.2)) ∧ keys.length = kvs.length
theorem dps_nil {pos : Pos} : DPs X g E pos [] [] [] := ⟨pps_nil, rfl⟩
theorem dps_cons {pos p3 : Pos} {x : Str} {j : Nat} {v : Expr} {ks : List (Option Expr)} {vs : List Expr} {kvs : List (Str × ME)} (hv : PE X v (tM g E m)) (hr : DPs X g E pos ks vs kvs) : DPs X g E pos (some (.Constant (.str x) j p3) :: ks) (v :: vs) ((x, m) :: kvs) :=
  ⟨pps_cons pe_str hv hr.1, by simp [hr.2]⟩
theorem pm_dispget (C : Cxt g X E) {keys : List (Option Expr)} {values : List Expr} {kvs : List (Str × ME)} {b : Expr} {mk : ME} {dpos : Pos} (h : DPs X g E dpos keys values kvs) (hb : PE X b (tM g E mk)) (hall : keys.all (·.isSome) = true := by rfl) (hl : keys.length = values.length := by rfl) (h0 : keys ≠ [] := by simp)
    (h15 : keys.length ≤ 15 := by decide) (hs : NoSl b := by intro _ _; rfl) : PE X (.Subscript (.Dict keys values dpos) b pos) (tM g E (eDispGet kvs mk)) := by
  refine PEw (pe_dget (by have := C.room; omega) (pe_disp h.1 hall hl h0 h15) hb hs) fun σ H Q hq => ?_
  obtain ⟨r, hh, ls, w, l, p⟩ := hq
  intro pD hp
  have e0 : Ext r H r (upd H pD (.dK [])) := Ext.new hp
  have hpr := w.fresh hp
  refine tPairs_of e0 (w.new hp) (l.ext e0) p fun ps H2 r2 h2 us e2 w2 l2 vp hus p2 => ?_
  have hp2 : H2 pD = some (.dK []) := e2.keep pD _ hpr upd_same
  have hpr2 : pD ∉ r2 := e2.notin hpr upd_same
  obtain ⟨rs, rfl, hlen, kv⟩ := KvOk.merge (kvs := []) (kws := []) vp (fun k u q => by cases q)
  refine ⟨hp2, rs, rfl, by rw [hlen, ← List.length_map (f := (·.1)), hus, List.length_map, ← h.2]; exact h15, ?_⟩
  have hsk : ∀ (kw : List (Key × V)) a o, H2 a = some o → (∀ kvs, o ≠ .dK kvs) → upd H2 pD (.dK kw) a = some o := fun kw a o q n => by
    rw [upd_ne fun z => by rw [z, hp2] at q; cases q; exact n _ rfl]; exact q
  have e3 : Ext r H r2 (upd H2 pD (.dK (mergeK [] rs))) := by
    have e := e0.trans e2
    refine ⟨e.pre, fun a o ha q => ?_, fun a o q => ?_⟩
    · rw [upd_ne (ne_of_none q hp)]; exact e.keep a o ha q
    · obtain ⟨o', z⟩ := e.dom a o q
      exact ⟨o', by rw [upd_ne (ne_of_none q hp)]; exact z⟩
  have w3 : Wd g r2 (upd H2 pD (.dK (mergeK [] rs))) h2 := w2.keepS (hsk _) (fun a ha => upd_ne fun z => hpr2 (z ▸ ha)) fun a o q => by
    by_cases z : a = pD
    · subst z; exact ⟨_, upd_same⟩
    · exact ⟨o, by rw [upd_ne z]; exact q⟩
  have l3 : LOk g r2 (upd H2 pD (.dK (mergeK [] rs))) ls σ := ⟨l2.len, fun i u q => let ⟨v, h1, h2⟩ := l2.at_ i u q; ⟨v, h1, DV.keepS (hsk _) _ _ h2⟩⟩
  refine tM_bind w3 l3 (Po.ext p2 e3) fun y H4 r4 h4 uy e4 w4 l4 d4 p4 => ?_
  split at p4
  · rename_i x
    split at p4
    · rename_i u hu
      simp only [DV] at d4
      subst d4
      obtain ⟨v, h5, h6⟩ := kv x u hu
      have hp4 : H4 pD = some (.dK (mergeK [] rs)) := e4.keep pD _ hpr2 upd_same
      exact ⟨pD, v, rfl, .inl ⟨_, Sum.inr x, .inl hp4, rfl, h5.symm⟩, fin_here w4 (DV.ext e4 _ _ (DV.keepS (hsk _) _ _ h6)) p4⟩
    · exact p4.elim
  · exact p4.elim
end
end Wk
set_option maxRecDepth 100000
set_option maxHeartbeats 4000000
/-! Fw11: what a def promises; calls, methods, the making of a Log; raise, try. -/
namespace Wk
open PySem PySem.Spec PyProof.Rows L2

/-! ### what a def leaves behind -/
mutual
/-- no object from n on is met -/
def belowU (n : Nat) : U → Bool
  | .seq _ us => belowUs n us
  | .obj i => decide (i < n)
  | _ => true
def belowUs (n : Nat) : List U → Bool
  | [] => true
  | u :: us => belowU n u && belowUs n us
end
def belowM (n : Nat) : MO → Bool
  | .lst us => belowUs n us
  | .dct kvs => belowUs n (kvs.map (·.2))
  | .ins fs => belowUs n (fs.map (·.2))
mutual
/-- new lists of a result are frozen -/
def frz (n : Nat) (h : AH) : U → Option U
  | .seq k us => (frzs n h us).map (.seq k)
  | .obj i => if i < n then some (.obj i) else match h[i]? with
    | some (.lst us) => if belowUs n us then some (.seq .lst us) else none
    | _ => none
  | u => some u
def frzs (n : Nat) (h : AH) : List U → Option (List U)
  | [] => some []
  | u :: us => match frz n h u, frzs n h us with
    | some a, some b => some (a :: b)
    | _, _ => none
end
def cutH (n : Nat) (h : AH) : Option AH := if (h.take n).all (belowM n) then some (h.take n) else none
def clean (n : Nat) : Out U → Out U
  | .ok u h => match frz n h u, cutH n h with
    | some u', some h' => .ok u' h'
    | _, _ => .bad
  | .cut h => match cutH n h with
    | some h' => .cut h'
    | none => .bad
  | .bad => .bad
section
variable {g : Gd} {r r' : List Addr} {H H' : Hp} {h h' : AH} {n : Nat}
theorem SQ.sub {k : SK} {a : Addr} {vs : List V} (hs : ∀ x ∈ r, x ∈ r') (q : SQ g r' H k a vs) : SQ g r H k a vs := by
  cases k with
  | tup =>
    rcases q with ⟨q, ha, hx⟩ | q
    · exact .inl ⟨q, fun z => ha (hs _ z), hx⟩
    · exact .inr q
  | lst => exact ⟨q.1, fun z => q.2.1 (hs _ z), q.2.2⟩
  | ro =>
    rcases q with ⟨q, ha, hx⟩ | q
    · exact .inl ⟨q, fun z => ha (hs _ z), hx⟩
    · exact .inr q
/-- the first n of our objects -/
structure Pre (r r' : List Addr) (n : Nat) : Prop where
  len : r.length = n
  app : ∃ nw, r' = r ++ nw
theorem Pre.sub (p : Pre r r' n) : ∀ x ∈ r, x ∈ r' := by
  obtain ⟨nw, rfl⟩ := p.app
  exact fun x hx => List.mem_append_left _ hx
theorem Pre.get (p : Pre r r' n) {i : Nat} (hi : i < n) : r'[i]? = r[i]? := by
  obtain ⟨nw, rfl⟩ := p.app
  rw [List.getElem?_append_left (by rw [p.len]; exact hi)]
mutual
theorem DV.below (p : Pre r r' n) : ∀ (u : U) (v : V), belowU n u = true → DV g r' H u v → DV g r H u v
  | .non, v, _, h => by simpa [DV] using h
  | .bl b, v, _, h => by simpa [DV] using h
  | .int i, v, _, h => by simpa [DV] using h
  | .str x, v, _, h => by simpa [DV] using h
  | .seq k us, v, b, h => by
    simp only [DV] at h ⊢
    obtain ⟨a, vs, h1, h2, h3⟩ := h
    exact ⟨a, vs, h1, h2.sub p.sub, DVs.below p us vs (by simpa [belowU] using b) h3⟩
  | .obj i, v, b, h => by
    simp only [DV] at h ⊢
    obtain ⟨a, h1, h2⟩ := h
    have hi : i < n := by simpa [belowU] using b
    exact ⟨a, h1, by rw [← p.get hi]; exact h2⟩
theorem DVs.below (p : Pre r r' n) : ∀ (us : List U) (vs : List V), belowUs n us = true → DVs g r' H us vs → DVs g r H us vs
  | [], vs, _, h => by simpa [DVs] using h
  | u :: us, vs, b, h => by
    simp only [DVs] at h ⊢
    simp only [belowUs, Bool.and_eq_true] at b
    obtain ⟨v, ws, h1, h2, h3⟩ := h
    exact ⟨v, ws, h1, DV.below p u v b.1 h2, DVs.below p us ws b.2 h3⟩
end
mutual
theorem DV.frz (p : Pre r r' n) (w : Wd g r' H h) : ∀ (u u' : U) (v : V), Wk.frz n h u = some u' → DV g r' H u v → DV g r H u' v
  | .non, u', v, e, d => by simp only [Wk.frz, Option.some.injEq] at e; subst e; simpa [DV] using d
  | .bl b, u', v, e, d => by simp only [Wk.frz, Option.some.injEq] at e; subst e; simpa [DV] using d
  | .int i, u', v, e, d => by simp only [Wk.frz, Option.some.injEq] at e; subst e; simpa [DV] using d
  | .str x, u', v, e, d => by simp only [Wk.frz, Option.some.injEq] at e; subst e; simpa [DV] using d
  | .seq k us, u', v, e, d => by
    simp only [Wk.frz, Option.map_eq_some_iff] at e
    obtain ⟨us', e, rfl⟩ := e
    simp only [DV] at d ⊢
    obtain ⟨a, vs, h1, h2, h3⟩ := d
    exact ⟨a, vs, h1, h2.sub p.sub, DVs.frz p w us us' vs e h3⟩
  | .obj i, u', v, e, d => by
    simp only [Wk.frz] at e
    split at e
    · rename_i hi
      cases e
      simp only [DV] at d ⊢
      obtain ⟨a, h1, h2⟩ := d
      exact ⟨a, h1, by rw [← p.get hi]; exact h2⟩
    · rename_i hi
      split at e
      · rename_i us hx
        split at e
        · rename_i hb
          cases e
          simp only [DV] at d ⊢
          obtain ⟨a, h1, h2⟩ := d
          obtain ⟨b, hb', m⟩ := w.ok i _ hx
          rw [h2] at hb'; cases hb'
          obtain ⟨vs, m, dv⟩ := m
          refine ⟨a, vs, h1, ⟨m, fun hm => ?_, fun hm => (w.exs a hm).2 (List.mem_of_getElem? h2)⟩, DVs.below p us vs hb dv⟩
          obtain ⟨j, hj, ej⟩ := List.getElem_of_mem hm
          have h3 : r'[j]? = some a := by rw [p.get (by rw [← p.len]; exact hj), List.getElem?_eq_getElem hj, ej]
          obtain ⟨l1, e1⟩ := List.getElem?_eq_some_iff.mp h2
          obtain ⟨l2, e2⟩ := List.getElem?_eq_some_iff.mp h3
          have : j = i := (List.getElem_inj w.nd).mp (e2.trans e1.symm)
          have := p.len
          omega
        · cases e
      · cases e
theorem DVs.frz (p : Pre r r' n) (w : Wd g r' H h) : ∀ (us us' : List U) (vs : List V), Wk.frzs n h us = some us' → DVs g r' H us vs → DVs g r H us' vs
  | [], us', vs, e, d => by simp only [Wk.frzs, Option.some.injEq] at e; subst e; simpa [DVs] using d
  | u :: us, us', vs, e, d => by
    simp only [Wk.frzs] at e
    split at e
    · rename_i a b e1 e2
      cases e
      simp only [DVs] at d ⊢
      obtain ⟨v, ws, h1, h2, h3⟩ := d
      exact ⟨v, ws, h1, DV.frz p w u a v e1 h2, DVs.frz p w us b ws e2 h3⟩
    · cases e
end
theorem Wd.cutH (p : Pre r r' n) (w : Wd g r' H h) (e : Wk.cutH n h = some h') : Wd g r H h' := by
  unfold Wk.cutH at e
  split at e
  · rename_i ha
    cases e
    have hnd := w.nd
    have hlen := w.len
    obtain ⟨nw, happ⟩ := p.app
    refine ⟨?_, ?_, fun i o q => ?_, fun a hx => ⟨(w.exs a hx).1, fun z => (w.exs a hx).2 (p.sub _ z)⟩⟩
    · rw [happ] at hnd; exact (List.nodup_append.mp hnd).1
    · rw [happ] at hlen
      rw [List.length_append] at hlen
      rw [List.length_take, ← p.len]
      omega
    · have hi : i < n := by
        have := (List.getElem?_eq_some_iff.mp q).1
        rw [List.length_take] at this
        omega
      have hb := List.all_eq_true.mp ha o (List.mem_of_getElem? q)
      rw [List.getElem?_take_of_lt hi] at q
      obtain ⟨a, h1, m⟩ := w.ok i o q
      rw [p.get hi] at h1
      refine ⟨a, h1, ?_⟩
      cases o with
      | lst us => obtain ⟨vs, m, d⟩ := m; exact ⟨vs, m, DVs.below p _ _ hb d⟩
      | dct us =>
        obtain ⟨vs, m, l, d⟩ := m
        refine ⟨vs, m, l, fun k u q => ?_⟩
        obtain ⟨v, h1, h2⟩ := d k u q
        refine ⟨v, h1, DV.below p _ _ ?_ h2⟩
        have hm : u ∈ us.map (·.2) := by
          unfold look at q
          obtain ⟨y, hy, rfl⟩ := Option.map_eq_some_iff.mp q
          exact List.mem_map.mpr ⟨y, List.mem_of_find?_eq_some hy, rfl⟩
        have hall : ∀ (l : List U), belowUs n l = true → ∀ u ∈ l, belowU n u = true := by
          intro l
          induction l with
          | nil => intro _ u hu; cases hu
          | cons x t ih =>
            intro hl u hu
            simp only [belowUs, Bool.and_eq_true] at hl
            rcases List.mem_cons.mp hu with e | hu
            · subst e; exact hl.1
            · exact ih hl.2 u hu
        exact hall _ hb u hm
      | ins us => obtain ⟨dx, vs, m, d⟩ := m; exact ⟨dx, vs, m, DVs.below p _ _ hb d⟩
  · cases e
theorem Po.clean {E : XK} {Q : VK} {o : Out U} (hn : r.length = n) (p : Po g E (DV g) r H Q (Wk.clean n o)) : Po g E (DV g) r H Q o := by
  cases o with
  | bad => exact p
  | ok u k =>
    intro r' H' v e w d
    simp only [Wk.clean] at p
    cases e1 : Wk.frz n k u with
    | none => rw [e1] at p; exact p.elim
    | some u' =>
      cases e2 : Wk.cutH n k with
      | none => rw [e1, e2] at p; exact p.elim
      | some h' =>
        rw [e1, e2] at p
        have pr : Pre r r' n := ⟨hn, let ⟨nw, h, _⟩ := e.pre; ⟨nw, h⟩⟩
        exact p r H' v ⟨⟨[], by simp, by simp⟩, fun a o ha q => e.keep a o ha q, e.dom⟩ (w.cutH pr e2) (DV.frz pr w _ _ _ e1 d)
  | cut k =>
    intro r' H' e w
    simp only [Wk.clean] at p
    cases e2 : Wk.cutH n k with
    | none => rw [e2] at p; exact p.elim
    | some h' =>
      rw [e2] at p
      have pr : Pre r r' n := ⟨hn, let ⟨nw, h, _⟩ := e.pre; ⟨nw, h⟩⟩
      exact p r H' ⟨⟨[], by simp, by simp⟩, fun a o ha q => e.keep a o ha q, e.dom⟩ (w.cutH pr e2)
end

/-! ### promises -/
def outOf : OutS → Out U
  | .nx _ h => .ok .non h
  | .rt u h => .ok u h
  | .cut _ h => .cut h
  | _ => .bad
/-- a body at its arguments: N slots -/
def runB (N : Nat) (m : MS) : List U → AH → Out U := fun us h => outOf (m (us.map some ++ List.replicate (N - us.length) none) h)
/-- .., what is new let go -/
def runC (N : Nat) (m : MS) : List U → AH → Out U := fun us h => clean h.length (runB N m us h)
def arity (n : Nat) (F : List U → AH → Out U) : List U → AH → Out U := fun us h => if us.length = n then F us h else .bad
def spU (g : Gd) (n : Nat) (F : List U → AH → Out U) : Sp := fun vs H Q E => ∃ ex r h us, Wd (g.w ex) r H h ∧ DVs (g.w ex) r H us vs ∧ Po (g.w ex) E (DV (g.w ex)) r H Q (arity n F us h)
theorem spU_len {g : Gd} {n : Nat} {F : List U → AH → Out U} {vs : List V} {H : Hp} {Q : VK} {E : XK} (h : spU g n F vs H Q E) : vs.length = n := by
  obtain ⟨ex, r, h, us, w, d, p⟩ := h
  unfold arity at p
  split at p
  · rename_i e; rw [d.length]; exact e
  · exact p.elim
/-- a body's reading at the entry -/
theorem run_raw {g : Gd} {n N : Nat} {m : MS} {vs : List V} {Ns : List Str} {H : Hp} {Q : VK} {E : XK} (hN : Ns.length = N) (h : spU g n (runB N m) vs H Q E) :
    ∃ ex, tMS (g.w ex) (fun _ => E) m { nx := fun _ H' => Q .non H', rt := Q } (L2.start Ns vs) H := by
  obtain ⟨ex, r, h, us, w, d, p⟩ := h
  unfold arity at p
  split at p
  · rename_i hl
    have lok : LOk (g.w ex) r H (us.map some ++ List.replicate (N - us.length) none) (L2.start Ns vs) := by
      refine ⟨?_, fun i u q => ?_⟩
      · unfold L2.start
        rw [hN]
        simp [d.length]
      · by_cases hi : i < us.length
        · rw [List.getElem?_append_left (by simpa using hi), List.getElem?_map] at q
          obtain ⟨x, hx, e⟩ := Option.map_eq_some_iff.mp q
          cases e
          obtain ⟨v, h1, h2⟩ := d.get hx
          refine ⟨v, ?_, h2⟩
          unfold L2.start
          have hi' : i < (vs.map some).length := by rw [List.length_map, d.length]; exact hi
          rw [List.getElem?_append_left hi', List.getElem?_map, h1]
          rfl
        · rw [List.getElem?_append_right (by simpa using hi), List.getElem?_replicate] at q
          split at q <;> cases q
    refine ⟨ex, r, h, _, w, lok, ?_⟩
    unfold runB at p
    cases q : m (us.map some ++ List.replicate (N - us.length) none) h with
    | nx l k => rw [q] at p; exact fun r' H' σ' e w' _ => p r' H' _ e w' (by simp [DV])
    | rt u k => rw [q] at p; exact fun r' H' v e w' d' => p r' H' v e w' d'
    | cut l k => rw [q] at p; exact fun r' H' σ' e w' _ => p r' H' e w'
    | bk l k => rw [q] at p; exact p.elim
    | ct l k => rw [q] at p; exact p.elim
    | bad => rw [q] at p; exact p.elim
  · exact p.elim
theorem spU_clean {g : Gd} {n N : Nat} {m : MS} {vs : List V} {H : Hp} {Q : VK} {E : XK} (h : spU g n (runC N m) vs H Q E) : spU g n (runB N m) vs H Q E := by
  obtain ⟨ex, r, h, us, w, d, p⟩ := h
  refine ⟨ex, r, h, us, w, d, ?_⟩
  unfold arity at p ⊢
  split
  · rename_i hl
    rw [if_pos hl] at p
    exact Po.clean w.len p
  · rename_i hl
    rw [if_neg hl] at p
    exact p

/-! ### calls -/
section
variable {g : Gd} {X : Cx} {E : WE'} {e o : Expr} {es : List Expr} {pos : Pos} {m : ME} {mas : MA} {k n : Nat} {f : Addr} {fd : FuncData} {ps : List Str} {F : List U → AH → Out U}
/-- f(e, ..) -/
theorem pm_def (C : Cxt g X E) {x : Str} {p : Pos} (Fn : FnOk X.prog X.w X.K X.mg X.base (L2.CX X.prog X.w) k f fd ps (spU g n F)) (hr : Room k X.A) (hg : Gl X x) (hm : X.mg x = some (.ref f)) (hk : PySem.W.keepIn X.K (.ref f) = true) (hb : Binds X.K fd ps [])
    (ha : PA X (e :: es) (tMA g E mas)) (hdb : (x == ("__debug__" : Str)) = false := by decide) (he : starEach (e :: es) X.env = (false, eval e X.env) :: starEach es X.env := by rfl) (hpl : (backTo pos (starEach es X.env)).any (·.1) = false := by rfl) :
    PE X (.Call (.Name x p) (e :: es) [] pos) (tM g E (eCall (arity n F) mas)) := by
  refine PEw (pe_callS Fn hr hg hm hk hb C.pass ha hdb he hpl) fun σ H Q hq => ?_
  obtain ⟨r, hh, ls, w, l, p⟩ := hq
  refine tMA_bind w l p fun vs H1 r1 h1 us e1 w1 l1 d1 p1 => ?_
  exact ⟨g.ex, r1, h1, us, w1, d1, p1⟩
/-- an instance of Log without an own field of that name -/
def isIns (h : AH) (u : U) (mn : Str) : Bool := match asI h u with
  | some fs => (fs.lookup mn).isNone
  | none => false
def eMeth (mn : Str) (F : List U → AH → Out U) (mo : ME) (mas : MA) : ME := fun ls h => (mo ls h).bind fun u h1 => if isIns h1 u mn then (mas ls h1).bind fun us h2 => F (u :: us) h2 else .bad
theorem fld_none {r : List Addr} {H : Hp} : ∀ {fs : List (Str × U)} {vs : List V} {k : Str}, fs.lookup k = none → ((fs.map (·.1)).zip vs).lookup k = none
  | [], _, _, _ => by simp
  | (a, b) :: t, [], k, _ => by simp
  | (a, b) :: t, v :: vs, k, e => by
    rw [List.lookup_cons] at e
    show List.lookup k ((a, v) :: (t.map (·.1)).zip vs) = none
    rw [List.lookup_cons]
    cases hk : k == a with
    | true => rw [hk] at e; cases e
    | false => rw [hk] at e; exact fld_none (r := r) (H := H) e
theorem pm_meth (C : Cxt g X E) {Ed : XK} (hE : E = fun _ => Ed) {mn : Str} {pl : Sem Bool} {apos : Pos} (Fn : FnOk X.prog X.w X.K X.mg X.base (L2.CX X.prog X.w) k f fd ps (spU g n F)) (hr : Room k X.A) (c : Cls g.K g.CL) (hm : Meth g.K g.CL mn f) (hb : Binds X.K fd ps [])
    (ho : PE X o (tM g E m)) (ha : PA X (e :: es) (tMA g E mas))
    (hst : starEach (e :: es) X.env = (false, eval e X.env) :: starEach es X.env := by rfl) (hpl : (backTo pos (starEach es X.env)).any (·.1) = false := by rfl)
    (ht : eval (.Call (.Attribute o mn apos) (e :: es) [] pos) X.env = (do
      let ov ← eval o X.env
      standAt apos.atName
      let (f, first) ← holding [ov] (getMethod ov mn pl)
      callWith pos f first (backTo pos (starEach (e :: es) X.env)) (backToKw pos (keywordEach [] X.env))) := by rfl) :
    PE X (.Call (.Attribute o mn apos) (e :: es) [] pos) (tM g E (eMeth mn (arity n F) m mas)) := by
  subst hE
  refine PEw (pe_meth (CX := L2.CX X.prog X.w) (C := g.CL) (dvs := []) (ds := []) (E := Ed) ho (by rw [C.K]; exact c) (by rw [C.K]; exact hm) Fn hr hb .nil (fun pins σ H s e s' I cx => C.pass σ pins H s e s' I cx) ha hst hpl ht) fun σ H Q hq => ?_
  obtain ⟨r, hh, ls, w, l, p⟩ := hq
  refine tM_bind w l p fun v H1 r1 h1 u e1 w1 l1 d1 p1 => ?_
  split at p1
  · rename_i hi
    unfold isIns at hi
    split at hi
    · rename_i fs hfs
      obtain ⟨i, a, dx, vs, rfl, rfl, _, _, q, df⟩ := asI_dv w1 hfs d1
      refine ⟨a, dx, _, rfl, q, fld_none (r := r1) (H := H1) (Option.isNone_iff_eq_none.mp hi), ?_⟩
      refine tMA_bind w1 l1 p1 fun vs2 H2 r2 h2 us e2 w2 l2 d2 p2 => ?_
      rw [List.append_nil]
      exact ⟨g.ex, r2, h2, _, w2, DVs.cons (DV.ext e2 _ _ d1) d2, p2⟩
    · cases hi
  · exact p1.elim
/-- Log(e, ..) -/
def eMake (F : List U → AH → Out U) (mas : MA) : ME := fun ls h => (mas ls h).bind fun us h1 => match F (.obj h1.length :: us) (h1 ++ [.ins []]) with
  | .ok .non h2 => .ok (.obj h1.length) h2
  | .cut h2 => .cut h2
  | _ => .bad
theorem pm_make (C : Cxt g X E) {Ed : XK} (hE : E = fun _ => Ed) {x : Str} {p : Pos} (M : Mk g.K g.CL f) (Fn : FnOk X.prog X.w X.K X.mg X.base (L2.CX X.prog X.w) k f fd ps (spU g n F)) (hr : Room (k + 1) X.A) (hg : Gl X x) (hm : X.mg x = some (.ref g.CL)) (hb : Binds X.K fd ps [])
    (ha : PA X (e :: es) (tMA g E mas)) (hdb : (x == ("__debug__" : Str)) = false := by decide) (he : starEach (e :: es) X.env = (false, eval e X.env) :: starEach es X.env := by rfl) (hpl : (backTo pos (starEach es X.env)).any (·.1) = false := by rfl) :
    PE X (.Call (.Name x p) (e :: es) [] pos) (tM g E (eMake (arity n F) mas)) := by
  subst hE
  refine PEw (pe_make (CX := L2.CX X.prog X.w) (C := g.CL) (dvs := []) (ds := []) (E := Ed) (by rw [C.K]; exact M) Fn hr hg hm hb .nil (fun pins σ H s e s' I cx => C.pass σ pins H s e s' I cx) ha hdb he hpl) fun σ H Q hq => ?_
  obtain ⟨r, hh, ls, w, l, p⟩ := hq
  refine tMA_bind w l p fun vs H1 r1 h1 us e1 w1 l1 d1 p1 => ?_
  intro a dx ha hdx hne
  have hadx : (upd H1 dx (.own a)) a = none := by rw [upd_ne hne.symm]; exact ha
  have w2 := (w1.new (o := .own a) hdx).add (o := .ins g.CL dx []) (mo := .ins []) hadx ⟨dx, [], upd_same, DVs.nil⟩
  have e2 : Ext r1 H1 (r1 ++ [a]) (upd (upd H1 dx (.own a)) a (.ins g.CL dx [])) := (Ext.new (o := .own a) hdx).trans (Ext.add hadx)
  rw [List.append_nil]
  refine ⟨g.ex, r1 ++ [a], h1 ++ [.ins []], .obj h1.length :: us, w2, DVs.cons (by simp only [DV]; exact ⟨a, rfl, by rw [← w1.len]; simp⟩) (DVs.ext e2 _ _ d1), ?_⟩
  have p2 := Po.ext p1 e2
  have hlast : (r1 ++ [a])[h1.length]? = some a := by rw [← w1.len]; simp
  cases q : arity n F (.obj h1.length :: us) (h1 ++ [.ins []]) with
  | bad => rw [q] at p2; exact p2
  | cut k2 => rw [q] at p2; exact p2
  | ok u2 k2 =>
    rw [q] at p2
    cases u2 with
    | non =>
      intro r3 H3 v3 e3 w3 d3
      simp only [DV] at d3
      exact ⟨d3, p2 r3 H3 _ e3 w3 (by simp only [DV]; exact ⟨a, rfl, e3.get hlast⟩)⟩
    | _ => exact p2.elim
/-- a field, wherever -/
theorem pm_fldK (hK : X.K = g.K) {f : Str} (he : PE X e (tM g E m)) (c : Cls g.K g.CL) (nf : NoAttr g.K g.CL f) (hb : attributeBase e f X.env (eval e X.env) = eval e X.env := by rfl) : PE X (.Attribute e f pos) (tM g E (eUn (sFl f) m)) := by
  refine PEw (pe_fld he hb) fun σ H Q hq => ?_
  obtain ⟨r, hh, ls, w, l, p⟩ := hq
  refine tM_bind w l p fun v H1 r1 h1 u e1 w1 l1 d1 p1 => ?_
  unfold sFl at p1
  split at p1
  · rename_i fs e2
    split at p1
    · rename_i x hx
      obtain ⟨i, a, dx, vs, rfl, rfl, _, _, q, f1⟩ := asI_dv w1 e2 d1
      obtain ⟨z, h3, h4⟩ := fld_dv f1 hx
      exact ⟨a, g.CL, dx, _, z, rfl, q, hK ▸ c, hK ▸ nf, h3, fin_here w1 h4 p1⟩
    · exact p1.elim
  · exact p1.elim
/-- raise Cut('..') -/
theorem sm_raiseC (C : Cxt g X E) {W : WX} (tk : Takes X fun cls d σ H => E σ cls d H) {x s : Str} {j : Nat} {p p2 pos2 : Pos} {bmB : List Value} {B newId initId : String} (Fx : ExcBaseFacts B newId initId bmB) (q : PySem.W.excIn g.K g.CC bmB newId = true) (gC : X.mg x = some (.ref g.CC)) (kC : PySem.W.keepIn g.K (.ref g.CC) = true)
    (r : Raises X (.ref g.CC)) (hg : Gl X x) (hdb : (x == ("__debug__" : Str)) = false := by decide) : PS X (.Raise (some (.Call (.Name x p) [.Constant (.str s) j p2] [] pos)) none pos2) (tMS g E sRaise) :=
  sm_raise (ps_raise C.calm tk (pmk_own Fx (by rw [C.K]; exact q) gC (by rw [C.K]; exact kC) r hg hdb))
/-- try: .. except Cut: .. else: .. -/
def sTry (mb ms mo : MS) : MS := fun ls h => match mb ls h with
  | .nx l k => mo l k
  | .cut l k => match ms l k with
    | .cut _ _ => .bad
    | o => o
  | o => o
theorem sm_try {x : Str} {c : Value} {body suite orelse : List Stmt} {b0 : Stmt} {np pos' : Pos} {mb ms mo : MS} (hs : X.stack = X.env :: X.outer) (hf : X.env.frame = some X.env.locals) (hc : Names X x c) (tk : Takes X fun cls d σ H => E σ cls d H) (ht : PySem.W.exmOne X.K (.ref g.CC) c = some true)
    (hb : ∀ (W : WX) (pn : List (Addr × Obj)) (xe : Value → Shared → Prop), Takes (X.tr pn xe) W → PassesOwn (model X.prog X.w) X.A X.env xe → PSs (X.tr pn xe) body (tMS g (fun σ cls d H => W cls d σ H) mb))
    (hsu : ∀ (a : Addr) (pn : List (Addr × Obj)), PSs (X.suite a pn) (b0 :: suite) (tMS g (fun _ _ _ _ => False) ms)) (ho : PSs X orelse (tMS g E mo)) :
    PS X (.Try body [.ExceptHandler (some (.Name x np)) none (b0 :: suite) pos'] orelse [] pos) (tMS g E (sTry mb ms mo)) :=
  PSw (ps_try_onlyE (Wout := fun cls d σ H => E σ cls d H) (tb := fun W => tMS g (fun σ cls d H => W cls d σ H) mb) (ts := fun _ _ _ => tMS g (fun _ _ _ _ => False) ms) (u := tMS g E mo) ho hs hf hc tk hb (fun a oe cls d pn _ _ => hsu a _)) fun D σ H hq => by
    obtain ⟨r, hh, ls, w, l, p⟩ := hq
    refine ⟨r, hh, ls, w, l, ?_⟩
    unfold sTry at p
    cases q : mb ls hh with
    | bad => rw [q] at p; exact p
    | bk l' k => rw [q] at p; exact p
    | ct l' k => rw [q] at p; exact p
    | rt u k => rw [q] at p; exact p
    | nx l' k => rw [q] at p; exact fun r' H' σ' e w' l'' => ⟨r', k, l', w', l'', PoS.ext p e⟩
    | cut l' k =>
      rw [q] at p
      intro r' H' σ' e w' l''
      refine ⟨true, ht, fun _ a na => ⟨r', k, l', w', l'', ?_⟩, fun z => by cases z⟩
      have p' := PoS.ext p e
      simp only at p'
      cases q2 : ms l' k with
      | nx a b => rw [q2] at p'; exact p'
      | rt a b => rw [q2] at p'; exact p'
      | bk a b => rw [q2] at p'; exact p'
      | ct a b => rw [q2] at p'; exact p'
      | cut a b => rw [q2] at p'; exact p'.elim
      | bad => rw [q2] at p'; exact p'.elim
end
end Wk
set_option maxRecDepth 100000
set_option maxHeartbeats 4000000
/-! Fw12: a def by its body; what is left. -/
namespace Wk
open PySem PySem.Spec PyProof.Rows L2

def sNeg : U → AH → Out U := fun u h => match u with
  | .int i => .ok (.int (-i)) h
  | _ => .bad
section
variable {g : Gd} {X : Cx} {E : WE'} {a : Expr} {pos : Pos} {ma : ME}
theorem pm_neg (ha : PE X a (tM g E ma)) : PE X (.UnaryOp .USub a pos) (tM g E (eUn sNeg ma)) := PEw (pe_un un_neg ha) fun σ H Q hq => by
  obtain ⟨r, hh, ls, w, l, p⟩ := hq
  refine tM_bind w l p fun v H1 r1 h1 u e1 w1 l1 d1 p1 => ?_
  cases u with
  | int i => exact ⟨i, by simpa [DV] using d1, fin_here w1 (by simp [DV]) p1⟩
  | _ => exact p1.elim
theorem tA_of {e : Expr} {es : List Expr} {st : Stmt} (h : PS X st (tMS g E (sExpr ma))) : PS X st (tMS g E (sExpr ma)) := h
end
section
variable {g : Gd} {P : Program} {w : World} {mg : Str → Option Value} {base : Heap} {x qual : Str} {params : Arguments} {body : List Stmt} {scope : Scope} {dvs : List V} {kws : List (Str × V)} {f : Addr} {fd : FuncData} {Ns ps : List Str} {n N k : Nat} {m : MS}
/-- the context of a def's body is one of ours -/
theorem cxt_of {ex : List Addr} {cdv : Value} {A : Around} {outer : List Env} {s : Shared} {H : Hp} {E : XK} (S : FnScope Ns ps scope) (hr : Room k (A.deeper (envOfC qual scope s.heap.objs.size f cdv))) :
    Cxt (g.w ex) (cxOf (L2.CX P w) P w g.K mg base Ns qual scope f cdv A outer s H E) (fun _ => E) :=
  ⟨rfl, rfl, by have := hr.un; show (A.deeper (envOfC qual scope s.heap.objs.size f cdv)).units + 200 < cLine; omega, S.nd, fun σ => passAt (W := fun cls d _ H => E cls d H) (takes_of rfl rfl rfl rfl) σ⟩
theorem def_raw (F : FunD g.K x qual params body scope dvs kws f fd) (S : FnScope Ns ps scope) (hps : ps.length = n) (hN : Ns.length = N)
    (hb : ∀ (ex : List Addr) (cdv : Value) (A : Around) (outer : List Env) (s : Shared) (H : Hp) (E : XK), Room k (A.deeper (envOfC qual scope s.heap.objs.size f cdv)) →
      Cxt (g.w ex) (cxOf (L2.CX P w) P w g.K mg base Ns qual scope f cdv A outer s H E) (fun _ => E) → PSs (cxOf (L2.CX P w) P w g.K mg base Ns qual scope f cdv A outer s H E) body (tMS (g.w ex) (fun _ => E) m)) :
    FnOk P w g.K mg base (L2.CX P w) (k + 1) f fd ps (spU g n (runB N m)) := by
  refine F.ok S (fun vs H Q E h => by rw [spU_len h, hps]) fun cdv A outer s H vs Q E hr h => ?_
  obtain ⟨ex, hq⟩ := run_raw hN h
  exact ⟨_, hb ex cdv A outer s H E hr (cxt_of S hr), hq⟩
theorem def_clean (F : FunD g.K x qual params body scope dvs kws f fd) (S : FnScope Ns ps scope) (hps : ps.length = n) (hN : Ns.length = N)
    (hb : ∀ (ex : List Addr) (cdv : Value) (A : Around) (outer : List Env) (s : Shared) (H : Hp) (E : XK), Room k (A.deeper (envOfC qual scope s.heap.objs.size f cdv)) →
      Cxt (g.w ex) (cxOf (L2.CX P w) P w g.K mg base Ns qual scope f cdv A outer s H E) (fun _ => E) → PSs (cxOf (L2.CX P w) P w g.K mg base Ns qual scope f cdv A outer s H E) body (tMS (g.w ex) (fun _ => E) m)) :
    FnOk P w g.K mg base (L2.CX P w) (k + 1) f fd ps (spU g n (runC N m)) := (def_raw F S hps hN hb).imp fun vs H Q E h => spU_clean h
/-- nothing is promised of bad -/
theorem def_bad (hps : ps.length = n) : FnOk P w g.K mg base (L2.CX P w) k f fd ps (spU g n fun _ _ => .bad) :=
  ⟨fun vs H Q E h => by rw [spU_len h, hps], fun A outer s H args us vs Q E hr he hb hv h => by
    obtain ⟨ex, r, h, us, w, d, p⟩ := h
    unfold arity at p
    split at p <;> exact p.elim⟩
end
end Wk
set_option maxRecDepth 100000
set_option maxHeartbeats 4000000

/-! Ta: the defs of the text, by name. Printed by gen.py. -/
namespace Wk
open PySem PySem.Spec PyProof.Rows L2
def topS (i : Nat) : Stmt := PySem.Challenge.pw_toll_k19_whole_bodies_walked.main.body.getD i (.Pass ⟨0, 0, 0, 0⟩)
def memS (c : Stmt) (i : Nat) : Stmt := (match c with | .ClassDef (body := b) .. => b | _ => []).getD i (.Pass ⟨0, 0, 0, 0⟩)
inductive Fn where
  | is_whole | is_row | is_tree | fits | size_of | log_init | log_step | log_begin | log_end | function_of | made_of | value_by | open_body | body_value | call_value | trace | law_cell_at | law_number | law_names | law_putting | law_head | law_take | law_expression | law_body | law_program | law_tree | law_args | law_whole | law_size | law_one | law_call_told | law_told | law_child | law_made | law_value | law_opened | law_given | law_events | law_in_order | law_call_holds | law_walked | law
def nm : Fn → Str
  | .is_whole => "is_whole"
  | .is_row => "is_row"
  | .is_tree => "is_tree"
  | .fits => "fits"
  | .size_of => "size_of"
  | .log_init => "__init__"
  | .log_step => "step"
  | .log_begin => "begin"
  | .log_end => "end"
  | .function_of => "function_of"
  | .made_of => "made_of"
  | .value_by => "value_by"
  | .open_body => "open_body"
  | .body_value => "body_value"
  | .call_value => "call_value"
  | .trace => "trace"
  | .law_cell_at => "_law_cell_at"
  | .law_number => "_law_number"
  | .law_names => "_law_names"
  | .law_putting => "_law_putting"
  | .law_head => "_law_head"
  | .law_take => "_law_take"
  | .law_expression => "_law_expression"
  | .law_body => "_law_body"
  | .law_program => "_law_program"
  | .law_tree => "_law_tree"
  | .law_args => "_law_args"
  | .law_whole => "_law_whole"
  | .law_size => "_law_size"
  | .law_one => "_law_one"
  | .law_call_told => "_law_call_told"
  | .law_told => "_law_told"
  | .law_child => "_law_child"
  | .law_made => "_law_made"
  | .law_value => "_law_value"
  | .law_opened => "_law_opened"
  | .law_given => "_law_given"
  | .law_events => "_law_events"
  | .law_in_order => "_law_in_order"
  | .law_call_holds => "_law_call_holds"
  | .law_walked => "_law_walked"
  | .law => "law"
def qn : Fn → Str
  | .is_whole => "is_whole"
  | .is_row => "is_row"
  | .is_tree => "is_tree"
  | .fits => "fits"
  | .size_of => "size_of"
  | .log_init => "Log.__init__"
  | .log_step => "Log.step"
  | .log_begin => "Log.begin"
  | .log_end => "Log.end"
  | .function_of => "function_of"
  | .made_of => "made_of"
  | .value_by => "value_by"
  | .open_body => "open_body"
  | .body_value => "body_value"
  | .call_value => "call_value"
  | .trace => "trace"
  | .law_cell_at => "_law_cell_at"
  | .law_number => "_law_number"
  | .law_names => "_law_names"
  | .law_putting => "_law_putting"
  | .law_head => "_law_head"
  | .law_take => "_law_take"
  | .law_expression => "_law_expression"
  | .law_body => "_law_body"
  | .law_program => "_law_program"
  | .law_tree => "_law_tree"
  | .law_args => "_law_args"
  | .law_whole => "_law_whole"
  | .law_size => "_law_size"
  | .law_one => "_law_one"
  | .law_call_told => "_law_call_told"
  | .law_told => "_law_told"
  | .law_child => "_law_child"
  | .law_made => "_law_made"
  | .law_value => "_law_value"
  | .law_opened => "_law_opened"
  | .law_given => "_law_given"
  | .law_events => "_law_events"
  | .law_in_order => "_law_in_order"
  | .law_call_holds => "_law_call_holds"
  | .law_walked => "_law_walked"
  | .law => "law"
def st : Fn → Stmt
  | .is_whole => topS 5
  | .is_row => topS 6
  | .is_tree => topS 7
  | .fits => topS 8
  | .size_of => topS 9
  | .log_init => memS (topS 14) 0
  | .log_step => memS (topS 14) 1
  | .log_begin => memS (topS 14) 2
  | .log_end => memS (topS 14) 3
  | .function_of => topS 15
  | .made_of => topS 16
  | .value_by => topS 17
  | .open_body => topS 18
  | .body_value => topS 19
  | .call_value => topS 20
  | .trace => topS 21
  | .law_cell_at => topS 23
  | .law_number => topS 24
  | .law_names => topS 25
  | .law_putting => topS 26
  | .law_head => topS 27
  | .law_take => topS 28
  | .law_expression => topS 29
  | .law_body => topS 30
  | .law_program => topS 31
  | .law_tree => topS 32
  | .law_args => topS 33
  | .law_whole => topS 34
  | .law_size => topS 35
  | .law_one => topS 36
  | .law_call_told => topS 37
  | .law_told => topS 38
  | .law_child => topS 39
  | .law_made => topS 40
  | .law_value => topS 41
  | .law_opened => topS 42
  | .law_given => topS 43
  | .law_events => topS 44
  | .law_in_order => topS 45
  | .law_call_holds => topS 46
  | .law_walked => topS 47
  | .law => topS 48
def prs : Fn → List Str
  | .is_whole => ["thing"]
  | .is_row => ["thing"]
  | .is_tree => ["thing"]
  | .fits => ["shape", "thing"]
  | .size_of => ["shape", "value"]
  | .log_init => ["self", "most"]
  | .log_step => ["self", "at", "kind"]
  | .log_begin => ["self", "name", "args", "up"]
  | .log_end => ["self", "at", "value"]
  | .function_of => ["program", "name"]
  | .made_of => ["word", "parts", "at", "log"]
  | .value_by => ["program", "e", "names", "ups", "log"]
  | .open_body => ["body", "names"]
  | .body_value => ["program", "body", "names", "ups", "log"]
  | .call_value => ["program", "name", "args", "ups", "log"]
  | .trace => ["program", "name", "args", "most"]
  | .law_cell_at => ["_law_script", "_law_k"]
  | .law_number => ["_law_cell"]
  | .law_names => ["_law_cell", "_law_many"]
  | .law_putting => ["_law_f", "_law_names_here"]
  | .law_head => ["_law_name", "_law_names_here", "_law_cell"]
  | .law_take => ["_law_state"]
  | .law_expression => ["_law_state", "_law_scope", "_law_deep", "_law_shape"]
  | .law_body => ["_law_state", "_law_scope", "_law_deep", "_law_shape"]
  | .law_program => ["_law_script"]
  | .law_tree => ["_law_cells"]
  | .law_args => ["_law_one_here", "_law_cells"]
  | .law_whole => ["_law_found"]
  | .law_size => ["_law_shape", "_law_thing"]
  | .law_one => ["_law_program_here", "_law_name"]
  | .law_call_told => ["_law_program_here", "_law_k", "_law_call"]
  | .law_told => ["_law_program_here", "_law_found", "_law_most"]
  | .law_child => ["_law_walk", "_law_name", "_law_args_here"]
  | .law_made => ["_law_walk", "_law_word", "_law_parts"]
  | .law_value => ["_law_walk", "_law_e", "_law_names_here"]
  | .law_opened => ["_law_body_here", "_law_names_here"]
  | .law_given => ["_law_walk", "_law_body_here", "_law_names_here"]
  | .law_events => ["_law_calls", "_law_steps"]
  | .law_in_order => ["_law_events_here", "_law_beneath", "_law_k", "_law_found"]
  | .law_call_holds => ["_law_program_here", "_law_call", "_law_children", "_law_events_here", "_law_full", "_law_deep"]
  | .law_walked => ["_law_program_here", "_law_calls", "_law_steps", "_law_most"]
  | .law => ["_law_script"]
def slo : Fn → List Str
  | .is_whole => ["thing"]
  | .is_row => ["thing", "part"]
  | .is_tree => ["thing", "left", "part"]
  | .fits => ["shape", "thing"]
  | .size_of => ["shape", "value", "many", "left", "part"]
  | .log_init => ["self", "most"]
  | .log_step => ["self", "at", "kind"]
  | .log_begin => ["self", "name", "args", "up", "at"]
  | .log_end => ["self", "at", "value", "name", "args", "up", "done", "nothing"]
  | .function_of => ["program", "name", "one"]
  | .made_of => ["word", "parts", "at", "log"]
  | .value_by => ["program", "e", "names", "ups", "log", "parts", "args", "part"]
  | .open_body => ["body", "names", "thing"]
  | .body_value => ["program", "body", "names", "ups", "log", "here", "there"]
  | .call_value => ["program", "name", "args", "ups", "log", "up", "at", "one", "names", "param", "thing", "value"]
  | .trace => ["program", "name", "args", "most", "one", "param", "thing", "log", "value"]
  | .law_cell_at => ["_law_script", "_law_k"]
  | .law_number => ["_law_cell"]
  | .law_names => ["_law_cell", "_law_many", "_law_letters", "_law_word", "_law_at", "_law_names_here", "_law_k", "_law_turned", "_law_part"]
  | .law_putting => ["_law_f", "_law_names_here", "_law_n", "_law_x", "_law_h", "_law_t", "_law_one_here", "_law_ahead", "_law_behind", "_law_body_here"]
  | .law_head => ["_law_name", "_law_names_here", "_law_cell", "_law_params", "_law_size_here", "_law_k", "_law_gives", "_law_shape", "_law_part"]
  | .law_take => ["_law_state"]
  | .law_expression => ["_law_state", "_law_scope", "_law_deep", "_law_shape", "_law_cell", "_law_way", "_law_some", "_law_heads", "_law_head_here", "_law_kinds", "_law_word", "_law_name", "_law_kind"]
  | .law_body => ["_law_state", "_law_scope", "_law_deep", "_law_shape", "_law_cell", "_law_way", "_law_names_here", "_law_some", "_law_x", "_law_word", "_law_kinds", "_law_more", "_law_body_here", "_law_other", "_law_kind", "_law_one_here", "_law_name", "_law_k"]
  | .law_program => ["_law_script", "_law_first", "_law_names_here", "_law_program_here", "_law_heads", "_law_state", "_law_head_here", "_law_turn", "_law_k", "_law_one_here"]
  | .law_tree => ["_law_cells", "_law_tree_here", "_law_cell", "_law_one_here"]
  | .law_args => ["_law_one_here", "_law_cells", "_law_args_here", "_law_k", "_law_own", "_law_part"]
  | .law_whole => ["_law_found"]
  | .law_size => ["_law_shape", "_law_thing", "_law_many", "_law_rest", "_law_part"]
  | .law_one => ["_law_program_here", "_law_name", "_law_one_here"]
  | .law_call_told => ["_law_program_here", "_law_k", "_law_call", "_law_one_here", "_law_part", "_law_thing"]
  | .law_told => ["_law_program_here", "_law_found", "_law_most", "_law_k", "_law_step"]
  | .law_child => ["_law_walk", "_law_name", "_law_args_here", "_law_child_here"]
  | .law_made => ["_law_walk", "_law_word", "_law_parts", "_law_value_here"]
  | .law_value => ["_law_walk", "_law_e", "_law_names_here", "_law_parts", "_law_args_here", "_law_part"]
  | .law_opened => ["_law_body_here", "_law_names_here", "_law_thing", "_law_k"]
  | .law_given => ["_law_walk", "_law_body_here", "_law_names_here", "_law_one_here", "_law_other"]
  | .law_events => ["_law_calls", "_law_steps", "_law_events_here", "_law_begun", "_law_at", "_law_kind", "_law_call"]
  | .law_in_order => ["_law_events_here", "_law_beneath", "_law_k", "_law_found", "_law_at", "_law_event"]
  | .law_call_holds => ["_law_program_here", "_law_call", "_law_children", "_law_events_here", "_law_full", "_law_deep", "_law_one_here", "_law_walk", "_law_names_here", "_law_part", "_law_thing", "_law_value_here", "_law_behind"]
  | .law_walked => ["_law_program_here", "_law_calls", "_law_steps", "_law_most", "_law_events_here", "_law_beneath", "_law_deep", "_law_k", "_law_ordered", "_law_children", "_law_call", "_law_at"]
  | .law => ["_law_script", "_law_program_here", "_law_cell", "_law_one_here", "_law_args_here", "_law_most", "_law_handed", "_law_found", "_law_done", "_law_value_here", "_law_calls", "_law_steps", "_law_kept"]
def dvl : Fn → List V
  | .trace => [.int 1000]
  | _ => []
/-- is it a def of the module -/
def isTop : Fn → Bool
  | .is_whole => true
  | .is_row => true
  | .is_tree => true
  | .fits => true
  | .size_of => true
  | .log_init => false
  | .log_step => false
  | .log_begin => false
  | .log_end => false
  | .function_of => true
  | .made_of => true
  | .value_by => true
  | .open_body => true
  | .body_value => true
  | .call_value => true
  | .trace => true
  | .law_cell_at => true
  | .law_number => true
  | .law_names => true
  | .law_putting => true
  | .law_head => true
  | .law_take => true
  | .law_expression => true
  | .law_body => true
  | .law_program => true
  | .law_tree => true
  | .law_args => true
  | .law_whole => true
  | .law_size => true
  | .law_one => true
  | .law_call_told => true
  | .law_told => true
  | .law_child => true
  | .law_made => true
  | .law_value => true
  | .law_opened => true
  | .law_given => true
  | .law_events => true
  | .law_in_order => true
  | .law_call_holds => true
  | .law_walked => true
  | .law => true
/-- what the top has written -/
def bmCut : List Value := [.type "Exception", .type "BaseException", .type "object"]
structure Txt (g : Gd) (mg : Str → Option Value) (ad : Fn → Addr) (fd : Fn → FuncData) : Prop where
  fn : ∀ n, FunD g.K (nm n) (qn n) (defArgs (st n)) (defBody (st n)) (defScope (st n)) (dvl n) [] (ad n) (fd n)
  bd : ∀ n, Binds g.K (fd n) (prs n) []
  mf : ∀ n, isTop n = true → mg (nm n) = some (.ref (ad n))
  cls : Cls g.K g.CL
  na_most : NoAttr g.K g.CL "most"
  na_begun : NoAttr g.K g.CL "begun"
  na_made : NoAttr g.K g.CL "made"
  me_step : Meth g.K g.CL "step" (ad .log_step)
  me_begin : Meth g.K g.CL "begin" (ad .log_begin)
  me_end : Meth g.K g.CL "end" (ad .log_end)
  mkL : Mk g.K g.CL (ad .log_init)
  g_Log : mg "Log" = some (.ref g.CL)
  g_Cut : mg "Cut" = some (.ref g.CC)
  xi : PySem.W.excIn g.K g.CC bmCut "Exception.__new__" = true
  kC : PySem.W.keepIn g.K (.ref g.CC) = true
  exC : PySem.W.subIn g.K (.ref g.CC) (.type "BaseException") = some true
  tyC : PySem.W.typeIn g.K (.ref g.CC) = some (.type "type")
  ex : PySem.W.exmOne g.K (.ref g.CC) (.ref g.CC) = some true
  g_MOST_CALLS : ∃ t, mg "MOST_CALLS" = some (.int 20 t)
  g_MOST_SIZE : ∃ t, mg "MOST_SIZE" = some (.int 100 t)
  b_bool : mg "bool" = none
  b_int : mg "int" = none
  b_isinstance : mg "isinstance" = none
  b_len : mg "len" = none
  b_list : mg "list" = none
  b_min : mg "min" = none
  b_range : mg "range" = none
  b_str : mg "str" = none
  b_sum : mg "sum" = none
  b_tuple : mg "tuple" = none
  b_zip : mg "zip" = none
end Wk
set_option maxRecDepth 100000
set_option maxHeartbeats 4000000

/-! Tb: what each def does, by combinators. Printed by gen.py. -/
namespace Wk
open PySem PySem.Spec PyProof.Rows L2
def NN : Nat := 1000
abbrev SemT : Type := Fn → List U → AH → Out U
def m_log_init : MS := sSeq (sStoF ("most" : Str) (eVar 0) (eVar 1)) (sSeq (sStoF ("begun" : Str) (eVar 0) (eNew (aNil))) (sStoF ("made" : Str) (eVar 0) (eNew (aNil))))
def m_is_whole (S : SemT) : MS := sRet (eAnd (eCall (bIsi .int) (aCons (eVar 0) aNil)) (eNot (eCall (bIsi .bool) (aCons (eVar 0) aNil))))
def m_is_row (S : SemT) : MS := sSeq (sIf (tNotM (tst (eCall (bIsi .tuple) (aCons (eVar 0) aNil)))) (sRet (eC (.bl false))) (sNil)) (sSeq (sFor NN (iSeq (eVar 0)) (tgN 1) (sIf (tNotM (tst (eCall (arity 1 (S .is_whole)) (aCons (eVar 1) (aNil))))) (sRet (eC (.bl false))) (sNil))) (sRet (eC (.bl true))))
def m_is_tree (S : SemT) : MS := sSeq (sSet 1 (eNew (aCons (eVar 0) (aNil)))) (sSeq (sWhile NN (tst (eOp sGt (eCall bLen (aCons (eVar 1) (aNil))) (eC (.int 0)))) (sSeq (sSet 2 (eMt0 mtPop (eVar 1))) (sSeq (sIf (tst (eOp sIsN (eVar 2) (eC .non))) (sCont) (sNil)) (sSeq (sIf (tOrM (tNotM (tst (eCall (bIsi .tuple) (aCons (eVar 2) aNil)))) (tOrM (tst (eOp sNe (eCall bLen (aCons (eVar 2) (aNil))) (eC (.int 3)))) (tNotM (tst (eCall (arity 1 (S .is_whole)) (aCons (eOp sIx (eVar 2) (eC (.int 1))) (aNil))))))) (sRet (eC (.bl false))) (sNil)) (sSeq (sExpr (eMt mtAppend (eVar 1) (aCons (eOp sIx (eVar 2) (eC (.int 0))) (aNil)))) (sExpr (eMt mtAppend (eVar 1) (aCons (eOp sIx (eVar 2) (eC (.int 2))) (aNil))))))))) (sRet (eC (.bl true))))
def m_fits (S : SemT) : MS := sSeq (sIf (tst (eOp sEq (eVar 0) (eC (.str ("num" : Str))))) (sRet (eCall (arity 1 (S .is_whole)) (aCons (eVar 1) (aNil)))) (sNil)) (sSeq (sIf (tst (eOp sEq (eVar 0) (eC (.str ("list" : Str))))) (sRet (eCall (arity 1 (S .is_row)) (aCons (eVar 1) (aNil)))) (sNil)) (sRet (eCall (arity 1 (S .is_tree)) (aCons (eVar 1) (aNil)))))
def m_size_of (S : SemT) : MS := sSeq (sIf (tst (eOp sEq (eVar 0) (eC (.str ("num" : Str))))) (sRet (eC (.int 0))) (sNil)) (sSeq (sIf (tst (eOp sEq (eVar 0) (eC (.str ("list" : Str))))) (sRet (eCall bLen (aCons (eVar 1) (aNil)))) (sNil)) (sSeq (sSet 2 (eC (.int 0))) (sSeq (sSet 3 (eNew (aCons (eVar 1) (aNil)))) (sSeq (sWhile NN (tst (eOp sGt (eCall bLen (aCons (eVar 3) (aNil))) (eC (.int 0)))) (sSeq (sSet 4 (eMt0 mtPop (eVar 3))) (sIf (tst (eOp sNotN (eVar 4) (eC .non))) (sSeq (sInc 2 (eC (.int 1))) (sSeq (sExpr (eMt mtAppend (eVar 3) (aCons (eOp sIx (eVar 4) (eC (.int 0))) (aNil)))) (sExpr (eMt mtAppend (eVar 3) (aCons (eOp sIx (eVar 4) (eC (.int 2))) (aNil)))))) (sNil)))) (sRet (eVar 2))))))
def m_log_step (S : SemT) : MS := sSeq (sIf (tst (eOp sGe (eCall bLen (aCons (eUn (sFl ("made" : Str)) (eVar 0)) (aNil))) (eUn (sFl ("most" : Str)) (eVar 0)))) (sRaise) (sNil)) (sExpr (eMt mtAppend (eUn (sFl ("made" : Str)) (eVar 0)) (aCons (eTup (aCons (eVar 1) (aCons (eVar 2) (aNil)))) (aNil))))
def m_log_begin (S : SemT) : MS := sSeq (sSet 4 (eCall bLen (aCons (eUn (sFl ("begun" : Str)) (eVar 0)) (aNil)))) (sSeq (sExpr (eMeth ("step" : Str) (arity 3 (S .log_step)) (eVar 0) (aCons (eVar 4) (aCons (eC (.str ("call" : Str))) (aNil))))) (sSeq (sExpr (eMt mtAppend (eUn (sFl ("begun" : Str)) (eVar 0)) (aCons (eTup (aCons (eVar 1) (aCons (eCall bTuple (aCons (eVar 2) (aNil))) (aCons (eVar 3) (aCons (eC (.bl false)) (aCons (eC .non) (aNil))))))) (aNil)))) (sRet (eVar 4))))
def m_log_end (S : SemT) : MS := sSeq (sAsg (tgT [3, 4, 5, 6, 7]) (eOp sIx (eUn (sFl ("begun" : Str)) (eVar 0)) (eVar 1))) (sSto stL (eUn (sFl ("begun" : Str)) (eVar 0)) (eVar 1) (eTup (aCons (eVar 3) (aCons (eVar 4) (aCons (eVar 5) (aCons (eC (.bl true)) (aCons (eVar 2) (aNil))))))))
def m_function_of (S : SemT) : MS := sSeq (sFor NN (iSeq (eVar 0)) (tgN 2) (sIf (tst (eOp sEq (eOp sIx (eVar 2) (eC (.int 0))) (eVar 1))) (sRet (eVar 2)) (sNil))) (sRet (eC .non))
def m_made_of (S : SemT) : MS := sSeq (sIf (tst (eOp sEq (eVar 0) (eC (.str ("add" : Str))))) (sSeq (sExpr (eMeth ("step" : Str) (arity 3 (S .log_step)) (eVar 3) (aCons (eVar 2) (aCons (eC (.str ("sum" : Str))) (aNil))))) (sRet (eOp sAdd (eOp sIx (eVar 1) (eC (.int 0))) (eOp sIx (eVar 1) (eC (.int 1)))))) (sNil)) (sSeq (sIf (tst (eOp sEq (eVar 0) (eC (.str ("sub" : Str))))) (sSeq (sExpr (eMeth ("step" : Str) (arity 3 (S .log_step)) (eVar 3) (aCons (eVar 2) (aCons (eC (.str ("sum" : Str))) (aNil))))) (sRet (eOp sSub (eOp sIx (eVar 1) (eC (.int 0))) (eOp sIx (eVar 1) (eC (.int 1)))))) (sNil)) (sSeq (sIf (tst (eOp sEq (eVar 0) (eC (.str ("cons" : Str))))) (sSeq (sIf (tst (eOp sGe (eCall bLen (aCons (eOp sIx (eVar 1) (eC (.int 1))) (aNil))) (eC (.int 100)))) (sRaise) (sNil)) (sSeq (sExpr (eMeth ("step" : Str) (arity 3 (S .log_step)) (eVar 3) (aCons (eVar 2) (aCons (eC (.str ("make" : Str))) (aNil))))) (sRet (eOp sAdd (eTup (aCons (eOp sIx (eVar 1) (eC (.int 0))) (aNil))) (eOp sIx (eVar 1) (eC (.int 1))))))) (sNil)) (sSeq (sIf (tst (eOp sGe (eOp sAdd (eCall (arity 2 (S .size_of)) (aCons (eC (.str ("tree" : Str))) (aCons (eOp sIx (eVar 1) (eC (.int 0))) (aNil)))) (eCall (arity 2 (S .size_of)) (aCons (eC (.str ("tree" : Str))) (aCons (eOp sIx (eVar 1) (eC (.int 2))) (aNil))))) (eC (.int 100)))) (sRaise) (sNil)) (sSeq (sExpr (eMeth ("step" : Str) (arity 3 (S .log_step)) (eVar 3) (aCons (eVar 2) (aCons (eC (.str ("make" : Str))) (aNil))))) (sRet (eTup (aCons (eOp sIx (eVar 1) (eC (.int 0))) (aCons (eOp sIx (eVar 1) (eC (.int 1))) (aCons (eOp sIx (eVar 1) (eC (.int 2))) (aNil))))))))))
def m_value_by (S : SemT) : MS := sSeq (sIf (tst (eOp sEq (eOp sIx (eVar 1) (eC (.int 0))) (eC (.str ("num" : Str))))) (sRet (eOp sIx (eVar 1) (eC (.int 1)))) (sNil)) (sSeq (sIf (tst (eOp sEq (eOp sIx (eVar 1) (eC (.int 0))) (eC (.str ("var" : Str))))) (sRet (eOp sGet (eVar 2) (eOp sIx (eVar 1) (eC (.int 1))))) (sNil)) (sSeq (sIf (tst (eOp sEq (eOp sIx (eVar 1) (eC (.int 0))) (eC (.str ("nil" : Str))))) (sRet (eTup (aNil))) (sNil)) (sSeq (sIf (tst (eOp sEq (eOp sIx (eVar 1) (eC (.int 0))) (eC (.str ("leaf" : Str))))) (sRet (eC .non)) (sNil)) (sSeq (sIf (tst (eOp sEq (eOp sIx (eVar 1) (eC (.int 0))) (eC (.str ("call" : Str))))) (sSeq (sSet 6 (eLc NN (iSeq (eOp sIx (eVar 1) (eC (.int 2)))) (tgN 7) [7] (cYes) (eCall (arity 5 (S .value_by)) (aCons (eVar 0) (aCons (eVar 7) (aCons (eVar 2) (aCons (eVar 3) (aCons (eVar 4) (aNil))))))))) (sRet (eCall (arity 5 (S .call_value)) (aCons (eVar 0) (aCons (eOp sIx (eVar 1) (eC (.int 1))) (aCons (eVar 6) (aCons (eVar 3) (aCons (eVar 4) (aNil))))))))) (sNil)) (sSeq (sSet 5 (eLc NN (iSeq (eSl (eVar 1) (oSome (eC (.int 1))) (oNone))) (tgN 7) [7] (cYes) (eCall (arity 5 (S .value_by)) (aCons (eVar 0) (aCons (eVar 7) (aCons (eVar 2) (aCons (eVar 3) (aCons (eVar 4) (aNil))))))))) (sRet (eCall (arity 4 (S .made_of)) (aCons (eOp sIx (eVar 1) (eC (.int 0))) (aCons (eVar 5) (aCons (eOp sIx (eVar 3) (eUn sNeg (eC (.int 1)))) (aCons (eVar 4) (aNil))))))))))))
def m_open_body (S : SemT) : MS := sSeq (sSet 2 (eOp sGet (eVar 1) (eOp sIx (eVar 0) (eC (.int 1))))) (sSeq (sIf (tst (eOp sEq (eOp sIx (eVar 0) (eC (.int 0))) (eC (.str ("list" : Str))))) (sSeq (sIf (tst (eOp sEq (eCall bLen (aCons (eVar 2) (aNil))) (eC (.int 0)))) (sRet (eOp sIx (eVar 0) (eC (.int 2)))) (sNil)) (sSeq (sSto stD (eVar 1) (eOp sIx (eVar 0) (eC (.int 3))) (eOp sIx (eVar 2) (eC (.int 0)))) (sSeq (sSto stD (eVar 1) (eOp sIx (eVar 0) (eC (.int 4))) (eSl (eVar 2) (oSome (eC (.int 1))) (oNone))) (sRet (eOp sIx (eVar 0) (eC (.int 5))))))) (sNil)) (sSeq (sIf (tst (eOp sIsN (eVar 2) (eC .non))) (sRet (eOp sIx (eVar 0) (eC (.int 2)))) (sNil)) (sSeq (sSto stD (eVar 1) (eOp sIx (eVar 0) (eC (.int 3))) (eOp sIx (eVar 2) (eC (.int 0)))) (sSeq (sSto stD (eVar 1) (eOp sIx (eVar 0) (eC (.int 4))) (eOp sIx (eVar 2) (eC (.int 1)))) (sSeq (sSto stD (eVar 1) (eOp sIx (eVar 0) (eC (.int 5))) (eOp sIx (eVar 2) (eC (.int 2)))) (sRet (eOp sIx (eVar 0) (eC (.int 6)))))))))
def m_body_value (S : SemT) : MS := sSeq (sWhile NN (tst (eOp sNe (eOp sIx (eVar 1) (eC (.int 0))) (eC (.str ("give" : Str))))) (sIf (tst (eOp sEq (eOp sIx (eVar 1) (eC (.int 0))) (eC (.str ("let" : Str))))) (sSeq (sSto stD (eVar 2) (eOp sIx (eVar 1) (eC (.int 1))) (eCall (arity 5 (S .value_by)) (aCons (eVar 0) (aCons (eOp sIx (eVar 1) (eC (.int 2))) (aCons (eVar 2) (aCons (eVar 3) (aCons (eVar 4) (aNil)))))))) (sSeq (sExpr (eMeth ("step" : Str) (arity 3 (S .log_step)) (eVar 4) (aCons (eOp sIx (eVar 3) (eUn sNeg (eC (.int 1)))) (aCons (eC (.str ("let" : Str))) (aNil))))) (sSet 1 (eOp sIx (eVar 1) (eC (.int 3)))))) (sIf (tst (eOp sEq (eOp sIx (eVar 1) (eC (.int 0))) (eC (.str ("less" : Str))))) (sSeq (sSet 5 (eCall (arity 5 (S .value_by)) (aCons (eVar 0) (aCons (eOp sIx (eVar 1) (eC (.int 1))) (aCons (eVar 2) (aCons (eVar 3) (aCons (eVar 4) (aNil)))))))) (sSeq (sSet 6 (eCall (arity 5 (S .value_by)) (aCons (eVar 0) (aCons (eOp sIx (eVar 1) (eC (.int 2))) (aCons (eVar 2) (aCons (eVar 3) (aCons (eVar 4) (aNil)))))))) (sSeq (sExpr (eMeth ("step" : Str) (arity 3 (S .log_step)) (eVar 4) (aCons (eOp sIx (eVar 3) (eUn sNeg (eC (.int 1)))) (aCons (eC (.str ("less" : Str))) (aNil))))) (sIf (tst (eOp sLt (eVar 5) (eVar 6))) (sSet 1 (eOp sIx (eVar 1) (eC (.int 3)))) (sSet 1 (eOp sIx (eVar 1) (eC (.int 4)))))))) (sSeq (sExpr (eMeth ("step" : Str) (arity 3 (S .log_step)) (eVar 4) (aCons (eOp sIx (eVar 3) (eUn sNeg (eC (.int 1)))) (aCons (eC (.str ("open" : Str))) (aNil))))) (sSet 1 (eCall (arity 2 (S .open_body)) (aCons (eVar 1) (aCons (eVar 2) (aNil))))))))) (sRet (eCall (arity 5 (S .value_by)) (aCons (eVar 0) (aCons (eOp sIx (eVar 1) (eC (.int 1))) (aCons (eVar 2) (aCons (eVar 3) (aCons (eVar 4) (aNil))))))))
def m_call_value (S : SemT) : MS := sSeq (sIf (tst (eOp sGe (eCall bLen (aCons (eVar 3) (aNil))) (eC (.int 20)))) (sRaise) (sNil)) (sSeq (sSet 5 (eC .non)) (sSeq (sIf (tst (eOp sGt (eCall bLen (aCons (eVar 3) (aNil))) (eC (.int 0)))) (sSet 5 (eOp sIx (eVar 3) (eUn sNeg (eC (.int 1))))) (sNil)) (sSeq (sSet 6 (eMeth ("begin" : Str) (arity 4 (S .log_begin)) (eVar 4) (aCons (eVar 1) (aCons (eVar 2) (aCons (eVar 5) (aNil)))))) (sSeq (sSet 7 (eCall (arity 2 (S .function_of)) (aCons (eVar 0) (aCons (eVar 1) (aNil))))) (sSeq (sSet 8 (eDict)) (sSeq (sFor NN (iZip2 (eOp sIx (eVar 7) (eC (.int 1))) (eVar 2)) (tgT [9, 10]) (sSto stD (eVar 8) (eOp sIx (eVar 9) (eC (.int 0))) (eVar 10))) (sSeq (sSet 11 (eCall (arity 5 (S .body_value)) (aCons (eVar 0) (aCons (eOp sIx (eVar 7) (eC (.int 3))) (aCons (eVar 8) (aCons (eOp sAdd (eVar 3) (eLst (aCons (eVar 6) (aNil)))) (aCons (eVar 4) (aNil)))))))) (sSeq (sExpr (eMeth ("end" : Str) (arity 3 (S .log_end)) (eVar 4) (aCons (eVar 6) (aCons (eVar 11) (aNil))))) (sRet (eVar 11))))))))))
def m_trace (S : SemT) : MS := sSeq (sSet 4 (eCall (arity 2 (S .function_of)) (aCons (eVar 0) (aCons (eVar 1) (aNil))))) (sSeq (sIf (tst (eOp sIsN (eVar 4) (eC .non))) (sNever) (sNil)) (sSeq (sIf (tst (eOp sNe (eCall bLen (aCons (eVar 2) (aNil))) (eCall bLen (aCons (eOp sIx (eVar 4) (eC (.int 1))) (aNil))))) (sNever) (sNil)) (sSeq (sFor NN (iZip2 (eOp sIx (eVar 4) (eC (.int 1))) (eVar 2)) (tgT [5, 6]) (sIf (tNotM (tst (eCall (arity 2 (S .fits)) (aCons (eOp sIx (eVar 5) (eC (.int 1))) (aCons (eVar 6) (aNil)))))) (sNever) (sNil))) (sSeq (sSet 7 (eMake (arity 2 (runB 2 m_log_init)) (aCons (eVar 3) (aNil)))) (sSeq (sSet 8 (eC .non)) (sTry (sSet 8 (eCall (arity 5 (S .call_value)) (aCons (eVar 0) (aCons (eVar 1) (aCons (eVar 2) (aCons (eLst (aNil)) (aCons (eVar 7) (aNil)))))))) (sRet (eTup (aCons (eC (.bl false)) (aCons (eC .non) (aCons (eUn (sFl ("begun" : Str)) (eVar 7)) (aCons (eUn (sFl ("made" : Str)) (eVar 7)) (aNil))))))) (sRet (eTup (aCons (eC (.bl true)) (aCons (eVar 8) (aCons (eUn (sFl ("begun" : Str)) (eVar 7)) (aCons (eUn (sFl ("made" : Str)) (eVar 7)) (aNil)))))))))))))
def m_law_cell_at (S : SemT) : MS := sSeq (sIf (tst (eOp sLt (eVar 1) (eCall bLen (aCons (eVar 0) (aNil))))) (sRet (eOp sIx (eVar 0) (eVar 1))) (sNil)) (sRet (eC (.int 0)))
def m_law_number (S : SemT) : MS := sRet (eOp sAdd (eOp sSub (eOp sMod (eVar 0) (eOp sSub (eOp sMul (eC (.int 2)) (eOp sPow (eC (.int 10)) (eC (.int 60)))) (eC (.int 1)))) (eOp sPow (eC (.int 10)) (eC (.int 60)))) (eC (.int 1)))
def m_law_names (S : SemT) : MS := sSeq (sSet 2 (eC (.str ("abcdfghjkmnopqrstuvwxyz" : Str)))) (sSeq (sSet 0 (eOp sMod (eVar 0) (eOp sPow (eC (.int 10)) (eC (.int 9))))) (sSeq (sSet 3 (eLc NN (iRange (eOp sAdd (eC (.int 1)) (eOp sMod (eVar 0) (eC (.int 8))))) (tgN 6) [6] (cYes) (eOp sMod (eOp sAdd (eOp sDiv (eVar 0) (eOp sAdd (eVar 6) (eC (.int 1)))) (eOp sMul (eVar 6) (eVar 6))) (eC (.int 23))))) (sSeq (sSet 4 (eOp sMod (eOp sDiv (eVar 0) (eC (.int 8))) (eCall bLen (aCons (eVar 3) (aNil))))) (sSeq (sSet 5 (eNew (aNil))) (sSeq (sFor NN (iRange (eVar 1)) (tgN 6) (sSeq (sSet 7 (eCall bListN (aCons (eVar 3) (aNil)))) (sSeq (sSto stL (eVar 7) (eVar 4) (eOp sMod (eOp sAdd (eOp sIx (eVar 3) (eVar 4)) (eVar 6)) (eC (.int 23)))) (sExpr (eMt mtAppend (eVar 5) (aCons (eJoin (eC (.str ("" : Str))) (eLc NN (iSeq (eVar 7)) (tgN 8) [8] (cYes) (eOp sIx (eVar 2) (eVar 8)))) (aNil))))))) (sRet (eVar 5)))))))
def m_law_putting (S : SemT) : MS := sSeq (sAsg (tgL [2, 3, 4, 5]) (eSl (eVar 1) (oNone) (oSome (eC (.int 4))))) (sSeq (sSet 6 (eTup (aCons (eC (.str ("give" : Str))) (aCons (eTup (aCons (eC (.str ("cons" : Str))) (aCons (eTup (aCons (eC (.str ("var" : Str))) (aCons (eVar 2) (aNil)))) (aCons (eTup (aCons (eC (.str ("nil" : Str))) (aNil))) (aNil))))) (aNil))))) (sSeq (sSet 7 (eTup (aCons (eC (.str ("give" : Str))) (aCons (eTup (aCons (eC (.str ("cons" : Str))) (aCons (eTup (aCons (eC (.str ("var" : Str))) (aCons (eVar 2) (aNil)))) (aCons (eTup (aCons (eC (.str ("var" : Str))) (aCons (eVar 3) (aNil)))) (aNil))))) (aNil))))) (sSeq (sSet 8 (eTup (aCons (eC (.str ("give" : Str))) (aCons (eTup (aCons (eC (.str ("cons" : Str))) (aCons (eTup (aCons (eC (.str ("var" : Str))) (aCons (eVar 4) (aNil)))) (aCons (eTup (aCons (eC (.str ("call" : Str))) (aCons (eVar 0) (aCons (eTup (aCons (eTup (aCons (eC (.str ("var" : Str))) (aCons (eVar 2) (aNil)))) (aCons (eTup (aCons (eC (.str ("var" : Str))) (aCons (eVar 5) (aNil)))) (aNil)))) (aNil))))) (aNil))))) (aNil))))) (sSeq (sSet 9 (eTup (aCons (eC (.str ("list" : Str))) (aCons (eVar 3) (aCons (eVar 6) (aCons (eVar 4) (aCons (eVar 5) (aCons (eTup (aCons (eC (.str ("less" : Str))) (aCons (eTup (aCons (eC (.str ("var" : Str))) (aCons (eVar 2) (aNil)))) (aCons (eTup (aCons (eC (.str ("var" : Str))) (aCons (eVar 4) (aNil)))) (aCons (eVar 7) (aCons (eVar 8) (aNil))))))) (aNil))))))))) (sRet (eTup (aCons (eVar 0) (aCons (eTup (aCons (eTup (aCons (eVar 2) (aCons (eC (.str ("num" : Str))) (aNil)))) (aCons (eTup (aCons (eVar 3) (aCons (eC (.str ("list" : Str))) (aNil)))) (aNil)))) (aCons (eTup (aCons (eC (.str ("list" : Str))) (aCons (eTup (aCons (eC (.int 1)) (aCons (eC (.int 0)) (aCons (eC (.int 1)) (aNil))))) (aNil)))) (aCons (eVar 9) (aNil)))))))))))
def m_law_head (S : SemT) : MS := sSeq (sSet 2 (eOp sMod (eVar 2) (eOp sPow (eC (.int 10)) (eC (.int 9))))) (sSeq (sSet 3 (eNew (aNil))) (sSeq (sSet 4 (eNew (aCons (eOp sMod (eOp sDiv (eVar 2) (eC (.int 81))) (eC (.int 4))) (aNil)))) (sSeq (sFor NN (iRange (eOp sAdd (eC (.int 1)) (eOp sMod (eOp sDiv (eVar 2) (eC (.int 7))) (eC (.int 3))))) (tgN 5) (sSeq (sSet 7 (eOp sIx (eLst (aCons (eC (.str ("num" : Str))) (aCons (eC (.str ("list" : Str))) (aCons (eC (.str ("tree" : Str))) (aNil))))) (eOp sMod (eOp sDiv (eVar 2) (eOp sIx (eLst (aCons (eC (.int 3)) (aCons (eC (.int 9)) (aCons (eC (.int 27)) (aNil))))) (eVar 5))) (eC (.int 3))))) (sSeq (sExpr (eMt mtAppend (eVar 3) (aCons (eTup (aCons (eOp sIx (eVar 1) (eVar 5)) (aCons (eVar 7) (aNil)))) (aNil)))) (sExpr (eMt mtAppend (eVar 4) (aCons (eOp sMul (eCall bInt (aCons (eOp sNe (eVar 7) (eC (.str ("num" : Str)))) (aNil))) (eOp sMod (eOp sDiv (eVar 2) (eOp sIx (eLst (aCons (eC (.int 324)) (aCons (eC (.int 972)) (aCons (eC (.int 2916)) (aNil))))) (eVar 5))) (eC (.int 3)))) (aNil))))))) (sSeq (sSet 6 (eOp sIx (eLst (aCons (eC (.str ("num" : Str))) (aCons (eC (.str ("list" : Str))) (aCons (eC (.str ("tree" : Str))) (aNil))))) (eOp sMod (eVar 2) (eC (.int 3))))) (sSeq (sIf (tst (eOp sEq (eVar 6) (eC (.str ("num" : Str))))) (sSet 4 (eLc NN (iSeq (eVar 4)) (tgN 8) [8] (cYes) (eC (.int 0)))) (sNil)) (sRet (eTup (aCons (eVar 0) (aCons (eCall bTuple (aCons (eVar 3) (aNil))) (aCons (eTup (aCons (eVar 6) (aCons (eCall bTuple (aCons (eVar 4) (aNil))) (aNil)))) (aNil)))))))))))
def m_law_take (S : SemT) : MS := sSeq (sSto stL (eVar 0) (eC (.int 1)) (eOp sAdd (eOp sIx (eVar 0) (eC (.int 1))) (eC (.int 1)))) (sSeq (sIf (tst (eOp sGt (eOp sIx (eVar 0) (eC (.int 1))) (eCall bLen (aCons (eOp sIx (eVar 0) (eC (.int 0))) (aNil))))) (sRet (eC (.int 0))) (sNil)) (sRet (eOp sMod (eOp sIx (eOp sIx (eVar 0) (eC (.int 0))) (eOp sSub (eOp sIx (eVar 0) (eC (.int 1))) (eC (.int 1)))) (eOp sPow (eC (.int 10)) (eC (.int 60))))))
def m_law_expression (S : SemT) : MS := sSeq (sSet 4 (eCall (arity 1 (S .law_take)) (aCons (eVar 0) (aNil)))) (sSeq (sSet 5 (eOp sMod (eVar 4) (eC (.int 5)))) (sSeq (sSet 4 (eOp sDiv (eVar 4) (eC (.int 5)))) (sSeq (sSet 6 (eLc NN (iSeq (eVar 1)) (tgT [11, 12]) [11, 12] (tst (eOp sEq (eVar 12) (eVar 3))) (eVar 11))) (sSeq (sSet 7 (eLc NN (iSeq (eOp sIx (eVar 0) (eC (.int 3)))) (tgN 8) [8] (tst (eOp sEq (eOp sIx (eOp sIx (eVar 8) (eC (.int 2))) (eC (.int 0))) (eVar 3))) (eVar 8))) (sSeq (sIf (tAndM (tst (eOp sLt (eVar 2) (eC (.int 3)))) (tAndM (tst (eOp sEq (eVar 5) (eC (.int 3)))) (tst (eOp sGt (eCall bLen (aCons (eVar 7) (aNil))) (eC (.int 0)))))) (sSeq (sSet 8 (eOp sIx (eVar 7) (eOp sMod (eVar 4) (eCall bLen (aCons (eVar 7) (aNil)))))) (sRet (eTup (aCons (eC (.str ("call" : Str))) (aCons (eOp sIx (eVar 8) (eC (.int 0))) (aCons (eCall bTuple (aCons (eLc NN (iSeq (eOp sIx (eVar 8) (eC (.int 1)))) (tgT [11, 12]) [11, 12] (cYes) (eCall (arity 4 (S .law_expression)) (aCons (eVar 0) (aCons (eVar 1) (aCons (eOp sAdd (eVar 2) (eC (.int 1))) (aCons (eVar 12) (aNil))))))) (aNil))) (aNil))))))) (sNil)) (sSeq (sIf (tAndM (tst (eOp sLt (eVar 2) (eC (.int 3)))) (tst (eOp sIn (eVar 5) (eTup (aCons (eC (.int 2)) (aCons (eC (.int 4)) (aNil))))))) (sSeq (sSet 9 (eDispGet [(("num" : Str), eLst (aCons (eC (.str ("num" : Str))) (aCons (eC (.str ("num" : Str))) (aNil)))), (("list" : Str), eLst (aCons (eC (.str ("num" : Str))) (aCons (eC (.str ("list" : Str))) (aNil)))), (("tree" : Str), eLst (aCons (eC (.str ("tree" : Str))) (aCons (eC (.str ("num" : Str))) (aCons (eC (.str ("tree" : Str))) (aNil)))))] (eVar 3))) (sSeq (sSet 10 (eDispGet [(("num" : Str), eOp sIx (eLst (aCons (eC (.str ("add" : Str))) (aCons (eC (.str ("sub" : Str))) (aNil)))) (eOp sMod (eVar 4) (eC (.int 2)))), (("list" : Str), eC (.str ("cons" : Str))), (("tree" : Str), eC (.str ("node" : Str)))] (eVar 3))) (sRet (eOp sAdd (eTup (aCons (eVar 10) (aNil))) (eCall bTuple (aCons (eLc NN (iSeq (eVar 9)) (tgN 12) [12] (cYes) (eCall (arity 4 (S .law_expression)) (aCons (eVar 0) (aCons (eVar 1) (aCons (eOp sAdd (eVar 2) (eC (.int 1))) (aCons (eVar 12) (aNil))))))) (aNil))))))) (sNil)) (sSeq (sIf (tAndM (tst (eOp sNe (eVar 5) (eC (.int 1)))) (tst (eOp sGt (eCall bLen (aCons (eVar 6) (aNil))) (eC (.int 0))))) (sRet (eTup (aCons (eC (.str ("var" : Str))) (aCons (eOp sIx (eVar 6) (eOp sMod (eVar 4) (eCall bLen (aCons (eVar 6) (aNil))))) (aNil))))) (sNil)) (sSeq (sIf (tst (eOp sEq (eVar 3) (eC (.str ("num" : Str))))) (sRet (eTup (aCons (eC (.str ("num" : Str))) (aCons (eOp sMul (eOp sDiv (eVar 4) (eC (.int 2))) (eOp sSub (eC (.int 1)) (eOp sMul (eC (.int 2)) (eOp sMod (eVar 4) (eC (.int 2)))))) (aNil))))) (sNil)) (sRet (eOp sIx (eLst (aCons (eTup (aCons (eC (.str ("nil" : Str))) (aNil))) (aCons (eTup (aCons (eC (.str ("leaf" : Str))) (aNil))) (aNil)))) (eCall bInt (aCons (eOp sEq (eVar 3) (eC (.str ("tree" : Str)))) (aNil)))))))))))))
def m_law_body (S : SemT) : MS := sSeq (sSet 4 (eCall (arity 1 (S .law_take)) (aCons (eVar 0) (aNil)))) (sSeq (sSet 5 (eOp sMul (eOp sMod (eVar 4) (eC (.int 6))) (eCall bInt (aCons (eOp sLt (eVar 2) (eC (.int 4))) (aNil))))) (sSeq (sSet 4 (eOp sDiv (eVar 4) (eC (.int 6)))) (sSeq (sSet 6 (eSl (eOp sIx (eVar 0) (eC (.int 2))) (oSome (eCall bLen (aCons (eVar 1) (aNil)))) (oNone))) (sSeq (sIf (tst (eOp sEq (eVar 5) (eC (.int 2)))) (sSeq (sSet 14 (eOp sIx (eLst (aCons (eC (.str ("num" : Str))) (aCons (eC (.str ("list" : Str))) (aCons (eC (.str ("tree" : Str))) (aNil))))) (eOp sMod (eVar 4) (eC (.int 3))))) (sSeq (sSet 15 (eCall (arity 4 (S .law_expression)) (aCons (eVar 0) (aCons (eVar 1) (aCons (eC (.int 0)) (aCons (eVar 14) (aNil))))))) (sRet (eTup (aCons (eC (.str ("let" : Str))) (aCons (eOp sIx (eVar 6) (eC (.int 0))) (aCons (eVar 15) (aCons (eCall (arity 4 (S .law_body)) (aCons (eVar 0) (aCons (eOp sAdd (eVar 1) (eLst (aCons (eTup (aCons (eOp sIx (eVar 6) (eC (.int 0))) (aCons (eVar 14) (aNil)))) (aNil)))) (aCons (eOp sAdd (eVar 2) (eC (.int 1))) (aCons (eVar 3) (aNil)))))) (aNil))))))))) (sNil)) (sSeq (sIf (tst (eOp sEq (eVar 5) (eC (.int 3)))) (sSeq (sSet 15 (eCall (arity 4 (S .law_expression)) (aCons (eVar 0) (aCons (eVar 1) (aCons (eC (.int 0)) (aCons (eC (.str ("num" : Str))) (aNil))))))) (sSeq (sSet 13 (eCall (arity 4 (S .law_expression)) (aCons (eVar 0) (aCons (eVar 1) (aCons (eC (.int 0)) (aCons (eC (.str ("num" : Str))) (aNil))))))) (sSeq (sSet 12 (eCall (arity 4 (S .law_body)) (aCons (eVar 0) (aCons (eVar 1) (aCons (eOp sAdd (eVar 2) (eC (.int 1))) (aCons (eVar 3) (aNil))))))) (sRet (eTup (aCons (eC (.str ("less" : Str))) (aCons (eVar 15) (aCons (eVar 13) (aCons (eVar 12) (aCons (eCall (arity 4 (S .law_body)) (aCons (eVar 0) (aCons (eVar 1) (aCons (eOp sAdd (eVar 2) (eC (.int 1))) (aCons (eVar 3) (aNil)))))) (aNil))))))))))) (sNil)) (sSeq (sSet 7 (eLc NN (iSeq (eVar 1)) (tgT [16, 14]) [16, 14] (tst (eOp sNe (eVar 14) (eC (.str ("num" : Str))))) (eTup (aCons (eVar 16) (aCons (eVar 14) (aNil)))))) (sSeq (sIf (tOrM (tst (eOp sIn (eVar 5) (eTup (aCons (eC (.int 0)) (aCons (eC (.int 4)) (aNil)))))) (tst (eOp sEq (eCall bLen (aCons (eVar 7) (aNil))) (eC (.int 0))))) (sRet (eTup (aCons (eC (.str ("give" : Str))) (aCons (eCall (arity 4 (S .law_expression)) (aCons (eVar 0) (aCons (eVar 1) (aCons (eC (.int 0)) (aCons (eVar 3) (aNil)))))) (aNil))))) (sNil)) (sSeq (sAsg (tgT [8, 9]) (eOp sIx (eVar 7) (eOp sMod (eVar 4) (eCall bLen (aCons (eVar 7) (aNil)))))) (sSeq (sSet 10 (eDispGet [(("list" : Str), eLst (aCons (eC (.str ("num" : Str))) (aCons (eC (.str ("list" : Str))) (aNil)))), (("tree" : Str), eLst (aCons (eC (.str ("tree" : Str))) (aCons (eC (.str ("num" : Str))) (aCons (eC (.str ("tree" : Str))) (aNil)))))] (eVar 9))) (sSeq (sSet 11 (eLc NN (iRange (eCall bLen (aCons (eVar 10) (aNil)))) (tgN 17) [17] (cYes) (eTup (aCons (eOp sIx (eVar 6) (eVar 17)) (aCons (eOp sIx (eVar 10) (eVar 17)) (aNil)))))) (sSeq (sSet 12 (eCall (arity 4 (S .law_body)) (aCons (eVar 0) (aCons (eVar 1) (aCons (eOp sAdd (eVar 2) (eC (.int 1))) (aCons (eVar 3) (aNil))))))) (sSeq (sSet 13 (eCall (arity 4 (S .law_body)) (aCons (eVar 0) (aCons (eOp sAdd (eVar 1) (eVar 11)) (aCons (eOp sAdd (eVar 2) (eC (.int 1))) (aCons (eVar 3) (aNil))))))) (sRet (eOp sAdd (eOp sAdd (eTup (aCons (eVar 9) (aCons (eVar 8) (aCons (eVar 12) (aNil))))) (eCall bTuple (aCons (eLc NN (iSeq (eVar 11)) (tgT [16, 14]) [16, 14] (cYes) (eVar 16)) (aNil)))) (eTup (aCons (eVar 13) (aNil)))))))))))))))))
def m_law_program (S : SemT) : MS := sSeq (sSet 1 (eOp sMod (eCall (arity 2 (S .law_cell_at)) (aCons (eVar 0) (aCons (eC (.int 0)) (aNil)))) (eOp sPow (eC (.int 10)) (eC (.int 9))))) (sSeq (sSet 2 (eCall (arity 2 (S .law_names)) (aCons (eCall (arity 2 (S .law_cell_at)) (aCons (eVar 0) (aCons (eC (.int 1)) (aNil)))) (aCons (eC (.int 20)) (aNil))))) (sSeq (sSet 3 (eNew (aCons (eCall (arity 2 (S .law_putting)) (aCons (eOp sIx (eVar 2) (eC (.int 0))) (aCons (eSl (eVar 2) (oSome (eC (.int 1))) (oNone)) (aNil)))) (aNil)))) (sSeq (sSet 4 (eLc NN (iRange (eOp sAdd (eC (.int 1)) (eOp sMod (eVar 1) (eC (.int 3))))) (tgN 8) [8] (cYes) (eCall (arity 3 (S .law_head)) (aCons (eOp sIx (eVar 2) (eOp sAdd (eC (.int 1)) (eVar 8))) (aCons (eVar 2) (aCons (eCall (arity 2 (S .law_cell_at)) (aCons (eVar 0) (aCons (eOp sAdd (eC (.int 2)) (eVar 8)) (aNil)))) (aNil))))))) (sSeq (sSet 5 (eNew (aCons (eSl (eVar 0) (oSome (eC (.int 6))) (oSome (eC (.int 54)))) (aCons (eC (.int 0)) (aCons (eVar 2) (aCons (eOp sAdd (eLc NN (iSeq (eVar 3)) (tgN 9) [9] (cYes) (eSl (eVar 9) (oNone) (oSome (eC (.int 3))))) (eVar 4)) (aNil))))))) (sSeq (sFor NN (iSeq (eVar 4)) (tgN 6) (sExpr (eMt mtAppend (eVar 3) (aCons (eOp sAdd (eVar 6) (eTup (aCons (eCall (arity 4 (S .law_body)) (aCons (eVar 5) (aCons (eCall bList (aCons (eOp sIx (eVar 6) (eC (.int 1))) (aNil))) (aCons (eC (.int 0)) (aCons (eOp sIx (eOp sIx (eVar 6) (eC (.int 2))) (eC (.int 0))) (aNil)))))) (aNil)))) (aNil))))) (sSeq (sSet 7 (eOp sMod (eOp sDiv (eVar 1) (eC (.int 3))) (eCall bLen (aCons (eVar 3) (aNil))))) (sRet (eCall bTuple (aCons (eOp sAdd (eSl (eVar 3) (oSome (eVar 7)) (oNone)) (eSl (eVar 3) (oNone) (oSome (eVar 7)))) (aNil))))))))))
def m_law_tree (S : SemT) : MS := sSeq (sSet 1 (eC .non)) (sSeq (sFor NN (iSeq (eSl (eVar 0) (oNone) (oSome (eC (.int 20))))) (tgN 2) (sSeq (sSet 3 (eCall (arity 1 (S .law_number)) (aCons (eOp sDiv (eVar 2) (eC (.int 3))) (aNil)))) (sSet 1 (eOp sIx (eLst (aCons (eTup (aCons (eVar 1) (aCons (eVar 3) (aCons (eC .non) (aNil))))) (aCons (eTup (aCons (eC .non) (aCons (eVar 3) (aCons (eVar 1) (aNil))))) (aCons (eTup (aCons (eVar 1) (aCons (eVar 3) (aCons (eTup (aCons (eC .non) (aCons (eVar 3) (aCons (eC .non) (aNil))))) (aNil))))) (aNil))))) (eOp sMod (eVar 2) (eC (.int 3))))))) (sRet (eVar 1)))
def m_law_args (S : SemT) : MS := sSeq (sSet 2 (eNew (aNil))) (sSeq (sFor NN (iRange (eCall bLen (aCons (eOp sIx (eVar 0) (eC (.int 1))) (aNil)))) (tgN 3) (sSeq (sSet 4 (eSl (eSl3 (eVar 1) (oSome (eVar 3)) (oNone) (oSome (eCall bLen (aCons (eOp sIx (eVar 0) (eC (.int 1))) (aNil))))) (oNone) (oSome (eC (.int 40))))) (sIf (tst (eOp sEq (eOp sIx (eOp sIx (eOp sIx (eVar 0) (eC (.int 1))) (eVar 3)) (eC (.int 1))) (eC (.str ("list" : Str))))) (sExpr (eMt mtAppend (eVar 2) (aCons (eCall bTuple (aCons (eLc NN (iSeq (eVar 4)) (tgN 5) [5] (cYes) (eCall (arity 1 (S .law_number)) (aCons (eVar 5) (aNil)))) (aNil))) (aNil)))) (sIf (tst (eOp sEq (eOp sIx (eOp sIx (eOp sIx (eVar 0) (eC (.int 1))) (eVar 3)) (eC (.int 1))) (eC (.str ("tree" : Str))))) (sExpr (eMt mtAppend (eVar 2) (aCons (eCall (arity 1 (S .law_tree)) (aCons (eVar 4) (aNil))) (aNil)))) (sExpr (eMt mtAppend (eVar 2) (aCons (eCall (arity 1 (S .law_number)) (aCons (eCall bSum (aCons (eVar 4) (aNil))) (aNil))) (aNil)))))))) (sRet (eVar 2)))
def m_law_whole (S : SemT) : MS := sRet (eAnd (eCall (bIsi .int) (aCons (eVar 0) aNil)) (eNot (eCall (bIsi .bool) (aCons (eVar 0) aNil))))
def m_law_size (S : SemT) : MS := sSeq (sIf (tst (eOp sEq (eVar 0) (eC (.str ("num" : Str))))) (sRet (eOp sSub (eCall bInt (aCons (eCall (arity 1 (S .law_whole)) (aCons (eVar 1) (aNil))) (aNil))) (eC (.int 1)))) (sNil)) (sSeq (sIf (tst (eOp sEq (eVar 0) (eC (.str ("list" : Str))))) (sSeq (sIf (tOrM (tNotM (tst (eCall (bIsi .tuple) (aCons (eVar 1) aNil)))) (tst (eOp sGt (eCall bLen (aCons (eLc NN (iSeq (eVar 1)) (tgN 4) [4] (tNotM (tst (eCall (arity 1 (S .law_whole)) (aCons (eVar 4) (aNil))))) (eVar 4)) (aNil))) (eC (.int 0))))) (sRet (eUn sNeg (eC (.int 1)))) (sNil)) (sRet (eCall bLen (aCons (eVar 1) (aNil))))) (sNil)) (sSeq (sSet 2 (eC (.int 0))) (sSeq (sSet 3 (eNew (aCons (eVar 1) (aNil)))) (sSeq (sWhile NN (tst (eOp sGt (eCall bLen (aCons (eVar 3) (aNil))) (eC (.int 0)))) (sSeq (sSet 4 (eMt0 mtPop (eVar 3))) (sIf (tst (eOp sNotN (eVar 4) (eC .non))) (sSeq (sIf (tOrM (tNotM (tst (eCall (bIsi .tuple) (aCons (eVar 4) aNil)))) (tOrM (tst (eOp sNe (eCall bLen (aCons (eVar 4) (aNil))) (eC (.int 3)))) (tNotM (tst (eCall (arity 1 (S .law_whole)) (aCons (eOp sIx (eVar 4) (eC (.int 1))) (aNil))))))) (sRet (eUn sNeg (eC (.int 1)))) (sNil)) (sSeq (sSet 2 (eOp sAdd (eVar 2) (eC (.int 1)))) (sSet 3 (eOp sAddN (eVar 3) (eLst (aCons (eOp sIx (eVar 4) (eC (.int 0))) (aCons (eOp sIx (eVar 4) (eC (.int 2))) (aNil)))))))) (sNil)))) (sRet (eVar 2))))))
def m_law_one (S : SemT) : MS := sSeq (sFor NN (iSeq (eVar 0)) (tgN 2) (sIf (tst (eOp sEq (eOp sIx (eVar 2) (eC (.int 0))) (eVar 1))) (sRet (eVar 2)) (sNil))) (sRet (eC .non))
def m_law_call_told (S : SemT) : MS := sSeq (sIf (tOrM (tNotM (tst (eCall (bIsi .tuple) (aCons (eVar 2) aNil)))) (tOrM (tst (eOp sNe (eCall bLen (aCons (eVar 2) (aNil))) (eC (.int 5)))) (tNotM (tst (eCall (bIsi .bool) (aCons (eOp sIx (eVar 2) (eC (.int 3))) aNil)))))) (sRet (eC (.bl false))) (sNil)) (sSeq (sSet 3 (eCall (arity 2 (S .law_one)) (aCons (eVar 0) (aCons (eOp sIx (eVar 2) (eC (.int 0))) (aNil))))) (sSeq (sIf (tOrM (tst (eOp sIsN (eVar 3) (eC .non))) (tOrM (tNotM (tst (eCall (bIsi .tuple) (aCons (eOp sIx (eVar 2) (eC (.int 1))) aNil)))) (tst (eOp sNe (eCall bLen (aCons (eOp sIx (eVar 2) (eC (.int 1))) (aNil))) (eCall bLen (aCons (eOp sIx (eVar 3) (eC (.int 1))) (aNil))))))) (sRet (eC (.bl false))) (sNil)) (sSeq (sIf (tst (eOp sLt (eCall bMin (aCons (eLc NN (iZip2 (eOp sIx (eVar 3) (eC (.int 1))) (eOp sIx (eVar 2) (eC (.int 1)))) (tgT [4, 5]) [4, 5] (cYes) (eCall (arity 2 (S .law_size)) (aCons (eOp sIx (eVar 4) (eC (.int 1))) (aCons (eVar 5) (aNil))))) (aNil))) (eC (.int 0)))) (sRet (eC (.bl false))) (sNil)) (sSeq (sIf (tAndM (tst (eOp sGt (eVar 1) (eC (.int 0)))) (tOrM (tNotM (tst (eCall (arity 1 (S .law_whole)) (aCons (eOp sIx (eVar 2) (eC (.int 2))) (aNil))))) (tOrM (tst (eOp sLt (eOp sIx (eVar 2) (eC (.int 2))) (eC (.int 0)))) (tst (eOp sGe (eOp sIx (eVar 2) (eC (.int 2))) (eVar 1)))))) (sRet (eC (.bl false))) (sNil)) (sSeq (sIf (tNotM (tst (eOp sIx (eVar 2) (eC (.int 3))))) (sRet (eOp sIsN (eOp sIx (eVar 2) (eC (.int 4))) (eC .non))) (sNil)) (sRet (eOp sGe (eCall (arity 2 (S .law_size)) (aCons (eOp sIx (eOp sIx (eVar 3) (eC (.int 2))) (eC (.int 0))) (aCons (eOp sIx (eVar 2) (eC (.int 4))) (aNil)))) (eC (.int 0)))))))))
def m_law_told (S : SemT) : MS := sSeq (sIf (tOrM (tNotM (tst (eCall (bIsi .tuple) (aCons (eVar 1) aNil)))) (tOrM (tst (eOp sNe (eCall bLen (aCons (eVar 1) (aNil))) (eC (.int 4)))) (tNotM (tst (eCall (bIsi .bool) (aCons (eOp sIx (eVar 1) (eC (.int 0))) aNil)))))) (sRet (eC (.bl false))) (sNil)) (sSeq (sIf (tOrM (tNotM (tst (eCall (bIsi .list) (aCons (eOp sIx (eVar 1) (eC (.int 2))) aNil)))) (tOrM (tNotM (tst (eCall (bIsi .list) (aCons (eOp sIx (eVar 1) (eC (.int 3))) aNil)))) (tst (eOp sGt (eCall bLen (aCons (eOp sIx (eVar 1) (eC (.int 3))) (aNil))) (eVar 2))))) (sRet (eC (.bl false))) (sNil)) (sSeq (sFor NN (iRange (eCall bLen (aCons (eOp sIx (eVar 1) (eC (.int 2))) (aNil)))) (tgN 3) (sIf (tNotM (tst (eCall (arity 3 (S .law_call_told)) (aCons (eVar 0) (aCons (eVar 3) (aCons (eOp sIx (eOp sIx (eVar 1) (eC (.int 2))) (eVar 3)) (aNil))))))) (sRet (eC (.bl false))) (sNil))) (sSeq (sFor NN (iSeq (eOp sIx (eVar 1) (eC (.int 3)))) (tgN 4) (sSeq (sIf (tOrM (tNotM (tst (eCall (bIsi .tuple) (aCons (eVar 4) aNil)))) (tOrM (tst (eOp sNe (eCall bLen (aCons (eVar 4) (aNil))) (eC (.int 2)))) (tNotM (tst (eCall (bIsi .str) (aCons (eOp sIx (eVar 4) (eC (.int 1))) aNil)))))) (sRet (eC (.bl false))) (sNil)) (sIf (tOrM (tNotM (tst (eCall (arity 1 (S .law_whole)) (aCons (eOp sIx (eVar 4) (eC (.int 0))) (aNil))))) (tOrM (tst (eOp sLt (eOp sIx (eVar 4) (eC (.int 0))) (eC (.int 0)))) (tst (eOp sGe (eOp sIx (eVar 4) (eC (.int 0))) (eCall bLen (aCons (eOp sIx (eVar 1) (eC (.int 2))) (aNil))))))) (sRet (eC (.bl false))) (sNil)))) (sRet (eC (.bl true))))))
def m_law_child (S : SemT) : MS := sSeq (sIf (tst (eOp sIx (eVar 0) (eC (.int 3)))) (sRet (eC .non)) (sNil)) (sSeq (sExpr (eMt mtAppend (eOp sIx (eVar 0) (eC (.int 0))) (aCons (eTup (aCons (eVar 1) (aCons (eVar 2) (aNil)))) (aNil)))) (sSeq (sIf (tst (eOp sLt (eOp sIx (eVar 0) (eC (.int 2))) (eCall bLen (aCons (eOp sIx (eVar 0) (eC (.int 1))) (aNil))))) (sSeq (sSet 3 (eOp sIx (eOp sIx (eVar 0) (eC (.int 1))) (eOp sIx (eVar 0) (eC (.int 2))))) (sSeq (sSto stL (eVar 0) (eC (.int 2)) (eOp sAdd (eOp sIx (eVar 0) (eC (.int 2))) (eC (.int 1)))) (sIf (tAndM (tst (eOp sEq (eOp sIx (eVar 3) (eC (.int 0))) (eVar 1))) (tAndM (tst (eOp sEq (eOp sIx (eVar 3) (eC (.int 1))) (eVar 2))) (tst (eOp sIx (eVar 3) (eC (.int 3)))))) (sRet (eOp sIx (eVar 3) (eC (.int 4)))) (sNil)))) (sNil)) (sSeq (sSto stL (eVar 0) (eC (.int 3)) (eC (.bl true))) (sRet (eC .non)))))
def m_law_made (S : SemT) : MS := sSeq (sIf (tst (eOp sIx (eVar 0) (eC (.int 3)))) (sRet (eC .non)) (sNil)) (sSeq (sIf (tst (eOp sIn (eVar 1) (eTup (aCons (eC (.str ("add" : Str))) (aCons (eC (.str ("sub" : Str))) (aNil)))))) (sSeq (sExpr (eMt mtAppend (eOp sIx (eVar 0) (eC (.int 0))) (aCons (eC (.str ("sum" : Str))) (aNil)))) (sRet (eOp sAdd (eOp sIx (eVar 2) (eC (.int 0))) (eOp sMul (eOp sIx (eVar 2) (eC (.int 1))) (eOp sSub (eC (.int 1)) (eOp sMul (eC (.int 2)) (eCall bInt (aCons (eOp sEq (eVar 1) (eC (.str ("sub" : Str)))) (aNil))))))))) (sNil)) (sSeq (sIf (tst (eOp sEq (eVar 1) (eC (.str ("cons" : Str))))) (sSet 3 (eOp sAdd (eTup (aCons (eOp sIx (eVar 2) (eC (.int 0))) (aNil))) (eOp sIx (eVar 2) (eC (.int 1))))) (sSet 3 (eTup (aCons (eOp sIx (eVar 2) (eC (.int 0))) (aCons (eOp sIx (eVar 2) (eC (.int 1))) (aCons (eOp sIx (eVar 2) (eC (.int 2))) (aNil))))))) (sSeq (sIf (tst (eOp sGt (eCall (arity 2 (S .law_size)) (aCons (eOp sIx (eLst (aCons (eC (.str ("tree" : Str))) (aCons (eC (.str ("list" : Str))) (aNil)))) (eCall bInt (aCons (eOp sEq (eVar 1) (eC (.str ("cons" : Str)))) (aNil)))) (aCons (eVar 3) (aNil)))) (eC (.int 100)))) (sSeq (sExpr (eMt mtAppend (eOp sIx (eVar 0) (eC (.int 0))) (aCons (eC (.str ("great" : Str))) (aNil)))) (sSeq (sSto stL (eVar 0) (eC (.int 3)) (eC (.bl true))) (sRet (eC .non)))) (sNil)) (sSeq (sExpr (eMt mtAppend (eOp sIx (eVar 0) (eC (.int 0))) (aCons (eC (.str ("make" : Str))) (aNil)))) (sRet (eVar 3))))))
def m_law_value (S : SemT) : MS := sSeq (sIf (tOrM (tst (eOp sIx (eVar 0) (eC (.int 3)))) (tst (eOp sEq (eOp sIx (eVar 1) (eC (.int 0))) (eC (.str ("leaf" : Str)))))) (sRet (eC .non)) (sNil)) (sSeq (sIf (tst (eOp sEq (eOp sIx (eVar 1) (eC (.int 0))) (eC (.str ("num" : Str))))) (sRet (eOp sIx (eVar 1) (eC (.int 1)))) (sNil)) (sSeq (sIf (tst (eOp sEq (eOp sIx (eVar 1) (eC (.int 0))) (eC (.str ("var" : Str))))) (sRet (eOp sGet (eVar 2) (eOp sIx (eVar 1) (eC (.int 1))))) (sNil)) (sSeq (sIf (tst (eOp sEq (eOp sIx (eVar 1) (eC (.int 0))) (eC (.str ("nil" : Str))))) (sRet (eTup (aNil))) (sNil)) (sSeq (sIf (tst (eOp sEq (eOp sIx (eVar 1) (eC (.int 0))) (eC (.str ("call" : Str))))) (sSeq (sSet 4 (eLc NN (iSeq (eOp sIx (eVar 1) (eC (.int 2)))) (tgN 5) [5] (cYes) (eCall (arity 3 (S .law_value)) (aCons (eVar 0) (aCons (eVar 5) (aCons (eVar 2) (aNil))))))) (sRet (eCall (arity 3 (S .law_child)) (aCons (eVar 0) (aCons (eOp sIx (eVar 1) (eC (.int 1))) (aCons (eCall bTuple (aCons (eVar 4) (aNil))) (aNil))))))) (sNil)) (sSeq (sSet 3 (eLc NN (iSeq (eSl (eVar 1) (oSome (eC (.int 1))) (oNone))) (tgN 5) [5] (cYes) (eCall (arity 3 (S .law_value)) (aCons (eVar 0) (aCons (eVar 5) (aCons (eVar 2) (aNil))))))) (sRet (eCall (arity 3 (S .law_made)) (aCons (eVar 0) (aCons (eOp sIx (eVar 1) (eC (.int 0))) (aCons (eVar 3) (aNil)))))))))))
def m_law_opened (S : SemT) : MS := sSeq (sSet 2 (eOp sGet (eVar 1) (eOp sIx (eVar 0) (eC (.int 1))))) (sSeq (sIf (tAndM (tst (eOp sEq (eOp sIx (eVar 0) (eC (.int 0))) (eC (.str ("list" : Str))))) (tst (eOp sNe (eVar 2) (eTup (aNil))))) (sSet 2 (eTup (aCons (eOp sIx (eVar 2) (eC (.int 0))) (aCons (eSl (eVar 2) (oSome (eC (.int 1))) (oNone)) (aNil))))) (sIf (tOrM (tst (eOp sEq (eOp sIx (eVar 0) (eC (.int 0))) (eC (.str ("list" : Str))))) (tst (eOp sIsN (eVar 2) (eC .non)))) (sRet (eOp sIx (eVar 0) (eC (.int 2)))) (sNil))) (sSeq (sFor NN (iRange (eCall bLen (aCons (eVar 2) (aNil)))) (tgN 3) (sSto stD (eVar 1) (eOp sIx (eVar 0) (eOp sAdd (eC (.int 3)) (eVar 3))) (eOp sIx (eVar 2) (eVar 3)))) (sRet (eOp sIx (eVar 0) (eUn sNeg (eC (.int 1)))))))
def m_law_given (S : SemT) : MS := sSeq (sWhile NN (tAndM (tNotM (tst (eOp sIx (eVar 0) (eC (.int 3))))) (tst (eOp sNe (eOp sIx (eVar 1) (eC (.int 0))) (eC (.str ("give" : Str)))))) (sIf (tst (eOp sEq (eOp sIx (eVar 1) (eC (.int 0))) (eC (.str ("let" : Str))))) (sSeq (sSto stD (eVar 2) (eOp sIx (eVar 1) (eC (.int 1))) (eCall (arity 3 (S .law_value)) (aCons (eVar 0) (aCons (eOp sIx (eVar 1) (eC (.int 2))) (aCons (eVar 2) (aNil)))))) (sSeq (sSet 1 (eOp sIx (eVar 1) (eC (.int 3)))) (sIf (tNotM (tst (eOp sIx (eVar 0) (eC (.int 3))))) (sExpr (eMt mtAppend (eOp sIx (eVar 0) (eC (.int 0))) (aCons (eC (.str ("let" : Str))) (aNil)))) (sNil)))) (sIf (tst (eOp sEq (eOp sIx (eVar 1) (eC (.int 0))) (eC (.str ("less" : Str))))) (sSeq (sSet 3 (eCall (arity 3 (S .law_value)) (aCons (eVar 0) (aCons (eOp sIx (eVar 1) (eC (.int 1))) (aCons (eVar 2) (aNil)))))) (sSeq (sSet 4 (eCall (arity 3 (S .law_value)) (aCons (eVar 0) (aCons (eOp sIx (eVar 1) (eC (.int 2))) (aCons (eVar 2) (aNil)))))) (sIf (tNotM (tst (eOp sIx (eVar 0) (eC (.int 3))))) (sSeq (sExpr (eMt mtAppend (eOp sIx (eVar 0) (eC (.int 0))) (aCons (eC (.str ("less" : Str))) (aNil)))) (sSet 1 (eOp sIx (eVar 1) (eOp sAdd (eC (.int 3)) (eCall bInt (aCons (eOp sGe (eVar 3) (eVar 4)) (aNil))))))) (sNil)))) (sSeq (sExpr (eMt mtAppend (eOp sIx (eVar 0) (eC (.int 0))) (aCons (eC (.str ("open" : Str))) (aNil)))) (sSet 1 (eCall (arity 2 (S .law_opened)) (aCons (eVar 1) (aCons (eVar 2) (aNil))))))))) (sSeq (sIf (tst (eOp sIx (eVar 0) (eC (.int 3)))) (sRet (eC .non)) (sNil)) (sRet (eCall (arity 3 (S .law_value)) (aCons (eVar 0) (aCons (eOp sIx (eVar 1) (eC (.int 1))) (aCons (eVar 2) (aNil)))))))
def m_law_events (S : SemT) : MS := sSeq (sSet 2 (eLc NN (iSeq (eVar 0)) (tgN 6) [6] (cYes) (eNew (aNil)))) (sSeq (sSet 3 (eC (.int 0))) (sSeq (sFor NN (iSeq (eVar 1)) (tgT [4, 5]) (sIf (tst (eOp sNe (eVar 5) (eC (.str ("call" : Str))))) (sExpr (eMt mtAppend (eOp sIx (eVar 2) (eVar 4)) (aCons (eVar 5) (aNil)))) (sIf (tst (eOp sNe (eVar 4) (eVar 3))) (sRet (eC .non)) (sSeq (sSet 3 (eOp sAdd (eVar 3) (eC (.int 1)))) (sIf (tst (eOp sGt (eVar 4) (eC (.int 0)))) (sExpr (eMt mtAppend (eOp sIx (eVar 2) (eOp sIx (eOp sIx (eVar 0) (eVar 4)) (eC (.int 2)))) (aCons (eTup (aCons (eOp sIx (eOp sIx (eVar 0) (eVar 4)) (eC (.int 0))) (aCons (eOp sIx (eOp sIx (eVar 0) (eVar 4)) (eC (.int 1))) (aNil)))) (aNil)))) (sNil)))))) (sSeq (sIf (tst (eOp sNe (eVar 3) (eCall bLen (aCons (eVar 0) (aNil))))) (sRet (eC .non)) (sNil)) (sRet (eVar 2)))))
def m_law_in_order (S : SemT) : MS := sSeq (sExpr (eMt mtAppend (eVar 3) (aCons (eTup (aCons (eVar 2) (aCons (eC (.str ("call" : Str))) (aNil)))) (aNil)))) (sSeq (sSet 4 (eC (.int 0))) (sFor NN (iSeq (eOp sIx (eVar 0) (eVar 2))) (tgN 5) (sIf (tst (eCall (bIsi .tuple) (aCons (eVar 5) aNil))) (sSeq (sExpr (eCall (arity 4 (S .law_in_order)) (aCons (eVar 0) (aCons (eVar 1) (aCons (eOp sIx (eOp sIx (eVar 1) (eVar 2)) (eVar 4)) (aCons (eVar 3) (aNil))))))) (sSet 4 (eOp sAdd (eVar 4) (eC (.int 1))))) (sExpr (eMt mtAppend (eVar 3) (aCons (eTup (aCons (eVar 2) (aCons (eVar 5) (aNil)))) (aNil)))))))
def m_law_call_holds (S : SemT) : MS := sSeq (sSet 6 (eCall (arity 2 (S .law_one)) (aCons (eVar 0) (aCons (eOp sIx (eVar 1) (eC (.int 0))) (aNil))))) (sSeq (sSet 7 (eNew (aCons (eNew (aNil)) (aCons (eVar 2) (aCons (eC (.int 0)) (aCons (eC (.bl false)) (aNil))))))) (sSeq (sSet 8 (eDict)) (sSeq (sFor NN (iZip2 (eOp sIx (eVar 6) (eC (.int 1))) (eOp sIx (eVar 1) (eC (.int 1)))) (tgT [9, 10]) (sSto stD (eVar 8) (eOp sIx (eVar 9) (eC (.int 0))) (eVar 10))) (sSeq (sSet 11 (eCall (arity 3 (S .law_given)) (aCons (eVar 7) (aCons (eOp sIx (eVar 6) (eC (.int 3))) (aCons (eVar 8) (aNil)))))) (sSeq (sIf (tst (eOp sIx (eVar 1) (eC (.int 3)))) (sRet (eAnd (eNot (eOp sIx (eVar 7) (eC (.int 3)))) (eAnd (eOp sEq (eOp sIx (eVar 7) (eC (.int 0))) (eVar 3)) (eOp sEq (eVar 11) (eOp sIx (eVar 1) (eC (.int 4))))))) (sNil)) (sSeq (sIf (tAndM (tst (eOp sGt (eCall bLen (aCons (eVar 2) (aNil))) (eC (.int 0)))) (tNotM (tst (eOp sIx (eOp sIx (eVar 2) (eUn sNeg (eC (.int 1)))) (eC (.int 3)))))) (sRet (eAnd (eOp sIx (eVar 7) (eC (.int 3))) (eOp sEq (eOp sIx (eVar 7) (eC (.int 0))) (eVar 3)))) (sNil)) (sSeq (sIf (tOrM (tst (eOp sLe (eCall bLen (aCons (eOp sIx (eVar 7) (eC (.int 0))) (aNil))) (eCall bLen (aCons (eVar 3) (aNil))))) (tst (eOp sNe (eSl (eOp sIx (eVar 7) (eC (.int 0))) (oNone) (oSome (eCall bLen (aCons (eVar 3) (aNil))))) (eVar 3)))) (sRet (eC (.bl false))) (sNil)) (sSeq (sSet 12 (eOp sIx (eOp sIx (eVar 7) (eC (.int 0))) (eCall bLen (aCons (eVar 3) (aNil))))) (sRet (eOr (eVar 4) (eOr (eOp sEq (eVar 12) (eC (.str ("great" : Str)))) (eAnd (eCall (bIsi .tuple) (aCons (eVar 12) aNil)) (eOp sEq (eVar 5) (eC (.int 20)))))))))))))))
def m_law_walked (S : SemT) : MS := sSeq (sSet 4 (eCall (arity 2 (S .law_events)) (aCons (eVar 1) (aCons (eVar 2) (aNil))))) (sSeq (sIf (tst (eOp sIsN (eVar 4) (eC .non))) (sRet (eC (.bl false))) (sNil)) (sSeq (sSet 5 (eLc NN (iSeq (eVar 1)) (tgN 10) [10] (cYes) (eNew (aNil)))) (sSeq (sSet 6 (eNew (aNil))) (sSeq (sFor NN (iRange (eCall bLen (aCons (eVar 1) (aNil)))) (tgN 7) (sSeq (sExpr (eMt mtAppend (eVar 6) (aCons (eC (.int 1)) (aNil)))) (sSeq (sIf (tst (eOp sGt (eVar 7) (eC (.int 0)))) (sSeq (sExpr (eMt mtAppend (eOp sIx (eVar 5) (eOp sIx (eOp sIx (eVar 1) (eVar 7)) (eC (.int 2)))) (aCons (eVar 7) (aNil)))) (sSto stL (eVar 6) (eVar 7) (eOp sAdd (eOp sIx (eVar 6) (eOp sIx (eOp sIx (eVar 1) (eVar 7)) (eC (.int 2)))) (eC (.int 1))))) (sNil)) (sIf (tst (eOp sGt (eOp sIx (eVar 6) (eVar 7)) (eC (.int 20)))) (sRet (eC (.bl false))) (sNil))))) (sSeq (sSet 8 (eNew (aNil))) (sSeq (sExpr (eCall (arity 4 (S .law_in_order)) (aCons (eVar 4) (aCons (eVar 5) (aCons (eC (.int 0)) (aCons (eVar 8) (aNil))))))) (sSeq (sIf (tst (eOp sNe (eVar 8) (eVar 2))) (sRet (eC (.bl false))) (sNil)) (sSeq (sFor NN (iRange (eCall bLen (aCons (eVar 1) (aNil)))) (tgN 7) (sSeq (sSet 9 (eLc NN (iSeq (eOp sIx (eVar 5) (eVar 7))) (tgN 11) [11] (cYes) (eOp sIx (eVar 1) (eVar 11)))) (sIf (tNotM (tst (eCall (arity 6 (S .law_call_holds)) (aCons (eVar 0) (aCons (eOp sIx (eVar 1) (eVar 7)) (aCons (eVar 9) (aCons (eOp sIx (eVar 4) (eVar 7)) (aCons (eOp sEq (eCall bLen (aCons (eVar 2) (aNil))) (eVar 3)) (aCons (eOp sIx (eVar 6) (eVar 7)) (aNil)))))))))) (sRet (eC (.bl false))) (sNil)))) (sRet (eC (.bl true)))))))))))
def m_law (S : SemT) : MS := sSeq (sSet 1 (eCall (arity 1 (S .law_program)) (aCons (eVar 0) (aNil)))) (sSeq (sSet 2 (eOp sMod (eCall (arity 2 (S .law_cell_at)) (aCons (eVar 0) (aCons (eC (.int 5)) (aNil)))) (eOp sPow (eC (.int 10)) (eC (.int 9))))) (sSeq (sSet 3 (eOp sIx (eVar 1) (eOp sMod (eOp sDiv (eVar 2) (eC (.int 7))) (eCall bLen (aCons (eVar 1) (aNil)))))) (sSeq (sSet 4 (eCall (arity 2 (S .law_args)) (aCons (eVar 3) (aCons (eOp sAdd (eSl (eVar 0) (oSome (eC (.int 30))) (oNone)) (eSl (eVar 0) (oSome (eC (.int 2))) (oSome (eC (.int 6))))) (aNil))))) (sSeq (sSet 5 (eOp sAdd (eC (.int 20)) (eOp sMod (eOp sDiv (eVar 2) (eC (.int 35))) (eC (.int 100))))) (sSeq (sIf (tst (eOp sEq (eOp sMod (eOp sDiv (eVar 2) (eC (.int 3500))) (eC (.int 8))) (eC (.int 3)))) (sSet 5 (eOp sMod (eOp sDiv (eVar 2) (eC (.int 35))) (eC (.int 10)))) (sNil)) (sSeq (sSet 6 (eCall bList (aCons (eVar 4) (aNil)))) (sSeq (sSet 7 (eCall (arity 4 (S .trace)) (aCons (eVar 1) (aCons (eOp sIx (eVar 3) (eC (.int 0))) (aCons (eVar 6) (aCons (eVar 5) (aNil))))))) (sSeq (sIf (tOrM (tNotM (tst (eCall (arity 3 (S .law_told)) (aCons (eVar 1) (aCons (eVar 7) (aCons (eVar 5) (aNil))))))) (tst (eOp sNe (eVar 6) (eVar 4)))) (sRet (eC (.bl false))) (sNil)) (sSeq (sAsg (tgT [8, 9, 10, 11]) (eVar 7)) (sSeq (sIf (tst (eOp sEq (eCall bLen (aCons (eVar 10) (aNil))) (eC (.int 0)))) (sRet (eAnd (eOp sEq (eVar 5) (eC (.int 0))) (eAnd (eNot (eVar 8)) (eAnd (eOp sIsN (eVar 9) (eC .non)) (eOp sEq (eVar 11) (eLst (aNil))))))) (sNil)) (sSeq (sIf (tst (eOp sNe (eOp sIx (eVar 10) (eC (.int 0))) (eTup (aCons (eOp sIx (eVar 3) (eC (.int 0))) (aCons (eCall bTuple (aCons (eVar 4) (aNil))) (aCons (eC .non) (aCons (eVar 8) (aCons (eVar 9) (aNil))))))))) (sRet (eC (.bl false))) (sNil)) (sSeq (sIf (tNotM (tst (eCall (arity 4 (S .law_walked)) (aCons (eVar 1) (aCons (eVar 10) (aCons (eVar 11) (aCons (eVar 5) (aNil)))))))) (sRet (eC (.bl false))) (sNil)) (sSeq (sSet 12 (eTup (aCons (eVar 8) (aCons (eVar 9) (aCons (eCall bList (aCons (eVar 10) (aNil))) (aCons (eCall bList (aCons (eVar 11) (aNil))) (aNil))))))) (sSeq (sExpr (eMt mtAppend (eVar 10) (aCons (eC .non) (aNil)))) (sSeq (sExpr (eMt0 mtClear (eVar 11))) (sRet (eOp sEq (eCall (arity 4 (S .trace)) (aCons (eVar 1) (aCons (eOp sIx (eVar 3) (eC (.int 0))) (aCons (eVar 6) (aCons (eVar 5) (aNil)))))) (eVar 12))))))))))))))))))
def bodyOf (S : SemT) : SemT
  | .is_whole => runC 1 (m_is_whole S)
  | .is_row => runC 2 (m_is_row S)
  | .is_tree => runC 3 (m_is_tree S)
  | .fits => runC 2 (m_fits S)
  | .size_of => runC 5 (m_size_of S)
  | .log_init => runB 2 m_log_init
  | .log_step => runC 3 (m_log_step S)
  | .log_begin => runC 5 (m_log_begin S)
  | .log_end => runC 8 (m_log_end S)
  | .function_of => runC 3 (m_function_of S)
  | .made_of => runC 4 (m_made_of S)
  | .value_by => runC 8 (m_value_by S)
  | .open_body => runC 3 (m_open_body S)
  | .body_value => runC 7 (m_body_value S)
  | .call_value => runC 12 (m_call_value S)
  | .trace => runB 9 (m_trace S)
  | .law_cell_at => runC 2 (m_law_cell_at S)
  | .law_number => runC 1 (m_law_number S)
  | .law_names => runC 9 (m_law_names S)
  | .law_putting => runC 10 (m_law_putting S)
  | .law_head => runC 9 (m_law_head S)
  | .law_take => runC 1 (m_law_take S)
  | .law_expression => runC 13 (m_law_expression S)
  | .law_body => runC 18 (m_law_body S)
  | .law_program => runC 10 (m_law_program S)
  | .law_tree => runC 4 (m_law_tree S)
  | .law_args => runC 6 (m_law_args S)
  | .law_whole => runC 1 (m_law_whole S)
  | .law_size => runC 5 (m_law_size S)
  | .law_one => runC 3 (m_law_one S)
  | .law_call_told => runC 6 (m_law_call_told S)
  | .law_told => runC 5 (m_law_told S)
  | .law_child => runC 4 (m_law_child S)
  | .law_made => runC 4 (m_law_made S)
  | .law_value => runC 6 (m_law_value S)
  | .law_opened => runC 4 (m_law_opened S)
  | .law_given => runC 5 (m_law_given S)
  | .law_events => runC 7 (m_law_events S)
  | .law_in_order => runC 6 (m_law_in_order S)
  | .law_call_holds => runC 13 (m_law_call_holds S)
  | .law_walked => runC 12 (m_law_walked S)
  | .law => runC 13 (m_law S)
def sem : Nat → SemT
  | 0 => fun _ _ _ => .bad
  | k + 1 => bodyOf (sem k)
def ari : Fn → Nat := fun n => (prs n).length
end Wk
set_option maxRecDepth 100000
set_option maxHeartbeats 4000000
/-! P1: how the combinators are computed. -/
namespace Wk
open PySem PySem.Spec PyProof.Rows L2

section
variable (ls : Loc) (h : AH)
@[simp] theorem eVar_ap (i : Nat) : eVar i ls h = match ls[i]? with
  | some (some u) => .ok u h
  | _ => .bad := rfl
@[simp] theorem eC_ap (u : U) : eC u ls h = .ok u h := rfl
@[simp] theorem aNil_ap : aNil ls h = .ok [] h := rfl
@[simp] theorem aCons_ap (a : ME) (b : MA) : aCons a b ls h = (a ls h).bind fun u h1 => (b ls h1).bind fun us h2 => .ok (u :: us) h2 := rfl
@[simp] theorem eTup_ap (a : MA) : eTup a ls h = (a ls h).bind fun us h1 => if us.length ≤ 1000 then .ok (.seq .tup us) h1 else .bad := rfl
@[simp] theorem eLst_ap (a : MA) : eLst a ls h = (a ls h).bind fun us h1 => if us.length ≤ 1000 then .ok (.seq .lst us) h1 else .bad := rfl
@[simp] theorem eNew_ap (a : MA) : eNew a ls h = (a ls h).bind fun us h1 => if us.length ≤ 1000 then .ok (.obj h1.length) (h1 ++ [.lst us]) else .bad := rfl
@[simp] theorem eOp_ap (f : U → U → AH → Out U) (a b : ME) : eOp f a b ls h = (a ls h).bind fun u h1 => (b ls h1).bind fun w h2 => f u w h2 := rfl
@[simp] theorem eUn_ap (f : U → AH → Out U) (a : ME) : eUn f a ls h = (a ls h).bind fun u h1 => f u h1 := rfl
@[simp] theorem tst_ap (m : ME) : tst m ls h = (m ls h).bind fun u h1 => match u with
  | .bl b => .ok b h1
  | _ => .bad := rfl
@[simp] theorem tNotM_ap (m : MT) : tNotM m ls h = (m ls h).bind fun b h1 => .ok (!b) h1 := rfl
@[simp] theorem tAndM_ap (a b : MT) : tAndM a b ls h = (a ls h).bind fun c h1 => if c then b ls h1 else .ok false h1 := rfl
@[simp] theorem tOrM_ap (a b : MT) : tOrM a b ls h = (a ls h).bind fun c h1 => if c then .ok true h1 else b ls h1 := rfl
@[simp] theorem eNot_ap (m : ME) : eNot m ls h = (m ls h).bind fun u h1 => match u with
  | .bl b => .ok (.bl !b) h1
  | _ => .bad := rfl
@[simp] theorem eAnd_ap (a b : ME) : eAnd a b ls h = (a ls h).bind fun u h1 => match u with
  | .bl c => if c then b ls h1 else .ok (.bl false) h1
  | _ => .bad := rfl
@[simp] theorem eOr_ap (a b : ME) : eOr a b ls h = (a ls h).bind fun u h1 => match u with
  | .bl c => if c then .ok (.bl true) h1 else b ls h1
  | _ => .bad := rfl
@[simp] theorem eCall_ap (f : List U → AH → Out U) (ma : MA) : eCall f ma ls h = (ma ls h).bind fun us h1 => f us h1 := rfl
@[simp] theorem arity_ap (n : Nat) (F : List U → AH → Out U) (us : List U) : arity n F us h = if us.length = n then F us h else .bad := rfl
@[simp] theorem eMt_ap (f : U → List U → AH → Out U) (mo : ME) (ma : MA) : eMt f mo ma ls h = (mo ls h).bind fun u h1 => if isLo h1 u then (ma ls h1).bind fun ws h2 => f u ws h2 else .bad := rfl
@[simp] theorem eMt0_ap (f : U → List U → AH → Out U) (mo : ME) : eMt0 f mo ls h = (mo ls h).bind fun u h1 => if isLo h1 u then f u [] h1 else .bad := rfl
@[simp] theorem eMeth_ap (mn : Str) (F : List U → AH → Out U) (mo : ME) (mas : MA) : eMeth mn F mo mas ls h = (mo ls h).bind fun u h1 => if isIns h1 u mn then (mas ls h1).bind fun us h2 => F (u :: us) h2 else .bad := rfl
@[simp] theorem eJoin_ap (mo ma : ME) : eJoin mo ma ls h = (mo ls h).bind fun u h1 => if isStrU u then (ma ls h1).bind fun w h2 => sJoin u w h2 else .bad := rfl
@[simp] theorem eDict_ap : eDict ls h = .ok (.obj h.length) (h ++ [.dct []]) := rfl
@[simp] theorem oNone_ap : oNone ls h = .ok none h := rfl
@[simp] theorem oSome_ap (m : ME) : oSome m ls h = (m ls h).bind fun u h1 => match u with
  | .int i => .ok (some i) h1
  | _ => .bad := rfl
@[simp] theorem eSl_ap (m : ME) (lo hi : MOp) : eSl m lo hi ls h = (m ls h).bind fun u h1 => (lo ls h1).bind fun l h2 => (hi ls h2).bind fun t h3 => sSl u l t h3 := rfl
@[simp] theorem eSl3_ap (m : ME) (lo hi st : MOp) : eSl3 m lo hi st ls h = (m ls h).bind fun u h1 => (lo ls h1).bind fun l h2 => (hi ls h2).bind fun t h3 => (st ls h3).bind fun k h4 => sSl3 u l t k h4 := rfl
@[simp] theorem eLc_ap (N : Nat) (mi : MI) (T : Tg) (vs : List Nat) (ct : MT) (me : ME) : eLc N mi T vs ct me ls h = (mi ls h).bind fun it h1 => (lcL it T ct me (wipeU ls vs) N 0 [] h1).bind fun us h2 => .ok (.seq .lst us) h2 := rfl
@[simp] theorem cYes_ap : cYes ls h = .ok true h := rfl
@[simp] theorem iSeq_ap (m : ME) : iSeq m ls h = (m ls h).bind fun u h1 => if (asSeq h1 u).isSome then .ok (itSeq u) h1 else .bad := rfl
@[simp] theorem iRange_ap (m : ME) : iRange m ls h = (m ls h).bind fun u h1 => match u with
  | .int n => if -(2 ^ 62) ≤ n ∧ n < 2 ^ 62 then .ok (itRange n) h1 else .bad
  | _ => .bad := rfl
@[simp] theorem iZip2_ap (a b : ME) : iZip2 a b ls h = (a ls h).bind fun u h1 => (b ls h1).bind fun w h2 => if (asSeq h2 u).isSome && (asSeq h2 w).isSome then .ok (itZip u w) h2 else .bad := rfl
@[simp] theorem sNil_ap : sNil ls h = .nx ls h := rfl
@[simp] theorem sSeq_ap (a b : MS) : sSeq a b ls h = match a ls h with
  | .nx l k => b l k
  | o => o := rfl
@[simp] theorem sCont_ap : sCont ls h = .ct ls h := rfl
@[simp] theorem sSet_ap (i : Nat) (m : ME) : sSet i m ls h = (m ls h).s ls fun u h1 => .nx (ls.set i (some u)) h1 := rfl
@[simp] theorem sExpr_ap (m : ME) : sExpr m ls h = (m ls h).s ls fun _ h1 => .nx ls h1 := rfl
@[simp] theorem sRet_ap (m : ME) : sRet m ls h = (m ls h).s ls fun u h1 => .rt u h1 := rfl
@[simp] theorem sIf_ap (c : MT) (a b : MS) : sIf c a b ls h = (c ls h).s ls fun t h1 => if t then a ls h1 else b ls h1 := rfl
@[simp] theorem sAsg_ap (T : Tg) (m : ME) : sAsg T m ls h = (m ls h).s ls fun u h1 => match T u h1 ls with
  | some l => .nx l h1
  | none => .bad := rfl
@[simp] theorem sRaise_ap : sRaise ls h = .cut ls h := rfl
@[simp] theorem sSto_ap (f : U → U → U → AH → Option AH) (mo mi mv : ME) : sSto f mo mi mv ls h = (mv ls h).s ls fun v h1 => (mo ls h1).s ls fun o h2 => (mi ls h2).s ls fun i h3 => match f o i v h3 with
  | some h4 => .nx ls h4
  | none => .bad := rfl
@[simp] theorem sStoF_ap (f : Str) (mo mv : ME) : sStoF f mo mv ls h = (mv ls h).s ls fun v h1 => (mo ls h1).s ls fun o h2 => match stI f o v h2 with
  | some h4 => .nx ls h4
  | none => .bad := rfl
@[simp] theorem sInc_ap (i : Nat) (m : ME) : sInc i m ls h = match ls[i]? with
  | some (some (.int a)) => (m ls h).s ls fun u h1 => match u with
    | .int b => .nx (ls.set i (some (.int (a + b)))) h1
    | _ => .bad
  | _ => .bad := rfl
@[simp] theorem sWhile_ap (N : Nat) (c : MT) (b : MS) : sWhile N c b ls h = whileL c b N ls h := rfl
@[simp] theorem sFor_ap (N : Nat) (mi : MI) (T : Tg) (b : MS) : sFor N mi T b ls h = (mi ls h).s ls fun it h1 => forL it T b N 0 ls h1 := rfl
end
theorem sem_suc (k : Nat) (n : Fn) (us : List U) (h : AH) : sem (k + 1) n us h = bodyOf (sem k) n us h := rfl
@[simp] theorem runB_ap (N : Nat) (m : MS) (us : List U) (h : AH) : runB N m us h = outOf (m (us.map some ++ List.replicate (N - us.length) none) h) := rfl
@[simp] theorem runC_ap (N : Nat) (m : MS) (us : List U) (h : AH) : runC N m us h = clean h.length (runB N m us h) := rfl
@[simp] theorem outOf_nx (l : Loc) (h : AH) : outOf (.nx l h) = .ok .non h := rfl
@[simp] theorem outOf_rt (u : U) (h : AH) : outOf (.rt u h) = .ok u h := rfl
@[simp] theorem outOf_cut (l : Loc) (h : AH) : outOf (.cut l h) = .cut h := rfl

/-! ### clean -/
/-- no object of ours points beyond -/
def Okh (h : AH) : Prop := h.all (belowM h.length) = true
mutual
theorem frz_below {n : Nat} {h : AH} : ∀ u : U, belowU n u = true → frz n h u = some u
  | .non, _ => by simp [frz]
  | .bl b, _ => by simp [frz]
  | .int i, _ => by simp [frz]
  | .str x, _ => by simp [frz]
  | .seq k us, b => by simp [frz, frzs_below us (by simpa [belowU] using b)]
  | .obj i, b => by
    have : i < n := by simpa [belowU] using b
    simp [frz, this]
theorem frzs_below {n : Nat} {h : AH} : ∀ us : List U, belowUs n us = true → frzs n h us = some us
  | [], _ => by simp [frzs]
  | u :: us, b => by
    simp only [belowUs, Bool.and_eq_true] at b
    simp [frzs, frz_below u b.1, frzs_below us b.2]
end
mutual
theorem below_pure {n : Nat} : ∀ u : U, pureU u = true → belowU n u = true
  | .non, _ => by simp [belowU]
  | .bl b, _ => by simp [belowU]
  | .int i, _ => by simp [belowU]
  | .str x, _ => by simp [belowU]
  | .seq k us, b => by simp [belowU, belows_pure us (by simpa [pureU] using b)]
  | .obj i, b => by simp [pureU] at b
theorem belows_pure {n : Nat} : ∀ us : List U, pureUs us = true → belowUs n us = true
  | [], _ => by simp [belowUs]
  | u :: us, b => by
    simp only [pureUs, Bool.and_eq_true] at b
    simp [belowUs, below_pure u b.1, belows_pure us b.2]
end
mutual
theorem below_mono {n m : Nat} (hm : n ≤ m) : ∀ u : U, belowU n u = true → belowU m u = true
  | .non, _ => by simp [belowU]
  | .bl b, _ => by simp [belowU]
  | .int i, _ => by simp [belowU]
  | .str x, _ => by simp [belowU]
  | .seq k us, b => by simp [belowU, belows_mono hm us (by simpa [belowU] using b)]
  | .obj i, b => by
    have : i < n := by simpa [belowU] using b
    simp [belowU]; omega
theorem belows_mono {n m : Nat} (hm : n ≤ m) : ∀ us : List U, belowUs n us = true → belowUs m us = true
  | [], _ => by simp [belowUs]
  | u :: us, b => by
    simp only [belowUs, Bool.and_eq_true] at b
    simp [belowUs, below_mono hm u b.1, belows_mono hm us b.2]
end
theorem belowM_mono {n m : Nat} (hm : n ≤ m) (o : MO) (b : belowM n o = true) : belowM m o = true := by
  cases o <;> exact belows_mono hm _ b
theorem clean_of {n : Nat} {u u' : U} {h h' : AH} (e1 : frz n h u = some u') (e2 : h.take n = h') (e3 : h'.all (belowM n) = true) : clean n (.ok u h) = .ok u' h' := by
  simp only [clean, cutH, e1, e2, e3, if_true]
theorem clean_cut {n : Nat} {h h' : AH} (e2 : h.take n = h') (e3 : h'.all (belowM n) = true) : clean n (.cut h) = .cut h' := by
  simp only [clean, cutH, e2, e3, if_true]
/-- nothing new -/
theorem clean_same {u : U} {h : AH} {n : Nat} (hn : n = h.length) (ok : Okh h) (b : belowU n u = true) : clean n (.ok u h) = .ok u h := by
  subst hn
  exact clean_of (frz_below u b) (List.take_length) ok
theorem clean_sameC {h : AH} {n : Nat} (hn : n = h.length) (ok : Okh h) : clean n (.cut h) = .cut h := by
  subst hn
  exact clean_cut (List.take_length) ok
/-- what is new is let go -/
theorem clean_app {u : U} {h t : AH} {n : Nat} (hn : n = h.length) (ok : Okh h) (b : belowU n u = true) : clean n (.ok u (h ++ t)) = .ok u h := by
  subst hn
  exact clean_of (frz_below u b) (List.take_left) ok
theorem clean_appC {h t : AH} {n : Nat} (hn : n = h.length) (ok : Okh h) : clean n (.cut (h ++ t)) = .cut h := by
  subst hn
  exact clean_cut (List.take_left) ok

theorem Okh.app {h : AH} {x : MO} (ok : Okh h) (b : belowM (h.length + 1) x = true) : Okh (h ++ [x]) := by
  unfold Okh at ok ⊢
  rw [List.all_append, List.length_append]
  simp only [List.length_singleton, List.all_cons, List.all_nil, Bool.and_true, b]
  exact List.all_eq_true.mpr fun o ho => belowM_mono (by omega) o (List.all_eq_true.mp ok o ho)
theorem Okh.set {h : AH} {x : MO} {i : Nat} (ok : Okh h) (b : belowM h.length x = true) : Okh (h.set i x) := by
  unfold Okh at ok ⊢
  rw [List.length_set]
  refine List.all_eq_true.mpr fun o ho => ?_
  rcases List.mem_or_eq_of_mem_set ho with z | z
  · exact List.all_eq_true.mp ok o z
  · subst z; exact b
theorem Okh.nil : Okh [] := rfl
@[simp] theorem sInt_int (f : Int → Int → Int) (i j : Int) (h : AH) : sInt f (.int i) (.int j) h = .ok (.int (f i j)) h := rfl
@[simp] theorem sIntB_int (f : Int → Int → Bool) (i j : Int) (h : AH) : sIntB f (.int i) (.int j) h = .ok (.bl (f i j)) h := rfl
@[simp] theorem sIntC_int (C : Int → Int → Bool) (f : Int → Int → Int) (i j : Int) (h : AH) : sIntC C f (.int i) (.int j) h = if C i j then .ok (.int (f i j)) h else .bad := rfl
@[simp] theorem sAdd_int (i j : Int) (h : AH) : sAdd (.int i) (.int j) h = .ok (.int (i + j)) h := rfl
@[simp] theorem sNeg_int (i : Int) (h : AH) : sNeg (.int i) h = .ok (.int (-i)) h := rfl

/-! ### == -/
mutual
theorem eqv_refl : ∀ u : U, PyData.eqv (toP u) (toP u) = true
  | .non => by simp [toP, PyData.eqv]
  | .bl b => by simp [toP, PyData.eqv]
  | .int i => by simp [toP, PyData.eqv]
  | .str x => by simp [toP, PyData.eqv]
  | .seq .tup us => by simp [toP, PyData.eqv, eqvs_refl us]
  | .seq .lst us => by simp [toP, PyData.eqv, eqvs_refl us]
  | .seq .ro us => by simp [toP, PyData.eqv, eqvs_refl us]
  | .obj i => by simp [toP, PyData.eqv]
theorem eqvs_refl : ∀ us : List U, PyData.eqvAll (toPs us) (toPs us) = true
  | [] => by simp [toPs, PyData.eqvAll]
  | u :: us => by simp [toPs, PyData.eqvAll, eqv_refl u, eqvs_refl us]
end
/-- may be compared -/
structure Cmp (u : U) : Prop where
  pure : pureU u = true
  str : strsOk u = true
  dep : (toP u).depth ≤ 190
mutual
theorem res_pure {h : AH} : ∀ u : U, pureU u = true → res h u = some u
  | .non, _ => by simp [res]
  | .bl b, _ => by simp [res]
  | .int i, _ => by simp [res]
  | .str x, _ => by simp [res]
  | .seq k us, b => by simp [res, ress_pure us (by simpa [pureU] using b)]
  | .obj i, b => by simp [pureU] at b
theorem ress_pure {h : AH} : ∀ us : List U, pureUs us = true → ress h us = some us
  | [], _ => by simp [ress]
  | u :: us, b => by
    simp only [pureUs, Bool.and_eq_true] at b
    simp [ress, res_pure u b.1, ress_pure us b.2]
end
theorem eqB_of {h : AH} {u w a b : U} (h1 : res h u = some a) (h2 : res h w = some b) (ha : Cmp a) (hb : strsOk b = true) : eqB h u w = some ((toP a).eqv (toP b)) := by
  unfold eqB
  rw [h1, h2]
  simp only
  rw [if_pos]
  have := ha.dep
  simp only [ha.str, hb, Bool.true_and, decide_eq_true_eq]
  omega
theorem eqB_of' {h : AH} {u w a b : U} (h1 : res h u = some a) (h2 : res h w = some b) (ha : strsOk a = true) (hb : Cmp b) : eqB h u w = some ((toP a).eqv (toP b)) := by
  unfold eqB
  rw [h1, h2]
  simp only
  rw [if_pos]
  have := hb.dep
  simp only [ha, hb.str, Bool.true_and, decide_eq_true_eq]
  omega
theorem eqB_same {h : AH} {u w a : U} (h1 : res h u = some a) (h2 : res h w = some a) (ha : Cmp a) : eqB h u w = some true := by
  rw [eqB_of h1 h2 ha ha.str, eqv_refl]
theorem sEq_same {h : AH} {u : U} (ha : Cmp u) : sEq u u h = .ok (.bl true) h := by
  unfold sEq
  rw [eqB_same (res_pure u ha.pure) (res_pure u ha.pure) ha]
theorem cmp_str {x : Str} (hx : PyData.strOk x = true) : Cmp (.str x) := ⟨rfl, by simpa [strsOk] using hx, by simp [toP, PyData.depth]⟩
theorem sEq_str {h : AH} {a b : Str} (ha : PyData.strOk a = true) (hb : PyData.strOk b = true) : sEq (.str a) (.str b) h = .ok (.bl (decide (a = b))) h := by
  unfold sEq
  rw [eqB_of (a := .str a) (b := .str b) (by simp [res]) (by simp [res]) (cmp_str ha) (by simpa [strsOk] using hb)]
  by_cases e : a = b <;> simp [toP, PyData.eqv, e]
theorem sNe_str {h : AH} {a b : Str} (ha : PyData.strOk a = true) (hb : PyData.strOk b = true) : sNe (.str a) (.str b) h = .ok (.bl (!decide (a = b))) h := by
  unfold sNe
  rw [eqB_of (a := .str a) (b := .str b) (by simp [res]) (by simp [res]) (cmp_str ha) (by simpa [strsOk] using hb)]
  by_cases e : a = b <;> simp [toP, PyData.eqv, e]
theorem sEq_int {h : AH} {a b : Int} : sEq (.int a) (.int b) h = .ok (.bl (decide (a = b))) h := by
  unfold sEq
  rw [eqB_of (a := .int a) (b := .int b) (by simp [res]) (by simp [res]) ⟨rfl, by simp [strsOk], by simp [toP, PyData.depth]⟩ (by simp [strsOk])]
  by_cases e : a = b <;> simp [toP, PyData.eqv, e]
theorem sNe_int {h : AH} {a b : Int} : sNe (.int a) (.int b) h = .ok (.bl (!decide (a = b))) h := by
  unfold sNe
  rw [eqB_of (a := .int a) (b := .int b) (by simp [res]) (by simp [res]) ⟨rfl, by simp [strsOk], by simp [toP, PyData.depth]⟩ (by simp [strsOk])]
  by_cases e : a = b <;> simp [toP, PyData.eqv, e]
/-! the written texts -/
@[simp] theorem ok_num : PyData.strOk ("num" : Str) = true := by decide +kernel
@[simp] theorem ok_list : PyData.strOk ("list" : Str) = true := by decide +kernel
@[simp] theorem ok_tree : PyData.strOk ("tree" : Str) = true := by decide +kernel
@[simp] theorem ok_add : PyData.strOk ("add" : Str) = true := by decide +kernel
@[simp] theorem ok_sub : PyData.strOk ("sub" : Str) = true := by decide +kernel
@[simp] theorem ok_cons : PyData.strOk ("cons" : Str) = true := by decide +kernel
@[simp] theorem ok_node : PyData.strOk ("node" : Str) = true := by decide +kernel
@[simp] theorem ok_var : PyData.strOk ("var" : Str) = true := by decide +kernel
@[simp] theorem ok_nil : PyData.strOk ("nil" : Str) = true := by decide +kernel
@[simp] theorem ok_leaf : PyData.strOk ("leaf" : Str) = true := by decide +kernel
@[simp] theorem ok_call : PyData.strOk ("call" : Str) = true := by decide +kernel
@[simp] theorem ok_give : PyData.strOk ("give" : Str) = true := by decide +kernel
@[simp] theorem ok_let : PyData.strOk ("let" : Str) = true := by decide +kernel
@[simp] theorem ok_less : PyData.strOk ("less" : Str) = true := by decide +kernel
@[simp] theorem ok_sum : PyData.strOk ("sum" : Str) = true := by decide +kernel
@[simp] theorem ok_make : PyData.strOk ("make" : Str) = true := by decide +kernel
@[simp] theorem ok_open : PyData.strOk ("open" : Str) = true := by decide +kernel
@[simp] theorem ok_great : PyData.strOk ("great" : Str) = true := by decide +kernel

/-! ### a first function -/
theorem f_is_whole {k : Nat} {u : U} {h : AH} {a b : Bool} (ok : Okh h) (e1 : isA h u .int = some a) (e2 : isA h u .bool = some b) : sem (k + 1) .is_whole [u] h = .ok (.bl (a && !b)) h := by
  have : runB 1 (m_is_whole (sem k)) [u] h = .ok (.bl (a && !b)) h := by
    cases a <;> simp [runB_ap, m_is_whole, sRet_ap, eAnd_ap, eNot_ap, eCall_ap, aCons_ap, aNil_ap, eVar_ap, bIsi, e1, e2]
  show runC 1 (m_is_whole (sem k)) [u] h = _
  rw [runC_ap, this]
  exact clean_same rfl ok rfl
end Wk
set_option maxRecDepth 100000
set_option maxHeartbeats 4000000
/-! P2: the mirror: shapes, values, expressions, bodies; interaction trees and their two readings. -/
namespace Wk
open PySem PySem.Spec PyProof.Rows L2

inductive Ty where
  | num | list | tree
  deriving DecidableEq
def Ty.s : Ty → Str
  | .num => "num"
  | .list => "list"
  | .tree => "tree"
def Ty.u (t : Ty) : U := .str t.s
inductive Tr where
  | leaf
  | node (l : Tr) (x : Int) (r : Tr)
  deriving DecidableEq
def Tr.size : Tr → Nat
  | .leaf => 0
  | .node l _ r => l.size + r.size + 1
def Tr.u : Tr → U
  | .leaf => .non
  | .node l x r => .seq .tup [l.u, .int x, r.u]
inductive Va where
  | num (i : Int)
  | list (xs : List Int)
  | tree (t : Tr)
  deriving DecidableEq
def Va.u : Va → U
  | .num i => .int i
  | .list xs => .seq .tup (xs.map .int)
  | .tree t => t.u
def Va.ty : Va → Ty
  | .num _ => .num
  | .list _ => .list
  | .tree _ => .tree
def Va.n : Va → Int
  | .num i => i
  | _ => 0
def Va.l : Va → List Int
  | .list xs => xs
  | _ => []
def Va.t : Va → Tr
  | .tree t => t
  | _ => .leaf
def Va.small : Va → Prop
  | .num _ => True
  | .list xs => xs.length ≤ 100
  | .tree t => t.size ≤ 100
structure HasV (v : Va) (t : Ty) : Prop where
  ty : v.ty = t
  sm : v.small
inductive HasVs : List Va → List Ty → Prop where
  | nil : HasVs [] []
  | cons {v : Va} {t : Ty} {vs : List Va} {ts : List Ty} : HasV v t → HasVs vs ts → HasVs (v :: vs) (t :: ts)
theorem HasV.num {v : Va} (h : HasV v .num) : ∃ i, v = .num i := by
  cases v with
  | num i => exact ⟨i, rfl⟩
  | list x => cases h.ty
  | tree x => cases h.ty
theorem HasV.list {v : Va} (h : HasV v .list) : ∃ xs, v = .list xs ∧ xs.length ≤ 100 := by
  cases v with
  | num i => cases h.ty
  | list x => exact ⟨x, rfl, h.sm⟩
  | tree x => cases h.ty
theorem HasV.tree {v : Va} (h : HasV v .tree) : ∃ t, v = .tree t ∧ t.size ≤ 100 := by
  cases v with
  | num i => cases h.ty
  | list x => cases h.ty
  | tree x => exact ⟨x, rfl, h.sm⟩

/-! ### what the encodings are -/
theorem ints_pure : ∀ xs : List Int, pureUs (xs.map U.int) = true
  | [] => rfl
  | x :: xs => by simp [pureUs, pureU, ints_pure xs]
theorem Tr.pure : ∀ t : Tr, pureU t.u = true
  | .leaf => rfl
  | .node l x r => by simp [Tr.u, pureU, pureUs, l.pure, r.pure]
theorem Va.pure (v : Va) : pureU v.u = true := by
  cases v with
  | num i => rfl
  | list xs => simp [Va.u, pureU, ints_pure]
  | tree t => exact t.pure
theorem ints_strs : ∀ xs : List Int, strsOks (xs.map U.int) = true
  | [] => rfl
  | x :: xs => by simp [strsOks, strsOk, ints_strs xs]
theorem Tr.strs : ∀ t : Tr, strsOk t.u = true
  | .leaf => rfl
  | .node l x r => by simp [Tr.u, strsOk, strsOks, l.strs, r.strs]
theorem Va.strs (v : Va) : strsOk v.u = true := by
  cases v with
  | num i => rfl
  | list xs => simp [Va.u, strsOk, ints_strs]
  | tree t => exact t.strs
theorem ints_depth : ∀ xs : List Int, PyData.depthAll (toPs (xs.map U.int)) = 0
  | [] => by simp [toPs, PyData.depthAll]
  | x :: xs => by simp [toPs, toP, PyData.depthAll, PyData.depth, ints_depth xs]
theorem Tr.dep : ∀ t : Tr, (toP t.u).depth ≤ t.size
  | .leaf => by simp [Tr.u, toP, PyData.depth]
  | .node l x r => by
    have h1 := l.dep
    have h2 := r.dep
    simp only [Tr.u, toP, toPs, PyData.depth, PyData.depthAll, Tr.size]
    omega
theorem Va.dep {v : Va} (h : v.small) : (toP v.u).depth ≤ 100 := by
  cases v with
  | num i => simp [Va.u, toP, PyData.depth]
  | list xs => simp [Va.u, toP, PyData.depth, ints_depth]
  | tree t => exact Nat.le_trans t.dep h

/-! ### expressions, bodies, programs -/
inductive Ex where
  | num (i : Int) | var (x : Str) | nil | leaf
  | add (a b : Ex) | sub (a b : Ex) | cons (a b : Ex) | node (a b c : Ex)
  | call (f : Str) (es : List Ex)
mutual
def Ex.u : Ex → U
  | .num i => .seq .tup [.str "num", .int i]
  | .var x => .seq .tup [.str "var", .str x]
  | .nil => .seq .tup [.str "nil"]
  | .leaf => .seq .tup [.str "leaf"]
  | .add a b => .seq .tup [.str "add", a.u, b.u]
  | .sub a b => .seq .tup [.str "sub", a.u, b.u]
  | .cons a b => .seq .tup [.str "cons", a.u, b.u]
  | .node a b c => .seq .tup [.str "node", a.u, b.u, c.u]
  | .call f es => .seq .tup [.str "call", .str f, .seq .tup (Ex.us es)]
def Ex.us : List Ex → List U
  | [] => []
  | e :: es => e.u :: Ex.us es
end
mutual
def Ex.dep : Ex → Nat
  | .add a b => max a.dep b.dep + 1
  | .sub a b => max a.dep b.dep + 1
  | .cons a b => max a.dep b.dep + 1
  | .node a b c => max a.dep (max b.dep c.dep) + 1
  | .call _ es => Ex.deps es + 1
  | _ => 0
def Ex.deps : List Ex → Nat
  | [] => 0
  | e :: es => max e.dep (Ex.deps es)
end
inductive Bd where
  | give (e : Ex)
  | elet (x : Str) (e : Ex) (b : Bd)
  | less (a b : Ex) (p q : Bd)
  | olist (x : Str) (nb : Bd) (h t : Str) (cb : Bd)
  | otree (x : Str) (lb : Bd) (l v r : Str) (nb : Bd)
def Bd.u : Bd → U
  | .give e => .seq .tup [.str "give", e.u]
  | .elet x e b => .seq .tup [.str "let", .str x, e.u, b.u]
  | .less a b p q => .seq .tup [.str "less", a.u, b.u, p.u, q.u]
  | .olist x nb h t cb => .seq .tup [.str "list", .str x, nb.u, .str h, .str t, cb.u]
  | .otree x lb l v r nb => .seq .tup [.str "tree", .str x, lb.u, .str l, .str v, .str r, nb.u]
def Bd.dep : Bd → Nat
  | .give _ => 0
  | .elet _ _ b => b.dep + 1
  | .less _ _ p q => max p.dep q.dep + 1
  | .olist _ nb _ _ cb => max nb.dep cb.dep + 1
  | .otree _ lb _ _ _ nb => max lb.dep nb.dep + 1
structure Fd where
  name : Str
  params : List (Str × Ty)
  gives : Ty
  sz : List Int
  body : Bd
def prmU (p : Str × Ty) : U := .seq .tup [.str p.1, p.2.u]
/-- name, params, gives -/
def Fd.head (f : Fd) : List U := [.str f.name, .seq .tup (f.params.map prmU), .seq .tup [f.gives.u, .seq .tup (f.sz.map U.int)]]
def Fd.u (f : Fd) : U := .seq .tup (f.head ++ [f.body.u])
abbrev Pg := List Fd
def Pg.u (P : Pg) : U := .seq .tup (P.map Fd.u)
def Pg.at (P : Pg) (f : Str) : Option Fd := P.find? fun d => decide (d.name = f)

/-! ### shapes -/
abbrev Sig := Str → Option (List Ty × Ty)
def Pg.sig (P : Pg) : Sig := fun f => (P.at f).map fun d => (d.params.map (·.2), d.gives)
abbrev Gam := Str → Option Ty
def Gam.put (G : Gam) (x : Str) (t : Ty) : Gam := fun y => if y = x then some t else G y
mutual
def tyE (F : Sig) (G : Gam) : Ex → Ty → Prop
  | .num _, t => t = .num
  | .var x, t => G x = some t
  | .nil, t => t = .list
  | .leaf, t => t = .tree
  | .add a b, t => t = .num ∧ tyE F G a .num ∧ tyE F G b .num
  | .sub a b, t => t = .num ∧ tyE F G a .num ∧ tyE F G b .num
  | .cons a b, t => t = .list ∧ tyE F G a .num ∧ tyE F G b .list
  | .node a b c, t => t = .tree ∧ tyE F G a .tree ∧ tyE F G b .num ∧ tyE F G c .tree
  | .call f es, t => ∃ ts, F f = some (ts, t) ∧ tyEs F G es ts
def tyEs (F : Sig) (G : Gam) : List Ex → List Ty → Prop
  | [], ts => ts = []
  | e :: es, ts => ∃ t rs, ts = t :: rs ∧ tyE F G e t ∧ tyEs F G es rs
end
def tyB (F : Sig) : Gam → Bd → Ty → Prop
  | G, .give e, t => tyE F G e t ∧ e.dep ≤ 3
  | G, .elet x e b, t => ∃ s, tyE F G e s ∧ e.dep ≤ 3 ∧ G x = none ∧ tyB F (G.put x s) b t
  | G, .less a b p q, t => tyE F G a .num ∧ a.dep ≤ 3 ∧ tyE F G b .num ∧ b.dep ≤ 3 ∧ tyB F G p t ∧ tyB F G q t
  | G, .olist x nb h tl cb, t => G x = some .list ∧ G h = none ∧ G tl = none ∧ h ≠ tl ∧ tyB F G nb t ∧ tyB F ((G.put h .num).put tl .list) cb t
  | G, .otree x lb l v r nb, t => G x = some .tree ∧ G l = none ∧ G v = none ∧ G r = none ∧ l ≠ v ∧ l ≠ r ∧ v ≠ r ∧ tyB F G lb t ∧ tyB F (((G.put l .tree).put v .num).put r .tree) nb t
def gam0 : List (Str × Ty) → Gam
  | [] => fun _ => none
  | (x, t) :: r => fun y => if y = x then some t else gam0 r y
structure FdOk (F : Sig) (d : Fd) : Prop where
  str : PyData.strOk d.name = true
  nd : (d.params.map (·.1)).Nodup
  few : d.params.length ≤ 3
  some : d.params ≠ []
  body : tyB F (gam0 d.params) d.body d.gives
  dep : d.body.dep ≤ 5
structure PgOk (P : Pg) : Prop where
  nd : (P.map (·.name)).Nodup
  few : P.length ≤ 4
  ok : ∀ d ∈ P, FdOk P.sig d
theorem PgOk.at_ok {P : Pg} (h : PgOk P) {f : Str} {d : Fd} (e : P.at f = some d) : FdOk P.sig d ∧ d.name = f := by
  have hm := List.mem_of_find?_eq_some e
  have hp := List.find?_some e
  exact ⟨h.ok d hm, by simpa using hp⟩

/-! ### interaction trees -/
inductive Kd where
  | sum | make | elet | less | eopen
def Kd.s : Kd → Str
  | .sum => "sum"
  | .make => "make"
  | .elet => "let"
  | .less => "less"
  | .eopen => "open"
inductive IT (α : Type) where
  | ret (a : α)
  | stp (k : Kd) (t : IT α)
  | ask (f : Str) (vs : List Va) (t : Va → IT α)
  | great
def IT.bind {α β : Type} : IT α → (α → IT β) → IT β
  | .ret a, f => f a
  | .stp k t, f => .stp k (t.bind f)
  | .ask g vs t, f => .ask g vs fun v => (t v).bind f
  | .great, _ => .great
abbrev Ev := Str → Option Va
def Ev.put (E : Ev) (x : Str) (v : Va) : Ev := fun y => if y = x then some v else E y
def Ev.get (E : Ev) (x : Str) : Va := (E x).getD (.num 0)
def mkCons (x y : Va) : IT Va := if 100 ≤ y.l.length then .great else .stp .make (.ret (.list (x.n :: y.l)))
def mkNode (x y z : Va) : IT Va := if 100 ≤ x.t.size + z.t.size then .great else .stp .make (.ret (.tree (.node x.t y.n z.t)))
mutual
def denE (E : Ev) : Ex → IT Va
  | .num i => .ret (.num i)
  | .var x => .ret (E.get x)
  | .nil => .ret (.list [])
  | .leaf => .ret (.tree .leaf)
  | .add a b => (denE E a).bind fun x => (denE E b).bind fun y => .stp .sum (.ret (.num (x.n + y.n)))
  | .sub a b => (denE E a).bind fun x => (denE E b).bind fun y => .stp .sum (.ret (.num (x.n - y.n)))
  | .cons a b => (denE E a).bind fun x => (denE E b).bind fun y => mkCons x y
  | .node a b c => (denE E a).bind fun x => (denE E b).bind fun y => (denE E c).bind fun z => mkNode x y z
  | .call f es => (denEs E es).bind fun vs => .ask f vs .ret
def denEs (E : Ev) : List Ex → IT (List Va)
  | [] => .ret []
  | e :: es => (denE E e).bind fun v => (denEs E es).bind fun vs => .ret (v :: vs)
end
def denB : Ev → Bd → IT Va
  | E, .give e => denE E e
  | E, .elet x e b => (denE E e).bind fun v => .stp .elet (denB (E.put x v) b)
  | E, .less a b p q => (denE E a).bind fun x => (denE E b).bind fun y => .stp .less (if x.n < y.n then denB E p else denB E q)
  | E, .olist x nb h t cb => .stp .eopen (match (E.get x).l with
    | [] => denB E nb
    | y :: ys => denB ((E.put h (.num y)).put t (.list ys)) cb)
  | E, .otree x lb l v r nb => .stp .eopen (match (E.get x).t with
    | .leaf => denB E lb
    | .node a y b => denB (((E.put l (.tree a)).put v (.num y)).put r (.tree b)) nb)
def ev0 : List (Str × Ty) → List Va → Ev
  | (x, _) :: r, v :: vs => fun y => if y = x then some v else ev0 r vs y
  | _, _ => fun _ => none
def denF (P : Pg) (f : Str) (vs : List Va) : IT Va := match P.at f with
  | some d => denB (ev0 d.params vs) d.body
  | none => .great

/-! ### a tree's shape -/
def Good (F : Sig) {α : Type} (Q : α → Prop) : IT α → Prop
  | .ret a => Q a
  | .stp _ t => Good F Q t
  | .ask f vs t => ∃ ts s, F f = some (ts, s) ∧ HasVs vs ts ∧ ∀ v, HasV v s → Good F Q (t v)
  | .great => True
theorem Good.bind {F : Sig} {α β : Type} {Q : α → Prop} {R : β → Prop} {f : α → IT β} : ∀ {t : IT α}, Good F Q t → (∀ a, Q a → Good F R (f a)) → Good F R (t.bind f)
  | .ret a, h, k => k a h
  | .stp _ t, h, k => Good.bind (t := t) h k
  | .ask g vs t, h, k => by
    obtain ⟨ts, s, h1, h2, h3⟩ := h
    exact ⟨ts, s, h1, h2, fun v hv => Good.bind (t := t v) (h3 v hv) k⟩
  | .great, _, _ => trivial
structure EvOk (G : Gam) (E : Ev) : Prop where
  get : ∀ x t, G x = some t → ∃ v, E x = some v ∧ HasV v t
theorem EvOk.at_ {G : Gam} {E : Ev} (h : EvOk G E) {x : Str} {t : Ty} (e : G x = some t) : HasV (E.get x) t := by
  obtain ⟨v, h1, h2⟩ := h.get x t e
  unfold Ev.get
  rw [h1]
  exact h2
theorem EvOk.put {G : Gam} {E : Ev} (h : EvOk G E) {x : Str} {t : Ty} {v : Va} (hv : HasV v t) : EvOk (G.put x t) (E.put x v) := ⟨fun y s e => by
  unfold Gam.put at e
  unfold Ev.put
  by_cases hy : y = x
  · rw [if_pos hy] at e ⊢
    cases e
    exact ⟨v, rfl, hv⟩
  · rw [if_neg hy] at e ⊢
    exact h.get y s e⟩
theorem good_cons {F : Sig} {x y : Va} (hx : HasV x .num) (hy : HasV y .list) : Good F (HasV · .list) (mkCons x y) := by
  unfold mkCons
  split
  · trivial
  · rename_i h
    exact ⟨rfl, by show (x.n :: y.l).length ≤ 100; simp; omega⟩
theorem good_node {F : Sig} {x y z : Va} : Good F (HasV · .tree) (mkNode x y z) := by
  unfold mkNode
  split
  · trivial
  · rename_i h
    exact ⟨rfl, by show x.t.size + z.t.size + 1 ≤ 100; omega⟩
mutual
theorem good_E {F : Sig} {G : Gam} {E : Ev} (ho : EvOk G E) : ∀ (e : Ex) (t : Ty), tyE F G e t → Good F (HasV · t) (denE E e)
  | .num i, t, h => by simp only [tyE] at h; subst h; simp only [denE]; exact ⟨rfl, trivial⟩
  | .var x, t, h => by simp only [tyE] at h; simp only [denE]; exact ho.at_ h
  | .nil, t, h => by simp only [tyE] at h; subst h; simp only [denE]; exact ⟨rfl, by show ([] : List Int).length ≤ 100; simp⟩
  | .leaf, t, h => by simp only [tyE] at h; subst h; simp only [denE]; exact ⟨rfl, by show (0 : Nat) ≤ 100; omega⟩
  | .add a b, t, h => by
    simp only [tyE] at h
    obtain ⟨rfl, ha, hb⟩ := h
    simp only [denE]
    exact (good_E ho a _ ha).bind fun x hx => (good_E ho b _ hb).bind fun y hy => ⟨rfl, trivial⟩
  | .sub a b, t, h => by
    simp only [tyE] at h
    obtain ⟨rfl, ha, hb⟩ := h
    simp only [denE]
    exact (good_E ho a _ ha).bind fun x hx => (good_E ho b _ hb).bind fun y hy => ⟨rfl, trivial⟩
  | .cons a b, t, h => by
    simp only [tyE] at h
    obtain ⟨rfl, ha, hb⟩ := h
    simp only [denE]
    exact (good_E ho a _ ha).bind fun x hx => (good_E ho b _ hb).bind fun y hy => good_cons hx hy
  | .node a b c, t, h => by
    simp only [tyE] at h
    obtain ⟨rfl, ha, hb, hc⟩ := h
    simp only [denE]
    exact (good_E ho a _ ha).bind fun x hx => (good_E ho b _ hb).bind fun y hy => (good_E ho c _ hc).bind fun z hz => good_node
  | .call f es, t, h => by
    simp only [tyE] at h
    obtain ⟨ts, hf, hes⟩ := h
    simp only [denE]
    exact (good_Es ho es ts hes).bind fun vs hvs => ⟨ts, t, hf, hvs, fun v hv => hv⟩
theorem good_Es {F : Sig} {G : Gam} {E : Ev} (ho : EvOk G E) : ∀ (es : List Ex) (ts : List Ty), tyEs F G es ts → Good F (fun vs => HasVs vs ts) (denEs E es)
  | [], ts, h => by simp only [tyEs] at h; subst h; simp only [denEs]; exact .nil
  | e :: es, ts, h => by
    simp only [tyEs] at h
    obtain ⟨t, rs, rfl, h1, h2⟩ := h
    simp only [denEs]
    exact (good_E ho e t h1).bind fun v hv => (good_Es ho es rs h2).bind fun vs hvs => .cons hv hvs
end
theorem small_tail {y : Int} {ys : List Int} (h : (Va.list (y :: ys)).small) : HasV (.list ys) .list := ⟨rfl, by
  have : (y :: ys).length ≤ 100 := h
  show ys.length ≤ 100
  simp at this; omega⟩
theorem good_B {F : Sig} : ∀ (b : Bd) {G : Gam} {E : Ev} {t : Ty}, EvOk G E → tyB F G b t → Good F (HasV · t) (denB E b)
  | .give e, G, E, t, ho, h => good_E ho e t h.1
  | .elet x e b, G, E, t, ho, h => by
    obtain ⟨s, h1, _, _, h2⟩ := h
    exact (good_E ho e s h1).bind fun v hv => good_B b (ho.put hv) h2
  | .less a b p q, G, E, t, ho, h => by
    obtain ⟨h1, _, h2, _, h3, h4⟩ := h
    refine (good_E ho a _ h1).bind fun x hx => (good_E ho b _ h2).bind fun y hy => ?_
    show Good F _ (if x.n < y.n then denB E p else denB E q)
    split
    · exact good_B p ho h3
    · exact good_B q ho h4
  | .olist x nb h t cb, G, E, ty, ho, hh => by
    obtain ⟨h1, _, _, _, h2, h3⟩ := hh
    obtain ⟨xs, e, hs⟩ := (ho.at_ h1).list
    simp only [denB, Good]
    rw [e]
    simp only [Va.l]
    cases xs with
    | nil => exact good_B nb ho h2
    | cons y ys => exact good_B cb ((ho.put (t := .num) (v := .num y) ⟨rfl, trivial⟩).put (small_tail hs)) h3
  | .otree x lb l v r nb, G, E, ty, ho, hh => by
    obtain ⟨h1, _, _, _, _, _, _, h2, h3⟩ := hh
    obtain ⟨tr, e, hs⟩ := (ho.at_ h1).tree
    simp only [denB, Good]
    rw [e]
    simp only [Va.t]
    cases tr with
    | leaf => exact good_B lb ho h2
    | node a y b =>
      have hs : a.size + b.size + 1 ≤ 100 := hs
      exact good_B nb (((ho.put (t := .tree) (v := .tree a) ⟨rfl, by show a.size ≤ 100; omega⟩).put (t := .num) (v := .num y) ⟨rfl, trivial⟩).put (t := .tree) (v := .tree b) ⟨rfl, by show b.size ≤ 100; omega⟩) h3
theorem ev0_ok : ∀ {ps : List (Str × Ty)} {vs : List Va}, HasVs vs (ps.map (·.2)) → EvOk (gam0 ps) (ev0 ps vs)
  | [], _, _ => ⟨fun x t e => by cases e⟩
  | (p, s) :: ps, vs, h => by
    cases h with
    | cons h1 h2 =>
      rename_i v vs
      refine ⟨fun x t e => ?_⟩
      simp only [gam0] at e
      simp only [ev0]
      by_cases hx : x = p
      · rw [if_pos hx] at e ⊢; cases e; exact ⟨v, rfl, h1⟩
      · rw [if_neg hx] at e ⊢; exact (ev0_ok h2).get x t e
theorem good_F {P : Pg} (hP : PgOk P) {f : Str} {ts : List Ty} {s : Ty} {vs : List Va} (e : P.sig f = some (ts, s)) (hv : HasVs vs ts) : Good P.sig (HasV · s) (denF P f vs) := by
  unfold Pg.sig at e
  obtain ⟨d, hd, e2⟩ := Option.map_eq_some_iff.mp e
  cases e2
  unfold denF
  rw [hd]
  exact good_B d.body (ev0_ok hv) (hP.at_ok hd).1.body

/-! ### the interpreter's reading -/
structure Rc where
  name : Str
  args : List Va
  up : Option Nat
  res : Option Va
structure Lg where
  begun : List Rc
  made : List (Nat × Str)
inductive Re (α : Type) where
  | ok (a : α) (l : Lg)
  | cut (l : Lg)
def Re.bind {α β : Type} (r : Re α) (f : α → Lg → Re β) : Re β := match r with
  | .ok a l => f a l
  | .cut l => .cut l
abbrev Callee := Str → List Va → Nat → Lg → Re Va
def stepL (most at_ : Nat) (k : Str) (l : Lg) : Option Lg := if most ≤ l.made.length then none else some { l with made := l.made ++ [(at_, k)] }
def runW (most at_ : Nat) (cal : Callee) {α : Type} : IT α → Lg → Re α
  | .ret a, l => .ok a l
  | .stp k t, l => match stepL most at_ k.s l with
    | some l' => runW most at_ cal t l'
    | none => .cut l
  | .ask f vs t, l => (cal f vs at_ l).bind fun v l' => runW most at_ cal (t v) l'
  | .great, l => .cut l
theorem runW_bind {most at_ : Nat} {cal : Callee} {α β : Type} {f : α → IT β} : ∀ {t : IT α} {l : Lg}, runW most at_ cal (t.bind f) l = (runW most at_ cal t l).bind fun a l' => runW most at_ cal (f a) l'
  | .ret a, l => rfl
  | .stp k t, l => by
    simp only [IT.bind, runW]
    split
    · exact runW_bind
    · rfl
  | .ask g vs t, l => by
    simp only [IT.bind, runW]
    cases cal g vs at_ l with
    | ok v l' => exact runW_bind
    | cut l' => rfl
  | .great, l => rfl
def begin_ (most : Nat) (f : Str) (vs : List Va) (up : Option Nat) (l : Lg) : Option Lg := (stepL most l.begun.length "call" l).map fun l' => { l' with begun := l'.begun ++ [⟨f, vs, up, none⟩] }
def end_ (at_ : Nat) (v : Va) (l : Lg) : Lg := { l with begun := l.begun.modify at_ fun r => { r with res := some v } }
def runP (P : Pg) (most : Nat) : Nat → Str → List Va → Option Nat → Lg → Re Va
  | 0, _, _, _, l => .cut l
  | d + 1, f, vs, up, l => match begin_ most f vs up l with
    | none => .cut l
    | some l1 => (runW most l.begun.length (fun f vs a l => runP P most d f vs (some a) l) (denF P f vs) l1).bind fun v l2 => .ok v (end_ l.begun.length v l2)
end Wk
set_option maxRecDepth 100000
set_option maxHeartbeats 4000000
/-! P3: more of computing: subscripts, loops; the checks of values. -/
namespace Wk
open PySem PySem.Spec PyProof.Rows L2

section
variable (h : AH) (k : SK) (a b c d e f g : U) (us : List U)
theorem atI_ofNat {α : Type} {xs : List α} {n : Nat} {x : α} (e : xs[n]? = some x) : atI xs (n : Int) = some x := by
  have hn := (List.getElem?_eq_some_iff.mp e).1
  unfold atI ixN
  rw [if_pos (by omega), if_pos (by omega)]
  simpa using e
theorem atI_ofNat_none {α : Type} {xs : List α} {n : Nat} (e : xs.length ≤ n) : atI xs (n : Int) = none := by
  unfold atI ixN
  rw [if_pos (by omega), if_neg (by omega)]
  rfl
theorem atI_neg1 {α : Type} {xs : List α} {x : α} : atI (xs ++ [x]) (-1) = some x := by
  unfold atI ixN
  rw [if_neg (by omega), if_pos (by simp; omega)]
  have : (-1 + ((xs ++ [x]).length : Int)).toNat = xs.length := by simp; omega
  simp only [Option.bind_some, this]
  simp
@[simp] theorem sIx_seq (i : Int) : sIx (.seq k us) (.int i) h = match atI us i with
  | some x => .ok x h
  | none => .bad := rfl
@[simp] theorem at0 : atI (a :: us) 0 = some a := atI_ofNat (n := 0) rfl
@[simp] theorem at1 : atI (a :: b :: us) 1 = some b := atI_ofNat (n := 1) rfl
@[simp] theorem at2 : atI (a :: b :: c :: us) 2 = some c := atI_ofNat (n := 2) rfl
@[simp] theorem at3 : atI (a :: b :: c :: d :: us) 3 = some d := atI_ofNat (n := 3) rfl
@[simp] theorem at4 : atI (a :: b :: c :: d :: e :: us) 4 = some e := atI_ofNat (n := 4) rfl
@[simp] theorem at5 : atI (a :: b :: c :: d :: e :: f :: us) 5 = some f := atI_ofNat (n := 5) rfl
@[simp] theorem at6 : atI (a :: b :: c :: d :: e :: f :: g :: us) 6 = some g := atI_ofNat (n := 6) rfl
@[simp] theorem get_new (x : MO) : (h ++ [x])[h.length]? = some x := by simp
@[simp] theorem set_new (x y : MO) : (h ++ [x]).set h.length y = h ++ [y] := by simp [List.set_append]
@[simp] theorem sSl_tail (a : U) (us : List U) : sSl (.seq .tup (a :: us)) (some 1) none h = .ok (.seq .tup us) h := by
  have h1 : HT.sIx (us.length + 1) 0 (some 1) = 1 := by
    have := HT.sIx_nat (us.length + 1) 0 1
    rw [show (some ((1 : Nat) : Int)) = some 1 from rfl] at this
    rw [this]; omega
  have h2 : HT.sIx (us.length + 1) (us.length + 1) none = us.length + 1 := HT.sIx_none _ _
  simp [sSl, cutU, h1, h2]
end

/-! ### loops over what nobody writes -/
def loopF (f : U → Loc → AH → OutS) : List U → Loc → AH → OutS
  | [], ls, h => .nx ls h
  | u :: us, ls, h => match f u ls h with
    | .nx l k => loopF f us l k
    | .ct l k => loopF f us l k
    | .bk l k => .nx l k
    | o => o
def bodyT (T : Tg) (b : MS) : U → Loc → AH → OutS := fun u ls h => match T u h ls with
  | none => .bad
  | some l => b l h
theorem forL_of {it : Itm} {T : Tg} {b : MS} {us : List U} (hit : ∀ i h, i ≤ us.length → it i h = some us[i]?) : ∀ (n i : Nat) (ls : Loc) (h : AH), i ≤ us.length → us.length < n + i → forL it T b n i ls h = loopF (bodyT T b) (us.drop i) ls h
  | 0, i, ls, h, h1, h2 => by omega
  | n + 1, i, ls, h, h1, h2 => by
    unfold forL
    rw [hit i h h1]
    by_cases hi : i < us.length
    · rw [List.getElem?_eq_getElem hi, List.drop_eq_getElem_cons hi]
      simp only [loopF, bodyT]
      cases T us[i] h ls with
      | none => rfl
      | some l =>
        simp only
        cases b l h with
        | nx l k => exact forL_of hit n (i + 1) l k (by omega) (by omega)
        | ct l k => exact forL_of hit n (i + 1) l k (by omega) (by omega)
        | bk l k => rfl
        | rt u k => rfl
        | cut l k => rfl
        | bad => rfl
    · rw [List.getElem?_eq_none (by omega), List.drop_eq_nil_of_le (by omega)]
      rfl
theorem hit_seq {k : SK} {us : List U} : ∀ i h, i ≤ us.length → itSeq (.seq k us) i h = some us[i]? := fun i h _ => rfl
theorem hit_range {n : Nat} : ∀ i h, i ≤ ((List.range n).map fun (i : Nat) => U.int (i : Int)).length → itRange n i h = some ((List.range n).map fun (i : Nat) => U.int (i : Int))[i]? := fun i h hi => by
  unfold itRange
  by_cases h1 : i < n
  · have : (i : Int) < n := by omega
    rw [if_pos this, List.getElem?_eq_getElem (by simpa using h1)]
    simp
  · have : ¬ (i : Int) < n := by omega
    rw [if_neg this, List.getElem?_eq_none (by simpa using h1)]
def zipU : List U → List U → List U
  | a :: as, b :: bs => .seq .tup [a, b] :: zipU as bs
  | _, _ => []
theorem zipU_len : ∀ {as bs : List U}, as.length = bs.length → (zipU as bs).length = as.length
  | [], [], _ => rfl
  | a :: as, b :: bs, h => by simp [zipU, zipU_len (as := as) (bs := bs) (by simpa using h)]
theorem zipU_get : ∀ {as bs : List U} (i : Nat), as.length = bs.length → (zipU as bs)[i]? = match as[i]?, bs[i]? with
    | some a, some b => some (.seq .tup [a, b])
    | _, _ => none
  | [], [], i, _ => by simp [zipU]
  | a :: as, b :: bs, 0, _ => by simp [zipU]
  | a :: as, b :: bs, i + 1, h => by simp [zipU, zipU_get (as := as) (bs := bs) i (by simpa using h)]
theorem hit_zip {k k' : SK} {us ws : List U} (hl : us.length = ws.length) : ∀ i h, i ≤ (zipU us ws).length → itZip (.seq k us) (.seq k' ws) i h = some (zipU us ws)[i]? := fun i h hi => by
  rw [zipU_len hl] at hi
  unfold itZip
  simp only [asSeq]
  rw [if_pos ⟨hi, by omega⟩, zipU_get i hl]
  first
  | done
  | (cases us[i]? <;> cases ws[i]? <;> rfl)

/-! ### comprehensions -/
def compF (c : U → AH → Out Bool) (f : U → AH → Out U) : List U → List U → AH → Out (List U)
  | [], acc, h => .ok acc h
  | u :: us, acc, h => (c u h).bind fun b h1 => if b then (f u h1).bind fun y h2 => if acc.length ≤ 999 then compF c f us (acc ++ [y]) h2 else .bad else compF c f us acc h1
theorem lcL_of {it : Itm} {T : Tg} {ct : MT} {me : ME} {ls0 : Loc} {us : List U} {L : U → Loc} (hit : ∀ i h, i ≤ us.length → it i h = some us[i]?) (hT : ∀ u ∈ us, ∀ h, T u h ls0 = some (L u)) :
    ∀ (n i : Nat) (acc : List U) (h : AH), i ≤ us.length → us.length < n + i → lcL it T ct me ls0 n i acc h = compF (fun u h => ct (L u) h) (fun u h => me (L u) h) (us.drop i) acc h
  | 0, i, acc, h, h1, h2 => by omega
  | n + 1, i, acc, h, h1, h2 => by
    unfold lcL
    rw [hit i h h1]
    by_cases hi : i < us.length
    · rw [List.getElem?_eq_getElem hi, List.drop_eq_getElem_cons hi]
      simp only [compF]
      rw [hT _ (List.getElem_mem hi)]
      simp only
      cases ct (L us[i]) h with
      | bad => rfl
      | cut k => rfl
      | ok b k =>
        simp only [Out.bind_ok]
        cases b with
        | false => simp only [Bool.false_eq_true, if_false]; exact lcL_of hit hT n (i + 1) acc k (by omega) (by omega)
        | true =>
          simp only [if_true]
          cases me (L us[i]) k with
          | bad => rfl
          | cut k' => rfl
          | ok y k' =>
            simp only [Out.bind_ok]
            split
            · exact lcL_of hit hT n (i + 1) _ k' (by omega) (by omega)
            · rfl
    · rw [List.getElem?_eq_none (by omega), List.drop_eq_nil_of_le (by omega)]
      rfl

/-! ### checks -/
theorem f_whole_int {k : Nat} {i : Int} {h : AH} (ok : Okh h) : sem (k + 1) .is_whole [.int i] h = .ok (.bl true) h := f_is_whole (a := true) (b := false) ok rfl rfl
theorem loop_row {k : Nat} {h : AH} (ok : Okh h) : ∀ (xs : List Int) (z : U) (o : Option U), ∃ o', loopF (bodyT (tgN 1) (sIf (tNotM (tst (eCall (arity 1 (sem (k + 1) .is_whole)) (aCons (eVar 1) (aNil))))) (sRet (eC (.bl false))) (sNil))) (xs.map .int) [some z, o] h = .nx [some z, o'] h
  | [], z, o => ⟨o, rfl⟩
  | x :: xs, z, o => by
    obtain ⟨o', e⟩ := loop_row (k := k) ok xs z (some (.int x))
    refine ⟨o', ?_⟩
    simp [loopF, bodyT, tgN, f_whole_int ok, e]
theorem f_is_row {k : Nat} {xs : List Int} {h : AH} (ok : Okh h) (hl : xs.length ≤ 900) : sem (k + 2) .is_row [.seq .tup (xs.map .int)] h = .ok (.bl true) h := by
  show runC 2 (m_is_row (sem (k + 1))) _ h = _
  have e : runB 2 (m_is_row (sem (k + 1))) [.seq .tup (xs.map .int)] h = .ok (.bl true) h := by
    obtain ⟨o', e⟩ := loop_row (k := k) ok xs (.seq .tup (xs.map .int)) none
    simp only [m_is_row, runB_ap, sSeq_ap, sIf_ap, sFor_ap, iSeq_ap, eVar_ap, sNil_ap, tNotM_ap, tst_ap, eCall_ap, aCons_ap, aNil_ap, bIsi, isA]
    simp [asSeq]
    rw [forL_of hit_seq NN 0 _ _ (by simp) (by simp [NN]; omega)]
    simp [e]
  rw [runC_ap, e]
  exact clean_same rfl ok rfl

/-- what stands on the stack, in turns -/
def todo : List Tr → Nat
  | [] => 0
  | t :: ts => 2 * t.size + 1 + todo ts
def sizes : List Tr → Nat
  | [] => 0
  | t :: ts => t.size + sizes ts
theorem todo_app : ∀ {a b : List Tr}, todo (a ++ b) = todo a + todo b
  | [], b => by simp [todo]
  | t :: a, b => by simp [todo, todo_app (a := a) (b := b)]; omega
theorem sizes_app : ∀ {a b : List Tr}, sizes (a ++ b) = sizes a + sizes b
  | [], b => by simp [sizes]
  | t :: a, b => by simp [sizes, sizes_app (a := a) (b := b)]; omega
theorem last_dl {α : Type} {xs : List α} {x : α} : (xs ++ [x])[(xs ++ [x]).length - 1]? = some x ∧ (xs ++ [x]).dropLast = xs := by simp
theorem app_two {α : Type} (xs : List α) (a b : α) : xs ++ [a] ++ [b] = xs ++ [a, b] := by simp
theorem todo_len : ∀ ts : List Tr, ts.length ≤ todo ts
  | [] => by simp
  | t :: ts => by have := todo_len ts; simp [todo]; omega
theorem trs_pure : ∀ ts : List Tr, pureUs (ts.map Tr.u) = true
  | [] => rfl
  | t :: ts => by simp [pureUs, t.pure, trs_pure ts]
theorem while_tree {k : Nat} {h : AH} (ok : Okh h) : ∀ (n : Nat) (ts : List Tr) (z : U) (o : Option U), todo ts < n → todo ts ≤ 900 →
    ∃ o', whileL (tst (eOp sGt (eCall bLen (aCons (eVar 1) (aNil))) (eC (.int 0)))) (sSeq (sSet 2 (eMt0 mtPop (eVar 1))) (sSeq (sIf (tst (eOp sIsN (eVar 2) (eC .non))) (sCont) (sNil)) (sSeq (sIf (tOrM (tNotM (tst (eCall (bIsi .tuple) (aCons (eVar 2) aNil)))) (tOrM (tst (eOp sNe (eCall bLen (aCons (eVar 2) (aNil))) (eC (.int 3)))) (tNotM (tst (eCall (arity 1 (sem (k + 1) .is_whole)) (aCons (eOp sIx (eVar 2) (eC (.int 1))) (aNil))))))) (sRet (eC (.bl false))) (sNil)) (sSeq (sExpr (eMt mtAppend (eVar 1) (aCons (eOp sIx (eVar 2) (eC (.int 0))) (aNil)))) (sExpr (eMt mtAppend (eVar 1) (aCons (eOp sIx (eVar 2) (eC (.int 2))) (aNil)))))))) n
      [some z, some (.obj h.length), o] (h ++ [.lst (ts.map Tr.u)]) = .nx [some z, some (.obj h.length), o'] (h ++ [.lst []])
  | 0, ts, z, o, h1, _ => by omega
  | n + 1, ts, z, o, h1, h3 => by
    rcases List.eq_nil_or_concat ts with rfl | ⟨xs, t, rfl⟩
    · refine ⟨o, ?_⟩
      simp [whileL, bLen, asSeq]
    · rw [List.concat_eq_append] at h1 h3 ⊢
      have hlen := todo_len (xs ++ [t])
      rw [todo_app] at h1 h3
      simp only [todo] at h1 h3
      cases t with
      | leaf =>
        obtain ⟨o', e⟩ := while_tree (k := k) ok n xs z (some .non) (by omega) (by omega)
        refine ⟨o', ?_⟩
        simp [whileL, bLen, asSeq, mtPop, isLo, sIsN, isNon, Tr.u]
        exact e
      | node l x r =>
        simp only [Tr.size] at h1 h3
        obtain ⟨o', e⟩ := while_tree (k := k) ok n (xs ++ [l, r]) z (some (Tr.node l x r).u) (by rw [todo_app]; simp only [todo]; omega) (by rw [todo_app]; simp only [todo]; omega)
        refine ⟨o', ?_⟩
        have hx : xs.length ≤ 900 := Nat.le_trans (todo_len xs) (by omega)
        have hx1 : xs.length ≤ 999 := by omega
        have hx2 : xs.length + 1 ≤ 999 := by omega
        have hx3 : xs.length ≤ 998 := by omega
        have okn : Okh (h ++ [.lst (xs.map Tr.u)]) := ok.app (belows_pure _ (trs_pure xs))
        simp only [List.map_append, List.map_cons, List.map_nil] at e
        simp [whileL, bLen, asSeq, mtPop, isLo, sIsN, isNon, Tr.u, bIsi, isA, sNe_int, f_whole_int okn, mtAppend, hx1, hx2, hx3]
        simp [Tr.u] at e
        exact e
end Wk
set_option maxRecDepth 100000
set_option maxHeartbeats 4000000
/-! P4: sizes, fits; the log. -/
namespace Wk
open PySem PySem.Spec PyProof.Rows L2

theorem f_is_tree {k : Nat} {t : Tr} {h : AH} (ok : Okh h) (hl : t.size ≤ 400) : sem (k + 2) .is_tree [t.u] h = .ok (.bl true) h := by
  show runC 3 (m_is_tree (sem (k + 1))) _ h = _
  have e : runB 3 (m_is_tree (sem (k + 1))) [t.u] h = .ok (.bl true) (h ++ [.lst []]) := by
    obtain ⟨o', e⟩ := while_tree (k := k) ok NN [t] t.u none (by simp [todo, NN]; omega) (by simp [todo]; omega)
    simp only [List.map_cons, List.map_nil] at e
    simp only [m_is_tree, runB_ap, sSeq_ap, sWhile_ap, sSet_ap, eNew_ap, eVar_ap, aCons_ap, aNil_ap]
    simp
    rw [e]
    simp
  rw [runC_ap, e]
  exact clean_app rfl ok rfl
theorem while_size {k : Nat} {h : AH} : ∀ (n : Nat) (ts : List Tr) (z z2 : U) (m : Int) (o : Option U), todo ts < n → todo ts ≤ 900 →
    ∃ o', whileL (tst (eOp sGt (eCall bLen (aCons (eVar 3) (aNil))) (eC (.int 0)))) (sSeq (sSet 4 (eMt0 mtPop (eVar 3))) (sIf (tst (eOp sNotN (eVar 4) (eC .non))) (sSeq (sInc 2 (eC (.int 1))) (sSeq (sExpr (eMt mtAppend (eVar 3) (aCons (eOp sIx (eVar 4) (eC (.int 0))) (aNil)))) (sExpr (eMt mtAppend (eVar 3) (aCons (eOp sIx (eVar 4) (eC (.int 2))) (aNil)))))) (sNil))) n
      [some z, some z2, some (.int m), some (.obj h.length), o] (h ++ [.lst (ts.map Tr.u)]) = .nx [some z, some z2, some (.int (m + sizes ts)), some (.obj h.length), o'] (h ++ [.lst []])
  | 0, ts, z, z2, m, o, h1, _ => by omega
  | n + 1, ts, z, z2, m, o, h1, h3 => by
    rcases List.eq_nil_or_concat ts with rfl | ⟨xs, t, rfl⟩
    · refine ⟨o, ?_⟩
      simp [whileL, bLen, asSeq, sizes]
    · rw [List.concat_eq_append] at h1 h3 ⊢
      rw [todo_app] at h1 h3
      simp only [todo] at h1 h3
      cases t with
      | leaf =>
        obtain ⟨o', e⟩ := while_size (k := k) n xs z z2 m (some .non) (by omega) (by omega)
        refine ⟨o', ?_⟩
        simp [whileL, bLen, asSeq, mtPop, isLo, sNotN, isNon, Tr.u, sizes_app, sizes, Tr.size]
        exact e
      | node l x r =>
        simp only [Tr.size] at h1 h3
        obtain ⟨o', e⟩ := while_size (k := k) n (xs ++ [l, r]) z z2 (m + 1) (some (Tr.node l x r).u) (by rw [todo_app]; simp only [todo]; omega) (by rw [todo_app]; simp only [todo]; omega)
        refine ⟨o', ?_⟩
        have hx : xs.length ≤ 900 := Nat.le_trans (todo_len xs) (by omega)
        have hx1 : xs.length ≤ 999 := by omega
        have hx2 : xs.length + 1 ≤ 999 := by omega
        have hx3 : xs.length ≤ 998 := by omega
        simp only [List.map_append, List.map_cons, List.map_nil] at e
        have es : m + 1 + ((sizes (xs ++ [l, r]) : Nat) : Int) = m + ((sizes (xs ++ [Tr.node l x r]) : Nat) : Int) := by
          rw [sizes_app, sizes_app]; simp only [sizes, Tr.size]; omega
        rw [es] at e
        simp [whileL, bLen, asSeq, mtPop, isLo, sNotN, isNon, Tr.u, mtAppend, hx1, hx2, hx3]
        simp [Tr.u] at e
        exact e
theorem f_size_tree {k : Nat} {t : Tr} {h : AH} (ok : Okh h) (hl : t.size ≤ 400) : sem (k + 1) .size_of [.str "tree", t.u] h = .ok (.int t.size) h := by
  show runC 5 (m_size_of (sem k)) _ h = _
  have e : runB 5 (m_size_of (sem k)) [.str "tree", t.u] h = .ok (.int t.size) (h ++ [.lst []]) := by
    obtain ⟨o', e⟩ := while_size (k := k) (h := h) NN [t] (.str "tree") t.u 0 none (by simp [todo, NN]; omega) (by simp [todo]; omega)
    simp only [List.map_cons, List.map_nil] at e
    simp only [m_size_of, runB_ap, sSeq_ap, sWhile_ap, sSet_ap, eNew_ap, eVar_ap, aCons_ap, aNil_ap]
    simp (decide := true) [sEq_str]
    rw [e]
    simp [sizes]
  rw [runC_ap, e]
  exact clean_app rfl ok rfl
theorem f_fits {k : Nat} {v : Va} {t : Ty} {h : AH} (ok : Okh h) (hv : HasV v t) : sem (k + 3) .fits [t.u, v.u] h = .ok (.bl true) h := by
  show runC 2 (m_fits (sem (k + 2))) _ h = _
  have e : runB 2 (m_fits (sem (k + 2))) [t.u, v.u] h = .ok (.bl true) h := by
    cases t with
    | num =>
      obtain ⟨i, rfl⟩ := hv.num
      simp (decide := true) [m_fits, Ty.u, Ty.s, Va.u, sEq_str, f_whole_int ok]
    | list =>
      obtain ⟨xs, rfl, hl⟩ := hv.list
      have e2 := f_is_row (k := k) (xs := xs) ok (by omega)
      simp (decide := true) [m_fits, Ty.u, Ty.s, Va.u, sEq_str, e2]
    | tree =>
      obtain ⟨tr, rfl, hl⟩ := hv.tree
      have e2 := f_is_tree (k := k) (t := tr) ok (by omega)
      simp (decide := true) [m_fits, Ty.u, Ty.s, Va.u, sEq_str, e2]
  rw [runC_ap, e]
  exact clean_same rfl ok rfl

/-! ### the log -/
def opU : Option Nat → U
  | none => .non
  | some n => .int n
def valU : Option Va → U
  | none => .non
  | some v => v.u
def Rc.u (r : Rc) : U := .seq .tup [.str r.name, .seq .tup (r.args.map Va.u), opU r.up, .bl r.res.isSome, valU r.res]
def stepU (s : Nat × Str) : U := .seq .tup [.int s.1, .str s.2]
structure LogAt (h : AH) (p most : Nat) (l : Lg) : Prop where
  ins : h[p]? = some (.ins [("most", .int most), ("begun", .obj (p + 1)), ("made", .obj (p + 2))])
  bg : h[p + 1]? = some (.lst (l.begun.map Rc.u))
  md : h[p + 2]? = some (.lst (l.made.map stepU))
def setL (h : AH) (p : Nat) (l : Lg) : AH := (h.set (p + 1) (.lst (l.begun.map Rc.u))).set (p + 2) (.lst (l.made.map stepU))
theorem LogAt.lt {h : AH} {p most : Nat} {l : Lg} (x : LogAt h p most l) : p + 2 < h.length := (List.getElem?_eq_some_iff.mp x.md).1
theorem LogAt.same {h : AH} {p most : Nat} {l : Lg} (x : LogAt h p most l) : setL h p l = h := by
  unfold setL
  refine List.ext_getElem? fun i => ?_
  by_cases h2 : i = p + 2
  · subst h2
    rw [List.getElem?_set_self (by simpa using x.lt), x.md]
  · rw [List.getElem?_set_ne (Ne.symm h2)]
    by_cases h1 : i = p + 1
    · subst h1
      rw [List.getElem?_set_self (by have := x.lt; omega), x.bg]
    · rw [List.getElem?_set_ne (Ne.symm h1)]
@[simp] theorem setL_len (h : AH) (p : Nat) (l : Lg) : (setL h p l).length = h.length := by simp [setL]
theorem setL_get {h : AH} {p i : Nat} {l : Lg} (h1 : i ≠ p + 1) (h2 : i ≠ p + 2) : (setL h p l)[i]? = h[i]? := by
  unfold setL
  rw [List.getElem?_set_ne (Ne.symm h2), List.getElem?_set_ne (Ne.symm h1)]
theorem LogAt.set {h : AH} {p most : Nat} {l : Lg} (x : LogAt h p most l) (l' : Lg) : LogAt (setL h p l') p most l' := by
  refine ⟨by rw [setL_get (by omega) (by omega)]; exact x.ins, ?_, ?_⟩
  · unfold setL
    rw [List.getElem?_set_ne (by omega), List.getElem?_set_self (by have := x.lt; omega)]
  · unfold setL
    rw [List.getElem?_set_self (by simpa using x.lt)]
theorem setL_setL {h : AH} {p : Nat} {l l' : Lg} : setL (setL h p l) p l' = setL h p l' := by
  unfold setL
  rw [List.set_comm _ _ (by omega : p + 2 ≠ p + 1), List.set_set, List.set_set]
theorem setL_app {h t : AH} {p : Nat} {l : Lg} (hp : p + 2 < h.length) : setL (h ++ t) p l = setL h p l ++ t := by
  unfold setL
  rw [List.set_append_left _ _ (by omega), List.set_append_left _ _ (by simpa using hp)]
theorem setL_setO {h : AH} {p q : Nat} {l : Lg} {o : MO} (h1 : q ≠ p + 1) (h2 : q ≠ p + 2) : setL (h.set q o) p l = (setL h p l).set q o := by
  unfold setL
  rw [List.set_comm _ _ h1, List.set_comm _ _ h2]
theorem vas_pure : ∀ vs : List Va, pureUs (vs.map Va.u) = true
  | [] => rfl
  | v :: vs => by simp [pureUs, v.pure, vas_pure vs]
theorem Rc.pure (r : Rc) : pureU r.u = true := by
  obtain ⟨a, b, c, d⟩ := r
  cases c <;> cases d <;> simp [Rc.u, pureU, pureUs, vas_pure, opU, valU, Va.pure]
theorem rcs_pure : ∀ rs : List Rc, pureUs (rs.map Rc.u) = true
  | [] => rfl
  | r :: rs => by simp [pureUs, r.pure, rcs_pure rs]
theorem steps_pure : ∀ rs : List (Nat × Str), pureUs (rs.map stepU) = true
  | [] => rfl
  | r :: rs => by simp [pureUs, stepU, pureU, steps_pure rs]
theorem Okh.setL {h : AH} {p : Nat} {l : Lg} (ok : Okh h) : Okh (Wk.setL h p l) :=
  (ok.set (x := .lst (l.begun.map Rc.u)) (belows_pure (n := h.length) (l.begun.map Rc.u) (rcs_pure _))).set (x := .lst (l.made.map stepU)) (belows_pure (n := (h.set (p + 1) (.lst (l.begun.map Rc.u))).length) (l.made.map stepU) (steps_pure _))
@[simp] theorem lk_most (a b c : U) : List.lookup ("most" : Str) [("most", a), ("begun", b), ("made", c)] = some a := rfl
@[simp] theorem lk_begun (a b c : U) : List.lookup ("begun" : Str) [("most", a), ("begun", b), ("made", c)] = some b := rfl
@[simp] theorem lk_made (a b c : U) : List.lookup ("made" : Str) [("most", a), ("begun", b), ("made", c)] = some c := rfl
@[simp] theorem lk_step (a b c : U) : List.lookup ("step" : Str) [("most", a), ("begun", b), ("made", c)] = none := rfl
@[simp] theorem lk_begin (a b c : U) : List.lookup ("begin" : Str) [("most", a), ("begun", b), ("made", c)] = none := rfl
@[simp] theorem lk_end (a b c : U) : List.lookup ("end" : Str) [("most", a), ("begun", b), ("made", c)] = none := rfl
/-- what the log does, as an outcome -/
def reOut {α : Type} (f : α → U) (h : AH) (p : Nat) : Re α → Out U
  | .ok a l => .ok (f a) (setL h p l)
  | .cut l => .cut (setL h p l)
theorem f_step {k : Nat} {h : AH} {p most a : Nat} {s : Str} {l : Lg} (x : LogAt h p most l) (ok : Okh h) (hm : most ≤ 900) :
    sem (k + 1) .log_step [.obj p, .int a, .str s] h = match stepL most a s l with
      | some l' => .ok .non (setL h p l')
      | none => .cut h := by
  show runC 3 (m_log_step (sem k)) _ h = _
  have hb : ((l.made.map stepU).length : Int) = l.made.length := by simp
  by_cases hc : most ≤ l.made.length
  · have e : runB 3 (m_log_step (sem k)) [.obj p, .int a, .str s] h = .cut h := by
      have : (most : Int) ≤ (l.made.length : Int) := by omega
      simp [m_log_step, sFl, asI, x.ins, x.md, bLen, asSeq, this]
    rw [runC_ap, e]
    simp only [stepL, if_pos hc]
    exact clean_sameC rfl ok
  · have e : runB 3 (m_log_step (sem k)) [.obj p, .int a, .str s] h = .ok .non (setL h p { l with made := l.made ++ [(a, s)] }) := by
      have h1 : ¬ (most : Int) ≤ (l.made.length : Int) := by omega
      have h2 : l.made.length ≤ 999 := by omega
      have e2 : h.set (p + 2) (.lst (l.made.map stepU ++ [stepU (a, s)])) = setL h p { l with made := l.made ++ [(a, s)] } := by
        have := x.same
        conv => lhs; rw [← this]
        unfold setL
        simp [List.set_set]
      simp [m_log_step, sFl, asI, x.ins, x.md, bLen, asSeq, h1, isLo, mtAppend, h2]
      exact e2
    rw [runC_ap, e]
    simp only [stepL, if_neg hc]
    exact clean_same (by simp) ok.setL rfl
end Wk
set_option maxRecDepth 100000
set_option maxHeartbeats 4000000
/-! P5: begin, end; function_of, made_of. -/
namespace Wk
open PySem PySem.Spec PyProof.Rows L2

theorem setL_bg {h : AH} {p most : Nat} {l : Lg} (x : LogAt h p most l) (b : List Rc) : h.set (p + 1) (.lst (b.map Rc.u)) = setL h p { l with begun := b } := by
  unfold setL
  refine List.ext_getElem? fun i => ?_
  by_cases h2 : i = p + 2
  · subst h2
    rw [List.getElem?_set_self (by simpa using x.lt), List.getElem?_set_ne (by omega), x.md]
  · rw [List.getElem?_set_ne (Ne.symm h2) (l := h.set (p + 1) _)]
theorem f_begin {k : Nat} {h : AH} {p most : Nat} {f : Str} {vs : List Va} {up : Option Nat} {l : Lg} (x : LogAt h p most l) (ok : Okh h) (hm : most ≤ 900) (hb : l.begun.length ≤ 900) (hv : vs.length ≤ 900) :
    sem (k + 2) .log_begin [.obj p, .str f, .seq .lst (vs.map Va.u), opU up] h = match begin_ most f vs up l with
      | some l' => .ok (.int l.begun.length) (setL h p l')
      | none => .cut h := by
  show runC 5 (m_log_begin (sem (k + 1))) _ h = _
  have e1 := f_step (k := k) (a := l.begun.length) (s := "call") x ok hm
  unfold begin_
  cases hs : stepL most l.begun.length "call" l with
  | none =>
    rw [hs] at e1
    have e : runB 5 (m_log_begin (sem (k + 1))) [.obj p, .str f, .seq .lst (vs.map Va.u), opU up] h = .cut h := by
      simp [m_log_begin, sFl, asI, x.ins, x.bg, bLen, asSeq, isIns, e1]
    rw [runC_ap, e]
    exact clean_sameC rfl ok
  | some l1 =>
    rw [hs] at e1
    have e : runB 5 (m_log_begin (sem (k + 1))) [.obj p, .str f, .seq .lst (vs.map Va.u), opU up] h = .ok (.int l.begun.length) (setL h p { l1 with begun := l1.begun ++ [⟨f, vs, up, none⟩] }) := by
      have hl1 : l1.begun = l.begun := by
        unfold stepL at hs
        split at hs
        · cases hs
        · cases hs; rfl
      have x1 := x.set l1
      have hlen : l1.begun.length ≤ 999 := by rw [hl1]; omega
      have h3 := setL_bg x1 (l1.begun ++ [⟨f, vs, up, none⟩])
      rw [setL_setL] at h3
      rw [← h3]
      simp [m_log_begin, sFl, asI, x.ins, x.bg, x1.ins, x1.bg, bLen, asSeq, isIns, e1, isLo, mtAppend, hlen, bTuple, Rc.u, valU]
    rw [runC_ap, e]
    simp only [Option.map_some]
    exact clean_same (by simp) ok.setL rfl
theorem modify_u {rs : List Rc} {a : Nat} {v : Va} (r : Rc) (hr : rs[a]? = some r) : (rs.map Rc.u).set a (.seq .tup [.str r.name, .seq .tup (r.args.map Va.u), opU r.up, .bl true, v.u]) = (rs.modify a fun r => { r with res := some v }).map Rc.u := by
  refine List.ext_getElem? fun i => ?_
  rw [List.getElem?_map, List.getElem?_modify]
  by_cases e : a = i
  · subst e
    have hl := (List.getElem?_eq_some_iff.mp hr).1
    rw [List.getElem?_set_self (by simpa using hl), hr]
    simp [Rc.u, valU]
  · rw [List.getElem?_set_ne e, List.getElem?_map]
    simp [e]
theorem f_end {k : Nat} {h : AH} {p most a : Nat} {v : Va} {l : Lg} (x : LogAt h p most l) (ok : Okh h) (ha : a < l.begun.length) :
    sem (k + 1) .log_end [.obj p, .int a, v.u] h = .ok .non (setL h p (end_ a v l)) := by
  show runC 8 (m_log_end (sem k)) _ h = _
  have e : runB 8 (m_log_end (sem k)) [.obj p, .int a, v.u] h = .ok .non (setL h p (end_ a v l)) := by
    obtain ⟨r, hr⟩ : ∃ r, l.begun[a]? = some r := ⟨_, List.getElem?_eq_getElem ha⟩
    have h1 : atI (l.begun.map Rc.u) (a : Int) = some r.u := atI_ofNat (by rw [List.getElem?_map, hr]; rfl)
    have h2 : ixN (l.begun.map Rc.u).length (a : Int) = some a := by
      unfold ixN
      rw [if_pos (by omega), if_pos (by simp; omega)]
      simp
    have h3 := setL_bg x (l.begun.modify a fun r => { r with res := some v })
    rw [← modify_u r hr] at h3
    have e2 : end_ a v l = { l with begun := l.begun.modify a fun r => { r with res := some v } } := rfl
    rw [e2, ← h3]
    have h4 : ixN l.begun.length (a : Int) = some a := by simpa using h2
    simp [m_log_end, sFl, asI, x.ins, x.bg, asSeq, sIx, h1, Rc.u, tgT, asT, setMany, stL, h4]
  rw [runC_ap, e]
  exact clean_same (by simp) ok.setL rfl

/-! ### a function by its name -/
theorem Ty.ok (t : Ty) : PyData.strOk t.s = true := by cases t <;> simp [Ty.s]
mutual
theorem Ex.pure : ∀ e : Ex, pureU e.u = true
  | .num i => by simp [Ex.u, pureU, pureUs]
  | .var i => by simp [Ex.u, pureU, pureUs]
  | .nil => by simp [Ex.u, pureU, pureUs]
  | .leaf => by simp [Ex.u, pureU, pureUs]
  | .add a b => by simp [Ex.u, pureU, pureUs, a.pure, b.pure]
  | .sub a b => by simp [Ex.u, pureU, pureUs, a.pure, b.pure]
  | .cons a b => by simp [Ex.u, pureU, pureUs, a.pure, b.pure]
  | .node a b c => by simp [Ex.u, pureU, pureUs, a.pure, b.pure, c.pure]
  | .call f es => by simp [Ex.u, pureU, pureUs, Ex.pures es]
theorem Ex.pures : ∀ es : List Ex, pureUs (Ex.us es) = true
  | [] => rfl
  | e :: es => by simp [Ex.us, pureUs, e.pure, Ex.pures es]
end
theorem Bd.pure : ∀ b : Bd, pureU b.u = true
  | .give e => by simp [Bd.u, pureU, pureUs, e.pure]
  | .elet x e b => by simp [Bd.u, pureU, pureUs, e.pure, b.pure]
  | .less a b p q => by simp [Bd.u, pureU, pureUs, a.pure, b.pure, p.pure, q.pure]
  | .olist x nb h t cb => by simp [Bd.u, pureU, pureUs, nb.pure, cb.pure]
  | .otree x lb l v r nb => by simp [Bd.u, pureU, pureUs, lb.pure, nb.pure]
theorem prms_pure : ∀ ps : List (Str × Ty), pureUs (ps.map prmU) = true
  | [] => rfl
  | p :: ps => by simp [pureUs, prmU, pureU, Ty.u, prms_pure ps]
theorem Fd.pure (d : Fd) : pureU d.u = true := by
  simp [Fd.u, Fd.head, pureU, pureUs, prms_pure, Ty.u, ints_pure, d.body.pure]
theorem fds_pure : ∀ ds : List Fd, pureUs (ds.map Fd.u) = true
  | [] => rfl
  | d :: ds => by simp [pureUs, d.pure, fds_pure ds]
theorem loop_fun {h : AH} {f : Str} (hf : PyData.strOk f = true) : ∀ (P : List Fd) (z : U) (o : Option U), (∀ d ∈ P, PyData.strOk d.name = true) →
    loopF (bodyT (tgN 2) (sIf (tst (eOp sEq (eOp sIx (eVar 2) (eC (.int 0))) (eVar 1))) (sRet (eVar 2)) (sNil))) (P.map Fd.u) [some z, some (.str f), o] h =
      match P.find? fun d => decide (d.name = f) with
      | some d => .rt d.u h
      | none => .nx [some z, some (.str f), if P = [] then o else (P.getLast?).map Fd.u] h
  | [], z, o, _ => by simp [loopF]
  | d :: P, z, o, hP => by
    have h1 := hP d (by simp)
    have ih := loop_fun (h := h) hf P z (some d.u) fun e he => hP e (by simp [he])
    by_cases e : d.name = f
    · have : (d :: P).find? (fun d => decide (d.name = f)) = some d := by simp [e]
      rw [this]
      simp [loopF, bodyT, tgN, Fd.u, Fd.head, sEq_str hf hf, e]
    · have : (d :: P).find? (fun d => decide (d.name = f)) = P.find? (fun d => decide (d.name = f)) := by simp [e]
      rw [this]
      have hd : sIx d.u (.int 0) h = .ok (.str d.name) h := by simp [Fd.u, Fd.head]
      simp only [List.map_cons, loopF, bodyT, tgN]
      simp [hd, sEq_str h1 hf, e, ih]
      cases P.find? (fun d => decide (d.name = f)) with
      | some d' => rfl
      | none =>
        cases P with
        | nil => simp
        | cons a t => simp
theorem f_function_of {k : Nat} {h : AH} {P : Pg} {f : Str} (hP : PgOk P) (ok : Okh h) (hf : PyData.strOk f = true) :
    sem (k + 1) .function_of [P.u, .str f] h = .ok (match P.at f with | some d => d.u | none => .non) h := by
  show runC 3 (m_function_of (sem k)) _ h = _
  have e : runB 3 (m_function_of (sem k)) [P.u, .str f] h = .ok (match P.at f with | some d => d.u | none => .non) h := by
    have := loop_fun (h := h) hf P P.u none fun d hd => (hP.ok d hd).str
    simp only [m_function_of, runB_ap, sSeq_ap, sFor_ap, iSeq_ap, eVar_ap]
    simp [Pg.u, asSeq]
    have hfew := hP.few
    rw [forL_of hit_seq NN 0 _ _ (by simp) (by simp [NN]; omega)]
    simp only [Pg.u] at this
    simp only [List.drop_zero, this]
    unfold Pg.at
    cases P.find? (fun d => decide (d.name = f)) with
    | some d => rfl
    | none => simp
  rw [runC_ap, e]
  refine clean_same rfl ok ?_
  cases P.at f with
  | none => rfl
  | some d => exact below_pure _ d.pure

/-! ### what is made -/
def reMade (h : AH) (p : Nat) (o : Option Lg) (u : U) : Out U := match o with
  | some l' => .ok u (setL h p l')
  | none => .cut h
theorem stepL_bg {most a : Nat} {s : Str} {l l' : Lg} (e : stepL most a s l = some l') : l'.begun = l.begun := by
  unfold stepL at e
  split at e
  · cases e
  · cases e; rfl
theorem f_made_add {k : Nat} {h : AH} {p most a : Nat} {l : Lg} {x y : Int} (lx : LogAt h p most l) (ok : Okh h) (hm : most ≤ 900) :
    sem (k + 2) .made_of [.str "add", .seq .lst [.int x, .int y], .int a, .obj p] h = reMade h p (stepL most a "sum" l) (.int (x + y)) := by
  show runC 4 (m_made_of (sem (k + 1))) _ h = _
  have e1 := f_step (k := k) (a := a) (s := "sum") lx ok hm
  cases hs : stepL most a "sum" l with
  | none =>
    rw [hs] at e1
    have e : runB 4 (m_made_of (sem (k + 1))) [.str "add", .seq .lst [.int x, .int y], .int a, .obj p] h = .cut h := by
      simp (decide := true) [m_made_of, sEq_str, isIns, asI, lx.ins, e1]
    rw [runC_ap, e]
    exact clean_sameC rfl ok
  | some l1 =>
    rw [hs] at e1
    have e : runB 4 (m_made_of (sem (k + 1))) [.str "add", .seq .lst [.int x, .int y], .int a, .obj p] h = .ok (.int (x + y)) (setL h p l1) := by
      simp (decide := true) [m_made_of, sEq_str, isIns, asI, lx.ins, e1]
    rw [runC_ap, e]
    exact clean_same (by simp) ok.setL rfl
theorem f_made_sub {k : Nat} {h : AH} {p most a : Nat} {l : Lg} {x y : Int} (lx : LogAt h p most l) (ok : Okh h) (hm : most ≤ 900) :
    sem (k + 2) .made_of [.str "sub", .seq .lst [.int x, .int y], .int a, .obj p] h = reMade h p (stepL most a "sum" l) (.int (x - y)) := by
  show runC 4 (m_made_of (sem (k + 1))) _ h = _
  have e1 := f_step (k := k) (a := a) (s := "sum") lx ok hm
  cases hs : stepL most a "sum" l with
  | none =>
    rw [hs] at e1
    have e : runB 4 (m_made_of (sem (k + 1))) [.str "sub", .seq .lst [.int x, .int y], .int a, .obj p] h = .cut h := by
      simp (decide := true) [m_made_of, sEq_str, isIns, asI, lx.ins, e1]
    rw [runC_ap, e]
    exact clean_sameC rfl ok
  | some l1 =>
    rw [hs] at e1
    have e : runB 4 (m_made_of (sem (k + 1))) [.str "sub", .seq .lst [.int x, .int y], .int a, .obj p] h = .ok (.int (x - y)) (setL h p l1) := by
      simp (decide := true) [m_made_of, sEq_str, isIns, asI, lx.ins, e1]
    rw [runC_ap, e]
    exact clean_same (by simp) ok.setL rfl
theorem f_made_cons {k : Nat} {h : AH} {p most a : Nat} {l : Lg} {x : Int} {ys : List Int} (lx : LogAt h p most l) (ok : Okh h) (hm : most ≤ 900) (hy : ys.length ≤ 100) :
    sem (k + 2) .made_of [.str "cons", .seq .lst [.int x, .seq .tup (ys.map U.int)], .int a, .obj p] h = if 100 ≤ ys.length then .cut h else reMade h p (stepL most a "make" l) (.seq .tup ((x :: ys).map U.int)) := by
  show runC 4 (m_made_of (sem (k + 1))) _ h = _
  have e1 := f_step (k := k) (a := a) (s := "make") lx ok hm
  by_cases hc : 100 ≤ ys.length
  · have hc' : (100 : Int) ≤ (ys.length : Int) := by omega
    have e : runB 4 (m_made_of (sem (k + 1))) [.str "cons", .seq .lst [.int x, .seq .tup (ys.map U.int)], .int a, .obj p] h = .cut h := by
      simp (decide := true) [m_made_of, sEq_str, bLen, asSeq, hc']
    rw [runC_ap, e, if_pos hc]
    exact clean_sameC rfl ok
  · have hc' : ¬ (100 : Int) ≤ (ys.length : Int) := by omega
    rw [if_neg hc]
    cases hs : stepL most a "make" l with
    | none =>
      rw [hs] at e1
      have e : runB 4 (m_made_of (sem (k + 1))) [.str "cons", .seq .lst [.int x, .seq .tup (ys.map U.int)], .int a, .obj p] h = .cut h := by
        simp (decide := true) [m_made_of, sEq_str, bLen, asSeq, hc', isIns, asI, lx.ins, e1]
      rw [runC_ap, e]
      exact clean_sameC rfl ok
    | some l1 =>
      rw [hs] at e1
      have h2 : 1 + ys.length ≤ 1000 := by omega
      have e : runB 4 (m_made_of (sem (k + 1))) [.str "cons", .seq .lst [.int x, .seq .tup (ys.map U.int)], .int a, .obj p] h = .ok (.seq .tup ((x :: ys).map U.int)) (setL h p l1) := by
        simp (decide := true) [m_made_of, sEq_str, bLen, asSeq, hc', isIns, asI, lx.ins, e1, sAdd, h2]
      rw [runC_ap, e]
      exact clean_same (by simp) ok.setL (below_pure _ (by simp only [pureU]; exact ints_pure _))
theorem f_made_node {k : Nat} {h : AH} {p most a : Nat} {l : Lg} {x z : Tr} {y : Int} (lx : LogAt h p most l) (ok : Okh h) (hm : most ≤ 900) (hx : x.size ≤ 100) (hz : z.size ≤ 100) :
    sem (k + 2) .made_of [.str "node", .seq .lst [x.u, .int y, z.u], .int a, .obj p] h = if 100 ≤ x.size + z.size then .cut h else reMade h p (stepL most a "make" l) (Tr.node x y z).u := by
  show runC 4 (m_made_of (sem (k + 1))) _ h = _
  have e1 := f_step (k := k) (a := a) (s := "make") lx ok hm
  have s1 := f_size_tree (k := k) (t := x) ok (by omega)
  have s2 := f_size_tree (k := k) (t := z) ok (by omega)
  by_cases hc : 100 ≤ x.size + z.size
  · have hc' : (100 : Int) ≤ (x.size : Int) + (z.size : Int) := by omega
    have e : runB 4 (m_made_of (sem (k + 1))) [.str "node", .seq .lst [x.u, .int y, z.u], .int a, .obj p] h = .cut h := by
      simp (decide := true) [m_made_of, sEq_str, s1, s2, hc']
    rw [runC_ap, e, if_pos hc]
    exact clean_sameC rfl ok
  · have hc' : ¬ (100 : Int) ≤ (x.size : Int) + (z.size : Int) := by omega
    rw [if_neg hc]
    cases hs : stepL most a "make" l with
    | none =>
      rw [hs] at e1
      have e : runB 4 (m_made_of (sem (k + 1))) [.str "node", .seq .lst [x.u, .int y, z.u], .int a, .obj p] h = .cut h := by
        simp (decide := true) [m_made_of, sEq_str, s1, s2, hc', isIns, asI, lx.ins, e1]
      rw [runC_ap, e]
      exact clean_sameC rfl ok
    | some l1 =>
      rw [hs] at e1
      have e : runB 4 (m_made_of (sem (k + 1))) [.str "node", .seq .lst [x.u, .int y, z.u], .int a, .obj p] h = .ok (Tr.node x y z).u (setL h p l1) := by
        simp (decide := true) [m_made_of, sEq_str, s1, s2, hc', isIns, asI, lx.ins, e1, Tr.u]
      rw [runC_ap, e]
      exact clean_same (by simp) ok.setL (below_pure _ (Tr.pure _))
end Wk
set_option maxRecDepth 100000
set_option maxHeartbeats 4000000
/-! P6: the run of a tree; value_by. -/
namespace Wk
open PySem PySem.Spec PyProof.Rows L2

theorem IT.bind_ret {α : Type} : ∀ t : IT α, t.bind .ret = t
  | .ret a => rfl
  | .stp k t => by simp only [IT.bind, IT.bind_ret t]
  | .ask f vs t => by
    simp only [IT.bind]
    exact congrArg _ (funext fun v => IT.bind_ret (t v))
  | .great => rfl
theorem IT.assoc {α β γ : Type} {f : α → IT β} {g : β → IT γ} : ∀ t : IT α, (t.bind f).bind g = t.bind fun a => (f a).bind g
  | .ret a => rfl
  | .stp k t => by simp only [IT.bind, IT.assoc t]
  | .ask h vs t => by
    simp only [IT.bind]
    exact congrArg _ (funext fun v => IT.assoc (t v))
  | .great => rfl

/-! ### what a run keeps -/
structure LgOk (most : Nat) (l : Lg) : Prop where
  le : l.begun.length ≤ l.made.length
  most : l.made.length ≤ most
def Re.lg {α : Type} : Re α → Lg
  | .ok _ l => l
  | .cut l => l
structure Grow (most : Nat) (l l' : Lg) : Prop where
  ok : LgOk most l'
  bg : l.begun.length ≤ l'.begun.length
theorem stepL_grow {most a : Nat} {s : Str} {l l' : Lg} (h : LgOk most l) (e : stepL most a s l = some l') : Grow most l l' := by
  unfold stepL at e
  split at e
  · cases e
  · cases e
    have h1 := h.le
    exact ⟨⟨by simp; omega, by simp; omega⟩, Nat.le_refl _⟩
theorem runW_grow {most a : Nat} {cal : Callee} (hc : ∀ f vs l, LgOk most l → Grow most l (cal f vs a l).lg) {α : Type} : ∀ {t : IT α} {l : Lg}, LgOk most l → Grow most l (runW most a cal t l).lg
  | .ret x, l, h => ⟨h, Nat.le_refl _⟩
  | .stp k t, l, h => by
    unfold runW
    cases e : stepL most a k.s l with
    | none => exact ⟨h, Nat.le_refl _⟩
    | some l' =>
      have g := stepL_grow h e
      have g2 := runW_grow hc (t := t) g.ok
      exact ⟨g2.ok, Nat.le_trans g.bg g2.bg⟩
  | .ask f vs t, l, h => by
    unfold runW
    have g := hc f vs l h
    cases e : cal f vs a l with
    | cut l' => rw [e] at g; exact g
    | ok v l' =>
      rw [e] at g
      have g2 := runW_grow hc (t := t v) g.ok
      exact ⟨g2.ok, Nat.le_trans g.bg g2.bg⟩
  | .great, l, h => ⟨h, Nat.le_refl _⟩
theorem begin_some {most : Nat} {f : Str} {vs : List Va} {up : Option Nat} {l l1 : Lg} (e : begin_ most f vs up l = some l1) : l.made.length < most ∧ l1 = ⟨l.begun ++ [⟨f, vs, up, none⟩], l.made ++ [(l.begun.length, ("call" : Str))]⟩ := by
  unfold begin_ stepL at e
  split at e
  · cases e
  · rename_i h
    simp only [Option.map_some, Option.some.injEq] at e
    exact ⟨by omega, e.symm⟩
theorem runP_grow {P : Pg} {most : Nat} : ∀ (d : Nat) {f : Str} {vs : List Va} {up : Option Nat} {l : Lg}, LgOk most l → Grow most l (runP P most d f vs up l).lg
  | 0, f, vs, up, l, h => ⟨h, Nat.le_refl _⟩
  | d + 1, f, vs, up, l, h => by
    unfold runP
    cases e : begin_ most f vs up l with
    | none => exact ⟨h, Nat.le_refl _⟩
    | some l1 =>
      obtain ⟨h1, rfl⟩ := begin_some e
      have ok1 : LgOk most ⟨l.begun ++ [⟨f, vs, up, none⟩], l.made ++ [(l.begun.length, ("call" : Str))]⟩ := ⟨by have := h.le; simp; omega, by simp; omega⟩
      have g := runW_grow (a := l.begun.length) (cal := fun f vs a l => runP P most d f vs (some a) l) (fun f vs l h => runP_grow d h) (t := denF P f vs) ok1
      simp only
      cases e2 : runW most l.begun.length (fun f vs a l => runP P most d f vs (some a) l) (denF P f vs) ⟨l.begun ++ [⟨f, vs, up, none⟩], l.made ++ [(l.begun.length, ("call" : Str))]⟩ with
      | cut l2 =>
        rw [e2] at g
        refine ⟨g.ok, Nat.le_trans ?_ g.bg⟩
        simp
      | ok v l2 =>
        rw [e2] at g
        have h2 := g.bg
        have h3 : l2.begun.length ≤ l2.made.length := g.ok.le
        refine ⟨⟨by show (l2.begun.modify _ _).length ≤ l2.made.length; simpa using h3, g.ok.most⟩, ?_⟩
        show l.begun.length ≤ (l2.begun.modify _ _).length
        simp only [List.length_modify]
        have : (l.begun ++ [(⟨f, vs, up, none⟩ : Rc)]).length ≤ l2.begun.length := h2
        simp at this
        omega
/-- results keep their shape -/
theorem runW_good {F : Sig} {most a : Nat} {cal : Callee} (hc : ∀ f vs ts s l v l', F f = some (ts, s) → HasVs vs ts → cal f vs a l = .ok v l' → HasV v s) {α : Type} {Q : α → Prop} :
    ∀ {t : IT α} {l l' : Lg} {x : α}, Good F Q t → runW most a cal t l = .ok x l' → Q x
  | .ret x, l, l', y, h, e => by cases e; exact h
  | .stp k t, l, l', y, h, e => by
    unfold runW at e
    split at e
    · exact runW_good hc (t := t) h e
    · cases e
  | .ask f vs t, l, l', y, h, e => by
    obtain ⟨ts, s, h1, h2, h3⟩ := h
    unfold runW at e
    cases e2 : cal f vs a l with
    | cut l2 => rw [e2] at e; cases e
    | ok v l2 =>
      rw [e2] at e
      exact runW_good hc (t := t v) (h3 v (hc f vs ts s l v l2 h1 h2 e2)) e
  | .great, l, l', y, h, e => by cases e
theorem runP_good {P : Pg} (hP : PgOk P) {most : Nat} : ∀ (d : Nat) {f : Str} {vs : List Va} {up : Option Nat} {ts : List Ty} {s : Ty} {l l' : Lg} {v : Va}, P.sig f = some (ts, s) → HasVs vs ts → runP P most d f vs up l = .ok v l' → HasV v s
  | 0, f, vs, up, ts, s, l, l', v, _, _, e => by cases e
  | d + 1, f, vs, up, ts, s, l, l', v, h1, h2, e => by
    unfold runP at e
    cases e1 : begin_ most f vs up l with
    | none => rw [e1] at e; cases e
    | some l1 =>
      rw [e1] at e
      simp only at e
      cases e2 : runW most l.begun.length (fun f vs a l => runP P most d f vs (some a) l) (denF P f vs) l1 with
      | cut l2 => rw [e2] at e; cases e
      | ok w l2 =>
        rw [e2] at e
        cases e
        exact runW_good (F := P.sig) (Q := (HasV · s)) (fun f vs ts s l v l' a b c => runP_good hP d a b c) (good_F hP h1 h2) e2

/-! ### environments -/
structure EnvIn (kvs : List (Str × U)) (E : Ev) : Prop where
  get : ∀ x v, E x = some v → look kvs x = some v.u
theorem EnvIn.put {kvs : List (Str × U)} {E : Ev} (h : EnvIn kvs E) {x : Str} {v : Va} : EnvIn (putD kvs x v.u) (E.put x v) := ⟨fun y w e => by
  rw [look_put]
  unfold Ev.put at e
  by_cases hy : y = x
  · rw [if_pos hy] at e ⊢; cases e; rfl
  · rw [if_neg hy] at e ⊢; exact h.get y w e⟩
def upsU (ups : List Nat) : U := .seq .lst (ups.map fun (n : Nat) => .int n)

/-! ### value_by -/
section
variable (P : Pg) (most d k0 : Nat)
/-- what a call does, from level k0 on -/
def CallOk : Prop := ∀ (k : Nat) (h : AH) (p : Nat) (l : Lg) (f : Str) (vs : List Va) (ts : List Ty) (s : Ty) (ups : List Nat), k0 ≤ k → LogAt h p most l → Okh h → LgOk most l → P.sig f = some (ts, s) → HasVs vs ts → ups.length + d = 20 →
  sem k .call_value [P.u, .str f, .seq .lst (vs.map Va.u), upsU ups, .obj p] h = reOut Va.u h p (runP P most d f vs ups.getLast? l)
def calD : Callee := fun f vs a l => runP P most d f vs (some a) l
def VSpec (e : Ex) : Prop := ∀ (k : Nat) (h : AH) (p q a : Nat) (l : Lg) (E : Ev) (G : Gam) (kvs : List (Str × U)) (t : Ty) (ups : List Nat), k0 + e.dep + 3 ≤ k → LogAt h p most l → Okh h → LgOk most l → tyE P.sig G e t → EvOk G E → h[q]? = some (.dct kvs) → EnvIn kvs E → q ≠ p + 1 → q ≠ p + 2 →
  (ups ++ [a]).length + d = 20 → sem k .value_by [P.u, e.u, .obj q, upsU (ups ++ [a]), .obj p] h = reOut Va.u h p (runW most a (calD P most d) (denE E e) l)
end
theorem upsU_last {h : AH} {ups : List Nat} {a : Nat} : sIx (upsU (ups ++ [a])) (.int (-1)) h = .ok (.int a) h := by
  simp only [upsU, List.map_append, List.map_cons, List.map_nil, sIx_seq, atI_neg1]
theorem es_len : ∀ es : List Ex, (Ex.us es).length = es.length
  | [] => rfl
  | e :: es => by simp [Ex.us, es_len es]
theorem tyEs_len {F : Sig} {G : Gam} : ∀ {es : List Ex} {ts : List Ty}, tyEs F G es ts → es.length = ts.length
  | [], ts, h => by simp only [tyEs] at h; subst h; rfl
  | e :: es, ts, h => by
    simp only [tyEs] at h
    obtain ⟨t, rs, rfl, _, h2⟩ := h
    simp [tyEs_len h2]
def valsOut (h : AH) (p : Nat) (acc : List U) : Re (List Va) → Out (List U)
  | .ok vs l => .ok (acc ++ vs.map Va.u) (setL h p l)
  | .cut l => .cut (setL h p l)
section
variable {P : Pg} {most d k0 : Nat}
theorem comp_vals {k p q a : Nat} {E : Ev} {G : Gam} {kvs : List (Str × U)} {ups : List Nat} {x : U} (ho : EvOk G E) (he : EnvIn kvs E) (hq1 : q ≠ p + 1) (hq2 : q ≠ p + 2) (hu : (ups ++ [a]).length + d = 20) :
    ∀ (es : List Ex) (ts : List Ty) (acc : List U) (h : AH) (l : Lg), (∀ e ∈ es, VSpec P most d k0 e ∧ k0 + e.dep + 3 ≤ k) → tyEs P.sig G es ts → LogAt h p most l → Okh h → LgOk most l → h[q]? = some (.dct kvs) → acc.length + es.length ≤ 900 →
      compF (fun _ h => .ok true h) (fun u h => eCall (arity 5 (sem k .value_by)) (aCons (eVar 0) (aCons (eVar 7) (aCons (eVar 2) (aCons (eVar 3) (aCons (eVar 4) (aNil)))))) [some P.u, some x, some (.obj q), some (upsU (ups ++ [a])), some (.obj p), none, none, some u] h)
        (Ex.us es) acc h = valsOut h p acc (runW most a (calD P most d) (denEs E es) l)
  | [], ts, acc, h, l, hs, ht, lx, ok, lo, hq, hl => by
    simp only [Ex.us, compF, denEs, runW, valsOut, List.map_nil, List.append_nil]
    rw [lx.same]
  | e :: es, ts, acc, h, l, hs, ht, lx, ok, lo, hq, hl => by
    simp only [tyEs] at ht
    obtain ⟨t, rs, rfl, h1, h2⟩ := ht
    obtain ⟨sp, hk⟩ := hs e (by simp)
    have e1 := sp k h p q a l E G kvs t ups hk lx ok lo h1 ho hq he hq1 hq2 hu
    simp only [Ex.us, compF, Out.bind_ok, if_true, denEs, runW_bind]
    have ha : eCall (arity 5 (sem k .value_by)) (aCons (eVar 0) (aCons (eVar 7) (aCons (eVar 2) (aCons (eVar 3) (aCons (eVar 4) (aNil)))))) [some P.u, some x, some (.obj q), some (upsU (ups ++ [a])), some (.obj p), none, none, some e.u] h = sem k .value_by [P.u, e.u, .obj q, upsU (ups ++ [a]), .obj p] h := by
      simp
    rw [ha, e1]
    have g := runW_grow (a := a) (cal := calD P most d) (fun f vs l h => runP_grow d h) (t := denE E e) lo
    cases e2 : runW most a (calD P most d) (denE E e) l with
    | cut l' => rfl
    | ok v l' =>
      rw [e2] at g
      simp only [reOut, Out.bind_ok]
      simp at hl
      rw [if_pos (by omega)]
      rw [comp_vals ho he hq1 hq2 hu es rs (acc ++ [v.u]) (setL h p l') l' (fun e he => hs e (by simp [he])) h2 (lx.set l') ok.setL g.ok (by rw [setL_get hq1 hq2]; exact hq) (by simp; omega)]
      simp only [Re.bind, runW_bind]
      cases e3 : runW most a (calD P most d) (denEs E es) l' with
      | cut l2 => simp [Re.bind, valsOut, setL_setL]
      | ok vs l2 => simp [Re.bind, valsOut, setL_setL, runW]
theorem IT_two {E : Ev} {a b : Ex} {f : Va → Va → IT Va} : ((denE E a).bind fun x => (denE E b).bind fun y => f x y) = (denEs E [a, b]).bind fun vs => match vs with
    | [x, y] => f x y
    | _ => .great := by
  simp only [denEs, IT.assoc, IT.bind]
theorem IT_three {E : Ev} {a b c : Ex} {f : Va → Va → Va → IT Va} : ((denE E a).bind fun x => (denE E b).bind fun y => (denE E c).bind fun z => f x y z) = (denEs E [a, b, c]).bind fun vs => match vs with
    | [x, y, z] => f x y z
    | _ => .great := by
  simp only [denEs, IT.assoc, IT.bind]
theorem HasVs.two {vs : List Va} {s t : Ty} (h : HasVs vs [s, t]) : ∃ x y, vs = [x, y] ∧ HasV x s ∧ HasV y t := by
  cases h with
  | cons h1 h2 =>
    cases h2 with
    | cons h2 h3 =>
      cases h3
      exact ⟨_, _, rfl, h1, h2⟩
theorem HasVs.three {vs : List Va} {s t r : Ty} (h : HasVs vs [s, t, r]) : ∃ x y z, vs = [x, y, z] ∧ HasV x s ∧ HasV y t ∧ HasV z r := by
  cases h with
  | cons h1 h2 =>
    obtain ⟨y, z, rfl, h3, h4⟩ := h2.two
    exact ⟨_, y, z, rfl, h1, h3, h4⟩
/-- an operation: its parts, then what is made of them -/
theorem value_op {k p q a : Nat} {E : Ev} {G : Gam} {kvs : List (Str × U)} {ups : List Nat} {h : AH} {l : Lg} {w : Str} {es : List Ex} {ts : List Ty} {f : List Va → IT Va} (hP : PgOk P) (ho : EvOk G E) (he : EnvIn kvs E) (hq1 : q ≠ p + 1) (hq2 : q ≠ p + 2)
    (hu : (ups ++ [a]).length + d = 20) (hs : ∀ e ∈ es, VSpec P most d k0 e ∧ k0 + e.dep + 3 ≤ k) (ht : tyEs P.sig G es ts) (lx : LogAt h p most l) (ok : Okh h) (lo : LgOk most l) (hq : h[q]? = some (.dct kvs)) (hl : es.length ≤ 3)
    (hw : PyData.strOk w = true) (w1 : w ≠ "num") (w2 : w ≠ "var") (w3 : w ≠ "nil") (w4 : w ≠ "leaf") (w5 : w ≠ "call")
    (hm : ∀ vs l' h', HasVs vs ts → LogAt h' p most l' → Okh h' → sem k .made_of [.str w, .seq .lst (vs.map Va.u), .int a, .obj p] h' = reOut Va.u h' p (runW most a (calD P most d) (f vs) l')) :
    sem (k + 1) .value_by [P.u, .seq .tup (.str w :: Ex.us es), .obj q, upsU (ups ++ [a]), .obj p] h = reOut Va.u h p (runW most a (calD P most d) ((denEs E es).bind f) l) := by
  show runC 8 (m_value_by (sem k)) _ h = _
  have e0 : ∀ (x : U), lcL (itSeq (.seq .tup (Ex.us es))) (tgN 7) cYes (eCall (arity 5 (sem k .value_by)) (aCons (eVar 0) (aCons (eVar 7) (aCons (eVar 2) (aCons (eVar 3) (aCons (eVar 4) (aNil)))))))
      [some P.u, some x, some (.obj q), some (upsU (ups ++ [a])), some (.obj p), none, none, none] NN 0 [] h = valsOut h p [] (runW most a (calD P most d) (denEs E es) l) := fun x => by
    rw [lcL_of (L := fun u => [some P.u, some x, some (.obj q), some (upsU (ups ++ [a])), some (.obj p), none, none, some u]) hit_seq (fun u _ h => rfl) NN 0 _ _ (by simp) (by simp [NN, es_len]; omega)]
    exact comp_vals ho he hq1 hq2 hu es ts [] h l hs ht lx ok lo hq (by simp; omega)
  have t1 : sEq (.str w) (.str "num") h = .ok (.bl false) h := by rw [sEq_str hw ok_num]; simp [w1]
  have t2 : sEq (.str w) (.str "var") h = .ok (.bl false) h := by rw [sEq_str hw ok_var]; simp [w2]
  have t3 : sEq (.str w) (.str "nil") h = .ok (.bl false) h := by rw [sEq_str hw ok_nil]; simp [w3]
  have t4 : sEq (.str w) (.str "leaf") h = .ok (.bl false) h := by rw [sEq_str hw ok_leaf]; simp [w4]
  have t5 : sEq (.str w) (.str "call") h = .ok (.bl false) h := by rw [sEq_str hw ok_call]; simp [w5]
  have g := runW_grow (a := a) (cal := calD P most d) (fun f vs l h => runP_grow d h) (t := denEs E es) lo
  have gd := good_Es (F := P.sig) ho es ts ht
  rw [runW_bind]
  have e : runB 8 (m_value_by (sem k)) [P.u, .seq .tup (.str w :: Ex.us es), .obj q, upsU (ups ++ [a]), .obj p] h = reOut Va.u h p ((runW most a (calD P most d) (denEs E es) l).bind fun x l' => runW most a (calD P most d) (f x) l') := by
    simp [m_value_by, t1, t2, t3, t4, t5, wipeU, e0, asSeq]
    cases e2 : runW most a (calD P most d) (denEs E es) l with
    | cut l' => simp [valsOut, Re.bind, reOut]
    | ok vs l' =>
      have hv : HasVs vs ts := runW_good (F := P.sig) (Q := fun vs => HasVs vs ts) (fun f vs ts s l v l' a b c => runP_good hP d a b c) gd e2
      have e3 := hm vs l' (setL h p l') hv (lx.set l') ok.setL
      simp only [valsOut, Re.bind, List.nil_append, Out.bind_ok, Out.s_ok]
      simp [upsU_last, e3]
      cases runW most a (calD P most d) (f vs) l' with
      | ok v l2 => simp [reOut, setL_setL]
      | cut l2 => simp [reOut, setL_setL]
  rw [runC_ap, e]
  cases (runW most a (calD P most d) (denEs E es) l).bind fun x l' => runW most a (calD P most d) (f x) l' with
  | ok v l2 => exact clean_same (by simp) ok.setL (below_pure _ v.pure)
  | cut l2 => exact clean_sameC (by simp) ok.setL
end
end Wk
set_option maxRecDepth 100000
set_option maxHeartbeats 4000000
/-! P7: value_by, whole; open_body, body_value. -/
namespace Wk
open PySem PySem.Spec PyProof.Rows L2

section
variable {P : Pg} {most d k0 : Nat}
theorem reStep {h : AH} {p most a : Nat} {l : Lg} {cal : Callee} {s : Kd} {v : Va} (lx : LogAt h p most l) : reMade h p (stepL most a s.s l) v.u = reOut Va.u h p (runW most a cal (.stp s (.ret v)) l) := by
  unfold runW reMade
  cases stepL most a s.s l with
  | none => simp [reOut, lx.same]
  | some l' => simp [reOut, runW]
theorem mkCons_of (i : Int) (ys : List Int) : mkCons (.num i) (.list ys) = if 100 ≤ ys.length then .great else .stp .make (.ret (.list (i :: ys))) := rfl
theorem mkNode_of (x z : Tr) (j : Int) : mkNode (.tree x) (.num j) (.tree z) = if 100 ≤ x.size + z.size then .great else .stp .make (.ret (.tree (.node x j z))) := rfl
theorem tyEs_two {F : Sig} {G : Gam} {a b : Ex} {s t : Ty} (h1 : tyE F G a s) (h2 : tyE F G b t) : tyEs F G [a, b] [s, t] := by
  simp only [tyEs]
  exact ⟨s, _, rfl, h1, t, _, rfl, h2, rfl⟩
theorem tyEs_three {F : Sig} {G : Gam} {a b c : Ex} {s t r : Ty} (h1 : tyE F G a s) (h2 : tyE F G b t) (h3 : tyE F G c r) : tyEs F G [a, b, c] [s, t, r] := by
  simp only [tyEs]
  exact ⟨s, _, rfl, h1, t, _, rfl, h2, r, _, rfl, h3, rfl⟩
mutual
theorem vspec (hP : PgOk P) (hc : CallOk P most d k0) (hm : most ≤ 900) : ∀ e : Ex, VSpec P most d k0 e
  | .num i => fun k h p q a l E G kvs t ups hk lx ok lo ht ho hq he hq1 hq2 hu => by
    obtain ⟨k, rfl⟩ : ∃ j, k = j + 1 := ⟨k - 1, by omega⟩
    show runC 8 (m_value_by (sem k)) _ h = _
    have e : runB 8 (m_value_by (sem k)) [P.u, Ex.u (.num i), .obj q, upsU (ups ++ [a]), .obj p] h = .ok (.int i) h := by
      simp (decide := true) [m_value_by, Ex.u, sEq_str]
    rw [runC_ap, e, clean_same rfl ok rfl]
    simp [denE, runW, reOut, Va.u, lx.same]
  | .var x => fun k h p q a l E G kvs t ups hk lx ok lo ht ho hq he hq1 hq2 hu => by
    obtain ⟨k, rfl⟩ : ∃ j, k = j + 1 := ⟨k - 1, by omega⟩
    simp only [tyE] at ht
    obtain ⟨v, e1, e2⟩ := ho.get x t ht
    have e3 := he.get x v e1
    show runC 8 (m_value_by (sem k)) _ h = _
    have e : runB 8 (m_value_by (sem k)) [P.u, Ex.u (.var x), .obj q, upsU (ups ++ [a]), .obj p] h = .ok v.u h := by
      simp (decide := true) [m_value_by, Ex.u, sEq_str, sGet, asD, hq, e3]
    rw [runC_ap, e, clean_same rfl ok (below_pure _ v.pure)]
    simp [denE, runW, reOut, Ev.get, e1, lx.same]
  | .nil => fun k h p q a l E G kvs t ups hk lx ok lo ht ho hq he hq1 hq2 hu => by
    obtain ⟨k, rfl⟩ : ∃ j, k = j + 1 := ⟨k - 1, by omega⟩
    show runC 8 (m_value_by (sem k)) _ h = _
    have e : runB 8 (m_value_by (sem k)) [P.u, Ex.u .nil, .obj q, upsU (ups ++ [a]), .obj p] h = .ok (.seq .tup []) h := by
      simp (decide := true) [m_value_by, Ex.u, sEq_str]
    rw [runC_ap, e, clean_same rfl ok rfl]
    simp [denE, runW, reOut, Va.u, lx.same]
  | .leaf => fun k h p q a l E G kvs t ups hk lx ok lo ht ho hq he hq1 hq2 hu => by
    obtain ⟨k, rfl⟩ : ∃ j, k = j + 1 := ⟨k - 1, by omega⟩
    show runC 8 (m_value_by (sem k)) _ h = _
    have e : runB 8 (m_value_by (sem k)) [P.u, Ex.u .leaf, .obj q, upsU (ups ++ [a]), .obj p] h = .ok .non h := by
      simp (decide := true) [m_value_by, Ex.u, sEq_str]
    rw [runC_ap, e, clean_same rfl ok rfl]
    simp [denE, runW, reOut, Va.u, Tr.u, lx.same]
  | .add x y => fun k h p q a l E G kvs t ups hk lx ok lo ht ho hq he hq1 hq2 hu => by
    obtain ⟨k, rfl⟩ : ∃ j, k = j + 1 := ⟨k - 1, by omega⟩
    simp only [tyE] at ht
    obtain ⟨rfl, h1, h2⟩ := ht
    simp only [Ex.dep] at hk
    have sx := vspec hP hc hm x
    have sy := vspec hP hc hm y
    simp only [denE, IT_two]
    refine value_op (k0 := k0) (es := [x, y]) (ts := [.num, .num]) (w := "add") hP ho he hq1 hq2 hu (fun e he' => ?_) (tyEs_two h1 h2) lx ok lo hq (by simp) (by simp) (by decide) (by decide) (by decide) (by decide) (by decide) fun vs l' h' hv lx' ok' => ?_
    · simp only [List.mem_cons, List.not_mem_nil, or_false] at he'
      rcases he' with rfl | rfl
      · exact ⟨sx, by omega⟩
      · exact ⟨sy, by omega⟩
    · obtain ⟨u, v, rfl, hu', hv'⟩ := hv.two
      obtain ⟨i, rfl⟩ := hu'.num
      obtain ⟨j, rfl⟩ := hv'.num
      obtain ⟨k, rfl⟩ : ∃ j, k = j + 2 := ⟨k - 2, by omega⟩
      have := f_made_add (k := k) (a := a) (x := i) (y := j) lx' ok' hm
      simp only [List.map_cons, List.map_nil, Va.u, Va.n] at this ⊢
      rw [this]
      exact reStep (s := .sum) (v := .num (i + j)) lx'
  | .sub x y => fun k h p q a l E G kvs t ups hk lx ok lo ht ho hq he hq1 hq2 hu => by
    obtain ⟨k, rfl⟩ : ∃ j, k = j + 1 := ⟨k - 1, by omega⟩
    simp only [tyE] at ht
    obtain ⟨rfl, h1, h2⟩ := ht
    simp only [Ex.dep] at hk
    have sx := vspec hP hc hm x
    have sy := vspec hP hc hm y
    simp only [denE, IT_two]
    refine value_op (k0 := k0) (es := [x, y]) (ts := [.num, .num]) (w := "sub") hP ho he hq1 hq2 hu (fun e he' => ?_) (tyEs_two h1 h2) lx ok lo hq (by simp) (by simp) (by decide) (by decide) (by decide) (by decide) (by decide) fun vs l' h' hv lx' ok' => ?_
    · simp only [List.mem_cons, List.not_mem_nil, or_false] at he'
      rcases he' with rfl | rfl
      · exact ⟨sx, by omega⟩
      · exact ⟨sy, by omega⟩
    · obtain ⟨u, v, rfl, hu', hv'⟩ := hv.two
      obtain ⟨i, rfl⟩ := hu'.num
      obtain ⟨j, rfl⟩ := hv'.num
      obtain ⟨k, rfl⟩ : ∃ j, k = j + 2 := ⟨k - 2, by omega⟩
      have := f_made_sub (k := k) (a := a) (x := i) (y := j) lx' ok' hm
      simp only [List.map_cons, List.map_nil, Va.u, Va.n] at this ⊢
      rw [this]
      exact reStep (s := .sum) (v := .num (i - j)) lx'
  | .cons x y => fun k h p q a l E G kvs t ups hk lx ok lo ht ho hq he hq1 hq2 hu => by
    obtain ⟨k, rfl⟩ : ∃ j, k = j + 1 := ⟨k - 1, by omega⟩
    simp only [tyE] at ht
    obtain ⟨rfl, h1, h2⟩ := ht
    simp only [Ex.dep] at hk
    have sx := vspec hP hc hm x
    have sy := vspec hP hc hm y
    simp only [denE, IT_two]
    refine value_op (k0 := k0) (es := [x, y]) (ts := [.num, .list]) (w := "cons") hP ho he hq1 hq2 hu (fun e he' => ?_) (tyEs_two h1 h2) lx ok lo hq (by simp) (by simp) (by decide) (by decide) (by decide) (by decide) (by decide) fun vs l' h' hv lx' ok' => ?_
    · simp only [List.mem_cons, List.not_mem_nil, or_false] at he'
      rcases he' with rfl | rfl
      · exact ⟨sx, by omega⟩
      · exact ⟨sy, by omega⟩
    · obtain ⟨u, v, rfl, hu', hv'⟩ := hv.two
      obtain ⟨i, rfl⟩ := hu'.num
      obtain ⟨ys, rfl, hl⟩ := hv'.list
      obtain ⟨k, rfl⟩ : ∃ j, k = j + 2 := ⟨k - 2, by omega⟩
      have := f_made_cons (k := k) (a := a) (x := i) (ys := ys) lx' ok' hm hl
      simp only [List.map_cons, List.map_nil, Va.u, mkCons_of] at this ⊢
      rw [this]
      by_cases hcc : 100 ≤ ys.length
      · simp [hcc, runW, reOut, lx'.same]
      · rw [if_neg hcc, if_neg hcc]
        exact reStep (s := .make) (v := .list (i :: ys)) lx'
  | .node x y z => fun k h p q a l E G kvs t ups hk lx ok lo ht ho hq he hq1 hq2 hu => by
    obtain ⟨k, rfl⟩ : ∃ j, k = j + 1 := ⟨k - 1, by omega⟩
    simp only [tyE] at ht
    obtain ⟨rfl, h1, h2, h3⟩ := ht
    simp only [Ex.dep] at hk
    have sx := vspec hP hc hm x
    have sy := vspec hP hc hm y
    have sz := vspec hP hc hm z
    simp only [denE, IT_three]
    refine value_op (k0 := k0) (es := [x, y, z]) (ts := [.tree, .num, .tree]) (w := "node") hP ho he hq1 hq2 hu (fun e he' => ?_) (tyEs_three h1 h2 h3) lx ok lo hq (by simp) (by simp) (by decide) (by decide) (by decide) (by decide) (by decide) fun vs l' h' hv lx' ok' => ?_
    · simp only [List.mem_cons, List.not_mem_nil, or_false] at he'
      rcases he' with rfl | rfl | rfl
      · exact ⟨sx, by omega⟩
      · exact ⟨sy, by omega⟩
      · exact ⟨sz, by omega⟩
    · obtain ⟨u, v, w, rfl, hu', hv', hw'⟩ := hv.three
      obtain ⟨x, rfl, hx⟩ := hu'.tree
      obtain ⟨j, rfl⟩ := hv'.num
      obtain ⟨z, rfl, hz⟩ := hw'.tree
      obtain ⟨k, rfl⟩ : ∃ j, k = j + 2 := ⟨k - 2, by omega⟩
      have := f_made_node (k := k) (a := a) (x := x) (y := j) (z := z) lx' ok' hm hx hz
      simp only [List.map_cons, List.map_nil, Va.u, mkNode_of] at this ⊢
      rw [this]
      by_cases hcc : 100 ≤ x.size + z.size
      · simp [hcc, runW, reOut, lx'.same]
      · rw [if_neg hcc, if_neg hcc]
        exact reStep (s := .make) (v := .tree (.node x j z)) lx'
  | .call f es => fun k h p q a l E G kvs t ups hk lx ok lo ht ho hq he hq1 hq2 hu => by
    obtain ⟨k, rfl⟩ : ∃ j, k = j + 1 := ⟨k - 1, by omega⟩
    simp only [tyE] at ht
    obtain ⟨ts, hf, hes⟩ := ht
    simp only [Ex.dep] at hk
    have hs := vspecs hP hc hm es
    have hlen : es.length ≤ 3 := by
      rw [tyEs_len hes]
      unfold Pg.sig at hf
      obtain ⟨dd, hd, e2⟩ := Option.map_eq_some_iff.mp hf
      cases e2
      simpa using (hP.at_ok hd).1.few
    have gd := good_Es (F := P.sig) ho es ts hes
    have g := runW_grow (a := a) (cal := calD P most d) (fun f vs l h => runP_grow d h) (t := denEs E es) lo
    have e0 : ∀ (x : U), lcL (itSeq (.seq .tup (Ex.us es))) (tgN 7) cYes (eCall (arity 5 (sem k .value_by)) (aCons (eVar 0) (aCons (eVar 7) (aCons (eVar 2) (aCons (eVar 3) (aCons (eVar 4) (aNil)))))))
        [some P.u, some x, some (.obj q), some (upsU (ups ++ [a])), some (.obj p), none, none, none] NN 0 [] h = valsOut h p [] (runW most a (calD P most d) (denEs E es) l) := fun x => by
      rw [lcL_of (L := fun u => [some P.u, some x, some (.obj q), some (upsU (ups ++ [a])), some (.obj p), none, none, some u]) hit_seq (fun u _ h => rfl) NN 0 _ _ (by simp) (by simp [NN, es_len]; omega)]
      exact comp_vals ho he hq1 hq2 hu es ts [] h l (fun e hm => ⟨(hs e hm).1, by have := (hs e hm).2; omega⟩) hes lx ok lo hq (by simp; omega)
    show runC 8 (m_value_by (sem k)) _ h = _
    simp only [denE, runW_bind]
    have e : runB 8 (m_value_by (sem k)) [P.u, Ex.u (.call f es), .obj q, upsU (ups ++ [a]), .obj p] h = reOut Va.u h p ((runW most a (calD P most d) (denEs E es) l).bind fun x l' => runW most a (calD P most d) (.ask f x .ret) l') := by
      simp (decide := true) [m_value_by, Ex.u, sEq_str, wipeU, e0, asSeq]
      cases e2 : runW most a (calD P most d) (denEs E es) l with
      | cut l' => simp [valsOut, Re.bind, reOut]
      | ok vs l' =>
        rw [e2] at g
        have hv : HasVs vs ts := runW_good (F := P.sig) (Q := fun vs => HasVs vs ts) (fun f vs ts s l v l' a b c => runP_good hP d a b c) gd e2
        have e3 := hc k (setL h p l') p l' f vs ts t (ups ++ [a]) (by omega) (lx.set l') ok.setL g.ok hf hv hu
        simp [valsOut, Re.bind, e3, runW, calD]
        cases runP P most d f vs (some a) l' with
        | ok v l2 => simp [reOut, setL_setL]
        | cut l2 => simp [reOut, setL_setL]
    rw [runC_ap, e]
    cases (runW most a (calD P most d) (denEs E es) l).bind fun x l' => runW most a (calD P most d) (.ask f x .ret) l' with
    | ok v l2 => exact clean_same (by simp) ok.setL (below_pure _ v.pure)
    | cut l2 => exact clean_sameC (by simp) ok.setL
theorem vspecs (hP : PgOk P) (hc : CallOk P most d k0) (hm : most ≤ 900) : ∀ es : List Ex, ∀ e ∈ es, VSpec P most d k0 e ∧ e.dep ≤ Ex.deps es
  | [], e, h => by cases h
  | x :: es, e, h => by
    have sx := vspec hP hc hm x
    have ss := vspecs hP hc hm es
    rcases List.mem_cons.mp h with rfl | h
    · exact ⟨sx, by simp only [Ex.deps]; omega⟩
    · obtain ⟨h1, h2⟩ := ss e h
      exact ⟨h1, by simp only [Ex.deps]; omega⟩
end
end
end Wk
set_option maxRecDepth 100000
set_option maxHeartbeats 4000000
/-! P8: open_body, body_value, call_value, trace. -/
namespace Wk
open PySem PySem.Spec PyProof.Rows L2

/-! ### a dict of ours -/
structure Dk (kvs : List (Str × U)) (E : Ev) (n : Nat) : Prop where
  env : EnvIn kvs E
  few : kvs.length ≤ n
  pure : pureUs (kvs.map (·.2)) = true
theorem putD_pure {k : Str} {u : U} (hu : pureU u = true) : ∀ {kvs : List (Str × U)}, pureUs (kvs.map (·.2)) = true → pureUs ((putD kvs k u).map (·.2)) = true
  | [], _ => by simp [putD, pureUs, hu]
  | (a, b) :: t, h => by
    simp only [List.map_cons, pureUs, Bool.and_eq_true] at h
    unfold putD
    split
    · simp [pureUs, hu, h.2]
    · simp [pureUs, h.1, putD_pure hu h.2]
theorem Dk.put {kvs : List (Str × U)} {E : Ev} {n : Nat} (h : Dk kvs E n) {x : Str} {v : Va} : Dk (putD kvs x v.u) (E.put x v) (n + 1) :=
  ⟨h.env.put, Nat.le_trans putD_len.1 (by have := h.few; omega), putD_pure v.pure h.pure⟩
theorem Dk.mono {kvs : List (Str × U)} {E : Ev} {n m : Nat} (h : Dk kvs E n) (hm : n ≤ m) : Dk kvs E m := ⟨h.env, Nat.le_trans h.few hm, h.pure⟩
theorem okh_dct {h : AH} {q : Nat} {kvs : List (Str × U)} (ok : Okh h) (hp : pureUs (kvs.map (·.2)) = true) : Okh (h.set q (.dct kvs)) := ok.set (x := .dct kvs) (show belowM h.length (.dct kvs) = true from belows_pure _ hp)
theorem set_get {h : AH} {q : Nat} {o x : MO} (hq : h[q]? = some o) : (h.set q x)[q]? = some x := List.getElem?_set_self (List.getElem?_eq_some_iff.mp hq).1
theorem f_open_list {k q : Nat} {h : AH} {E : Ev} {kvs : List (Str × U)} {x hd tl : Str} {nb cb : Bd} {xs : List Int} {n : Nat} (ok : Okh h) (hq : h[q]? = some (.dct kvs)) (dk : Dk kvs E n) (hn : n ≤ 900) (hx : E x = some (.list xs)) :
    sem (k + 1) .open_body [Bd.u (.olist x nb hd tl cb), .obj q] h = match xs with
      | [] => .ok nb.u h
      | y :: ys => .ok cb.u (h.set q (.dct (putD (putD kvs hd (.int y)) tl (.seq .tup (ys.map U.int))))) := by
  have e3 := dk.env.get x _ hx
  have l1 : kvs.length ≤ 1000 := by have := dk.few; omega
  show runC 3 (m_open_body (sem k)) _ h = _
  cases xs with
  | nil =>
    have e : runB 3 (m_open_body (sem k)) [Bd.u (.olist x nb hd tl cb), .obj q] h = .ok nb.u h := by
      simp (decide := true) [m_open_body, Bd.u, sEq_str, sGet, asD, hq, e3, Va.u, bLen, asSeq, sEq_int]
    rw [runC_ap, e]
    exact clean_same rfl ok (below_pure _ nb.pure)
  | cons y ys =>
    have l2 : (putD kvs hd (.int y)).length ≤ 1000 := by have := (putD_len (k := hd) (u := .int y) (kvs := kvs)).1; have := dk.few; omega
    have hlen : ((ys.length : Int) + 1 = 0) = False := by simp; omega
    have e : runB 3 (m_open_body (sem k)) [Bd.u (.olist x nb hd tl cb), .obj q] h = .ok cb.u (h.set q (.dct (putD (putD kvs hd (.int y)) tl (.seq .tup (ys.map U.int))))) := by
      simp (decide := true) [m_open_body, Bd.u, sEq_str, sGet, asD, hq, e3, Va.u, bLen, asSeq, sEq_int, stD, l1, l2, set_get hq, hlen]
    rw [runC_ap, e]
    exact clean_same (by simp) (okh_dct ok (putD_pure (by simp only [pureU]; exact ints_pure _) (putD_pure rfl dk.pure))) (below_pure _ cb.pure)
theorem f_open_tree {k q : Nat} {h : AH} {E : Ev} {kvs : List (Str × U)} {x lf vl rt : Str} {lb nb : Bd} {t : Tr} {n : Nat} (ok : Okh h) (hq : h[q]? = some (.dct kvs)) (dk : Dk kvs E n) (hn : n ≤ 900) (hx : E x = some (.tree t)) :
    sem (k + 1) .open_body [Bd.u (.otree x lb lf vl rt nb), .obj q] h = match t with
      | .leaf => .ok lb.u h
      | .node a y b => .ok nb.u (h.set q (.dct (putD (putD (putD kvs lf a.u) vl (.int y)) rt b.u))) := by
  have e3 := dk.env.get x _ hx
  have l1 : kvs.length ≤ 1000 := by have := dk.few; omega
  show runC 3 (m_open_body (sem k)) _ h = _
  cases t with
  | leaf =>
    have e : runB 3 (m_open_body (sem k)) [Bd.u (.otree x lb lf vl rt nb), .obj q] h = .ok lb.u h := by
      simp (decide := true) [m_open_body, Bd.u, sEq_str, sGet, asD, hq, e3, Va.u, Tr.u, sIsN, isNon]
    rw [runC_ap, e]
    exact clean_same rfl ok (below_pure _ lb.pure)
  | node a y b =>
    have l2 : (putD kvs lf a.u).length ≤ 901 := by have := (putD_len (k := lf) (u := a.u) (kvs := kvs)).1; have := dk.few; omega
    have l2' : (putD kvs lf a.u).length ≤ 1000 := by omega
    have l3 : (putD (putD kvs lf a.u) vl (.int y)).length ≤ 1000 := by have := (putD_len (k := vl) (u := .int y) (kvs := putD kvs lf a.u)).1; omega
    have e : runB 3 (m_open_body (sem k)) [Bd.u (.otree x lb lf vl rt nb), .obj q] h = .ok nb.u (h.set q (.dct (putD (putD (putD kvs lf a.u) vl (.int y)) rt b.u))) := by
      simp (decide := true) [m_open_body, Bd.u, sEq_str, sGet, asD, hq, e3, Va.u, Tr.u, sIsN, isNon, stD, l1, l2', l3, set_get hq]
    rw [runC_ap, e]
    exact clean_same (by simp) (okh_dct ok (putD_pure b.pure (putD_pure rfl (putD_pure a.pure dk.pure)))) (below_pure _ nb.pure)

/-! ### body_value -/
section
variable {P : Pg} {most d k0 : Nat}
/-- the loop, then the value -/
def bodyS (k : Nat) (n : Nat) (ls : Loc) (h : AH) : OutS :=
  match whileL (tst (eOp sNe (eOp sIx (eVar 1) (eC (.int 0))) (eC (.str ("give" : Str))))) (sIf (tst (eOp sEq (eOp sIx (eVar 1) (eC (.int 0))) (eC (.str ("let" : Str))))) (sSeq (sSto stD (eVar 2) (eOp sIx (eVar 1) (eC (.int 1))) (eCall (arity 5 (sem k .value_by)) (aCons (eVar 0) (aCons (eOp sIx (eVar 1) (eC (.int 2))) (aCons (eVar 2) (aCons (eVar 3) (aCons (eVar 4) (aNil)))))))) (sSeq (sExpr (eMeth ("step" : Str) (arity 3 (sem k .log_step)) (eVar 4) (aCons (eOp sIx (eVar 3) (eUn sNeg (eC (.int 1)))) (aCons (eC (.str ("let" : Str))) (aNil))))) (sSet 1 (eOp sIx (eVar 1) (eC (.int 3)))))) (sIf (tst (eOp sEq (eOp sIx (eVar 1) (eC (.int 0))) (eC (.str ("less" : Str))))) (sSeq (sSet 5 (eCall (arity 5 (sem k .value_by)) (aCons (eVar 0) (aCons (eOp sIx (eVar 1) (eC (.int 1))) (aCons (eVar 2) (aCons (eVar 3) (aCons (eVar 4) (aNil)))))))) (sSeq (sSet 6 (eCall (arity 5 (sem k .value_by)) (aCons (eVar 0) (aCons (eOp sIx (eVar 1) (eC (.int 2))) (aCons (eVar 2) (aCons (eVar 3) (aCons (eVar 4) (aNil)))))))) (sSeq (sExpr (eMeth ("step" : Str) (arity 3 (sem k .log_step)) (eVar 4) (aCons (eOp sIx (eVar 3) (eUn sNeg (eC (.int 1)))) (aCons (eC (.str ("less" : Str))) (aNil))))) (sIf (tst (eOp sLt (eVar 5) (eVar 6))) (sSet 1 (eOp sIx (eVar 1) (eC (.int 3)))) (sSet 1 (eOp sIx (eVar 1) (eC (.int 4)))))))) (sSeq (sExpr (eMeth ("step" : Str) (arity 3 (sem k .log_step)) (eVar 4) (aCons (eOp sIx (eVar 3) (eUn sNeg (eC (.int 1)))) (aCons (eC (.str ("open" : Str))) (aNil))))) (sSet 1 (eCall (arity 2 (sem k .open_body)) (aCons (eVar 1) (aCons (eVar 2) (aNil)))))))) n ls h with
  | .nx l k' => sRet (eCall (arity 5 (sem k .value_by)) (aCons (eVar 0) (aCons (eOp sIx (eVar 1) (eC (.int 1))) (aCons (eVar 2) (aCons (eVar 3) (aCons (eVar 4) (aNil))))))) l k'
  | o => o
end
theorem m_body_is (k : Nat) (ls : Loc) (h : AH) : m_body_value (sem k) ls h = bodyS k NN ls h := rfl

/-! ### one log, one dict -/
structure Bas (h0 : AH) (p q most : Nat) : Prop where
  log : ∃ l, LogAt h0 p most l
  dct : ∃ kvs, h0[q]? = some (.dct kvs)
  ok : Okh h0
def hb (h0 : AH) (p q : Nat) (l : Lg) (kvs : List (Str × U)) : AH := (setL h0 p l).set q (.dct kvs)
section
variable {h0 : AH} {p q most : Nat} (B : Bas h0 p q most)
include B
theorem Bas.ne : q ≠ p ∧ q ≠ p + 1 ∧ q ≠ p + 2 := by
  obtain ⟨l, x⟩ := B.log
  obtain ⟨kvs, e⟩ := B.dct
  refine ⟨fun z => ?_, fun z => ?_, fun z => ?_⟩
  · rw [z, x.ins] at e; cases e
  · rw [z, x.bg] at e; cases e
  · rw [z, x.md] at e; cases e
theorem Bas.log_at (l : Lg) (kvs : List (Str × U)) : LogAt (hb h0 p q l kvs) p most l := by
  obtain ⟨l0, x⟩ := B.log
  obtain ⟨n1, n2, n3⟩ := B.ne
  have y := x.set l
  unfold hb
  exact ⟨by rw [List.getElem?_set_ne n1]; exact y.ins, by rw [List.getElem?_set_ne n2]; exact y.bg, by rw [List.getElem?_set_ne n3]; exact y.md⟩
theorem Bas.dct_at (l : Lg) (kvs : List (Str × U)) : (hb h0 p q l kvs)[q]? = some (.dct kvs) := by
  obtain ⟨k0, e⟩ := B.dct
  unfold hb
  rw [List.getElem?_set_self (by simpa using (List.getElem?_eq_some_iff.mp e).1)]
theorem Bas.okh (l : Lg) {kvs : List (Str × U)} (hp : pureUs (kvs.map (·.2)) = true) : Okh (hb h0 p q l kvs) := okh_dct B.ok.setL hp
theorem Bas.setL_hb (l l' : Lg) (kvs : List (Str × U)) : setL (hb h0 p q l kvs) p l' = hb h0 p q l' kvs := by
  obtain ⟨n1, n2, n3⟩ := B.ne
  unfold hb
  rw [setL_setO n2 n3, setL_setL]
omit B in
theorem hb_set (l : Lg) (kvs kvs' : List (Str × U)) : (hb h0 p q l kvs).set q (.dct kvs') = hb h0 p q l kvs' := by
  unfold hb
  rw [List.set_set]
omit B in
theorem hb_len (l : Lg) (kvs : List (Str × U)) : (hb h0 p q l kvs).length = h0.length := by simp [hb]
end
theorem hb_self {h0 : AH} {p q most : Nat} {l : Lg} {kvs : List (Str × U)} (x : LogAt h0 p most l) (e : h0[q]? = some (.dct kvs)) : hb h0 p q l kvs = h0 := by
  unfold hb
  rw [x.same]
  refine List.ext_getElem? fun i => ?_
  by_cases hi : q = i
  · subst hi; rw [List.getElem?_set_self (List.getElem?_eq_some_iff.mp e).1, e]
  · rw [List.getElem?_set_ne hi]

section
variable {P : Pg} {most d k0 : Nat}
def endS (h0 : AH) (p q : Nat) (kvs : List (Str × U)) (ls : Loc) : Re Va → OutS
  | .ok v l' => .rt v.u (hb h0 p q l' kvs)
  | .cut l' => .cut ls (hb h0 p q l' kvs)
theorem endS_kv {h0 : AH} {p q : Nat} {r : Re Va} {X : OutS} (h : ∃ kvs ls, pureUs (kvs.map (·.2)) = true ∧ X = endS h0 p q kvs ls r) : ∃ kvs ls, pureUs (kvs.map (·.2)) = true ∧ X = endS h0 p q kvs ls r := h
theorem bodyS_ok (hP : PgOk P) (hc : CallOk P most d k0) (hm : most ≤ 900) {h0 : AH} {p q a k : Nat} {ups : List Nat} (Bs : Bas h0 p q most) (hk : k0 + 6 ≤ k) (hu : (ups ++ [a]).length + d = 20) :
    ∀ (b : Bd) {G : Gam} {E : Ev} {t : Ty} {kvs : List (Str × U)} {l : Lg} {o5 o6 : Option U} {n nk : Nat}, tyB P.sig G b t → EvOk G E → Dk kvs E nk → nk + 3 * b.dep ≤ 900 → LgOk most l → b.dep < n →
      ∃ kvs' ls', pureUs (kvs'.map (·.2)) = true ∧ bodyS k n [some P.u, some b.u, some (.obj q), some (upsU (ups ++ [a])), some (.obj p), o5, o6] (hb h0 p q l kvs) = endS h0 p q kvs' ls' (runW most a (calD P most d) (denB E b) l)
  | .give e, G, E, t, kvs, l, o5, o6, n, nk, ht, ho, dk, hn, lo, hd => by
    obtain ⟨n, rfl⟩ : ∃ j, n = j + 1 := ⟨n - 1, by omega⟩
    obtain ⟨n1, n2, n3⟩ := Bs.ne
    have lx := Bs.log_at l kvs
    have sv := vspec (k0 := k0) hP hc hm e k (hb h0 p q l kvs) p q a l E G kvs t ups (by have := ht.2; omega) lx (Bs.okh l dk.pure) lo ht.1 ho (Bs.dct_at l kvs) dk.env n2 n3 hu
    refine ⟨kvs, [some P.u, some (Bd.u (.give e)), some (.obj q), some (upsU (ups ++ [a])), some (.obj p), o5, o6], dk.pure, ?_⟩
    simp [bodyS, whileL, Bd.u, sNe_str, sv]
    simp only [denB]
    cases runW most a (calD P most d) (denE E e) l with
    | ok v l' => simp [reOut, endS, Bs.setL_hb]
    | cut l' => simp [reOut, endS, Bs.setL_hb]
  | .elet x e b, G, E, t, kvs, l, o5, o6, n, nk, ht, ho, dk, hn, lo, hd => by
    obtain ⟨n, rfl⟩ : ∃ j, n = j + 1 := ⟨n - 1, by omega⟩
    obtain ⟨n1, n2, n3⟩ := Bs.ne
    obtain ⟨s, h1, h2, h3, h4⟩ := ht
    simp only [Bd.dep] at hn hd
    have lx := Bs.log_at l kvs
    have sv := vspec (k0 := k0) hP hc hm e k (hb h0 p q l kvs) p q a l E G kvs s ups (by omega) lx (Bs.okh l dk.pure) lo h1 ho (Bs.dct_at l kvs) dk.env n2 n3 hu
    have g := runW_grow (a := a) (cal := calD P most d) (fun f vs l h => runP_grow d h) (t := denE E e) lo
    obtain ⟨k, rfl⟩ : ∃ j, k = j + 1 := ⟨k - 1, by omega⟩
    simp only [denB, runW_bind]
    cases e1 : runW most a (calD P most d) (denE E e) l with
    | cut l' =>
      rw [e1] at sv
      refine ⟨kvs, [some P.u, some (Bd.u (.elet x e b)), some (.obj q), some (upsU (ups ++ [a])), some (.obj p), o5, o6], dk.pure, ?_⟩
      simp (decide := true) [bodyS, whileL, Bd.u, sNe_str, sEq_str, sv, reOut, Re.bind, endS, Bs.setL_hb]
    | ok v l' =>
      rw [e1] at sv g
      have hv : HasV v s := runW_good (F := P.sig) (Q := (HasV · s)) (fun f vs ts s l v l' a b c => runP_good hP d a b c) (good_E ho e s h1) e1
      have dk' := dk.put (x := x) (v := v)
      have st := f_step (k := k) (a := a) (s := "let") (Bs.log_at l' (putD kvs x v.u)) (Bs.okh l' dk'.pure) hm
      have li := (Bs.log_at l' (putD kvs x v.u)).ins
      have l1 : kvs.length ≤ 1000 := by have := dk.few; omega
      simp only [Re.bind, runW]
      cases e2 : stepL most a "let" l' with
      | none =>
        rw [e2] at st
        refine ⟨putD kvs x v.u, [some P.u, some (Bd.u (.elet x e b)), some (.obj q), some (upsU (ups ++ [a])), some (.obj p), o5, o6], dk'.pure, ?_⟩
        simp (decide := true) [bodyS, whileL, Bd.u, sNe_str, sEq_str, sv, reOut, Bs.setL_hb, stD, Bs.dct_at, l1, hb_set, isIns, asI, li, upsU_last, st, endS, Kd.s, e2]
      | some l2 =>
        rw [e2] at st
        have g2 := stepL_grow g.ok e2
        obtain ⟨kvs', ls', hp, eq⟩ := bodyS_ok hP hc hm Bs hk hu b (o5 := o5) (o6 := o6) (n := n) h4 (ho.put hv) dk' (by omega) g2.ok (by omega)
        refine ⟨kvs', ls', hp, ?_⟩
        simp only [Kd.s, e2]
        rw [← eq]
        simp (decide := true) [bodyS, whileL, Bd.u, sNe_str, sEq_str, sv, reOut, Bs.setL_hb, stD, Bs.dct_at, l1, hb_set, isIns, asI, li, upsU_last, st]
  | .less x y b c, G, E, t, kvs, l, o5, o6, n, nk, ht, ho, dk, hn, lo, hd => by
    obtain ⟨n, rfl⟩ : ∃ j, n = j + 1 := ⟨n - 1, by omega⟩
    obtain ⟨n1, n2, n3⟩ := Bs.ne
    obtain ⟨h1, h2, h3, h4, h5, h6⟩ := ht
    simp only [Bd.dep] at hn hd
    have lx := Bs.log_at l kvs
    have sv := vspec (k0 := k0) hP hc hm x k (hb h0 p q l kvs) p q a l E G kvs .num ups (by omega) lx (Bs.okh l dk.pure) lo h1 ho (Bs.dct_at l kvs) dk.env n2 n3 hu
    have g := runW_grow (a := a) (cal := calD P most d) (fun f vs l h => runP_grow d h) (t := denE E x) lo
    obtain ⟨k, rfl⟩ : ∃ j, k = j + 1 := ⟨k - 1, by omega⟩
    simp only [denB, runW_bind]
    cases e1 : runW most a (calD P most d) (denE E x) l with
    | cut l' =>
      rw [e1] at sv
      refine ⟨kvs, [some P.u, some (Bd.u (.less x y b c)), some (.obj q), some (upsU (ups ++ [a])), some (.obj p), o5, o6], dk.pure, ?_⟩
      simp (decide := true) [bodyS, whileL, Bd.u, sNe_str, sEq_str, sv, reOut, Re.bind, endS, Bs.setL_hb]
    | ok v l' =>
      rw [e1] at sv g
      obtain ⟨i, rfl⟩ := (runW_good (F := P.sig) (Q := (HasV · .num)) (fun f vs ts s l v l' a b c => runP_good hP d a b c) (good_E ho x .num h1) e1).num
      have sw := vspec (k0 := k0) hP hc hm y (k + 1) (hb h0 p q l' kvs) p q a l' E G kvs .num ups (by omega) (Bs.log_at l' kvs) (Bs.okh l' dk.pure) g.ok h3 ho (Bs.dct_at l' kvs) dk.env n2 n3 hu
      have g' := runW_grow (a := a) (cal := calD P most d) (fun f vs l h => runP_grow d h) (t := denE E y) (l := l') g.ok
      simp only [Re.bind, runW_bind]
      cases e2 : runW most a (calD P most d) (denE E y) l' with
      | cut l2 =>
        rw [e2] at sw
        refine ⟨kvs, [some P.u, some (Bd.u (.less x y b c)), some (.obj q), some (upsU (ups ++ [a])), some (.obj p), some (.int i), o6], dk.pure, ?_⟩
        simp (decide := true) [bodyS, whileL, Bd.u, sNe_str, sEq_str, sv, reOut, Re.bind, endS, Bs.setL_hb, sw, Va.u]
      | ok w l2 =>
        rw [e2] at sw g'
        obtain ⟨j, rfl⟩ := (runW_good (F := P.sig) (Q := (HasV · .num)) (fun f vs ts s l v l' a b c => runP_good hP d a b c) (good_E ho y .num h3) e2).num
        have st := f_step (k := k) (a := a) (s := "less") (Bs.log_at l2 kvs) (Bs.okh l2 dk.pure) hm
        have li := (Bs.log_at l2 kvs).ins
        simp only [Re.bind, runW]
        cases e3 : stepL most a "less" l2 with
        | none =>
          rw [e3] at st
          refine ⟨kvs, [some P.u, some (Bd.u (.less x y b c)), some (.obj q), some (upsU (ups ++ [a])), some (.obj p), some (.int i), some (.int j)], dk.pure, ?_⟩
          simp (decide := true) [bodyS, whileL, Bd.u, sNe_str, sEq_str, sv, reOut, Bs.setL_hb, sw, Va.u, isIns, asI, li, upsU_last, st, endS, Kd.s, e3]
        | some l3 =>
          rw [e3] at st
          have g3 := stepL_grow g'.ok e3
          simp only [Kd.s, e3]
          by_cases hij : i < j
          · obtain ⟨kvs', ls', hp, eq⟩ := bodyS_ok hP hc hm Bs hk hu b (o5 := some (.int i)) (o6 := some (.int j)) (n := n) h5 ho dk (by omega) g3.ok (by omega)
            refine ⟨kvs', ls', hp, ?_⟩
            have hx : (if (Va.num i).n < (Va.num j).n then denB E b else denB E c) = denB E b := if_pos hij
            rw [hx, ← eq]
            simp (decide := true) [bodyS, whileL, Bd.u, sNe_str, sEq_str, sv, reOut, Bs.setL_hb, sw, Va.u, isIns, asI, li, upsU_last, st, hij]
          · obtain ⟨kvs', ls', hp, eq⟩ := bodyS_ok hP hc hm Bs hk hu c (o5 := some (.int i)) (o6 := some (.int j)) (n := n) h6 ho dk (by omega) g3.ok (by omega)
            refine ⟨kvs', ls', hp, ?_⟩
            have hx : (if (Va.num i).n < (Va.num j).n then denB E b else denB E c) = denB E c := if_neg hij
            rw [hx, ← eq]
            simp (decide := true) [bodyS, whileL, Bd.u, sNe_str, sEq_str, sv, reOut, Bs.setL_hb, sw, Va.u, isIns, asI, li, upsU_last, st, hij]
  | .olist x nb hd' tl cb, G, E, t, kvs, l, o5, o6, n, nk, ht, ho, dk, hn, lo, hd => by
    obtain ⟨n, rfl⟩ : ∃ j, n = j + 1 := ⟨n - 1, by omega⟩
    obtain ⟨n1, n2, n3⟩ := Bs.ne
    obtain ⟨h1, h2, h3, h4, h5, h6⟩ := ht
    simp only [Bd.dep] at hn hd
    obtain ⟨v, ev, hv⟩ := ho.get x .list h1
    obtain ⟨xs, rfl, hl⟩ := hv.list
    have lx := Bs.log_at l kvs
    obtain ⟨k, rfl⟩ : ∃ j, k = j + 1 := ⟨k - 1, by omega⟩
    have st := f_step (k := k) (a := a) (s := "open") lx (Bs.okh l dk.pure) hm
    have li := lx.ins
    simp only [denB, runW, Ev.get, ev, Option.getD_some, Va.l]
    cases e3 : stepL most a "open" l with
    | none =>
      rw [e3] at st
      refine ⟨kvs, [some P.u, some (Bd.u (.olist x nb hd' tl cb)), some (.obj q), some (upsU (ups ++ [a])), some (.obj p), o5, o6], dk.pure, ?_⟩
      simp (decide := true) [bodyS, whileL, Bd.u, sNe_str, sEq_str, isIns, asI, li, upsU_last, st, endS, Kd.s, e3]
    | some l3 =>
      rw [e3] at st
      have g3 := stepL_grow lo e3
      have op := f_open_list (k := k) (q := q) (hd := hd') (tl := tl) (nb := nb) (cb := cb) (Bs.okh l3 dk.pure) (Bs.dct_at l3 kvs) dk (by omega) ev
      simp only [Kd.s, e3]
      have un : Bd.u (.olist x nb hd' tl cb) = .seq .tup [.str "list", .str x, nb.u, .str hd', .str tl, cb.u] := rfl
      cases xs with
      | nil =>
        obtain ⟨kvs', ls', hp, eq⟩ := bodyS_ok hP hc hm Bs hk hu nb (o5 := o5) (o6 := o6) (n := n) h5 ho dk (by omega) g3.ok (by omega)
        refine ⟨kvs', ls', hp, ?_⟩
        rw [un] at op ⊢
        rw [← eq]
        simp (decide := true) [bodyS, whileL, sNe_str, sEq_str, isIns, asI, li, upsU_last, st, Bs.setL_hb, op]
      | cons y ys =>
        have dk2 := (dk.put (x := hd') (v := .num y)).put (x := tl) (v := .list ys)
        obtain ⟨kvs', ls', hp, eq⟩ := bodyS_ok hP hc hm Bs hk hu cb (o5 := o5) (o6 := o6) (n := n) h6 ((ho.put (t := .num) (v := .num y) ⟨rfl, trivial⟩).put (small_tail hl)) dk2 (by omega) g3.ok (by omega)
        refine ⟨kvs', ls', hp, ?_⟩
        rw [un] at op ⊢
        simp only [Va.u] at eq
        rw [← eq]
        simp (decide := true) [bodyS, whileL, sNe_str, sEq_str, isIns, asI, li, upsU_last, st, Bs.setL_hb, op, hb_set]
  | .otree x lb lf vl rt nb, G, E, t, kvs, l, o5, o6, n, nk, ht, ho, dk, hn, lo, hd => by
    obtain ⟨n, rfl⟩ : ∃ j, n = j + 1 := ⟨n - 1, by omega⟩
    obtain ⟨n1, n2, n3⟩ := Bs.ne
    obtain ⟨h1, _, _, _, _, _, _, h5, h6⟩ := ht
    simp only [Bd.dep] at hn hd
    obtain ⟨v, ev, hv⟩ := ho.get x .tree h1
    obtain ⟨tr, rfl, hl⟩ := hv.tree
    have lx := Bs.log_at l kvs
    obtain ⟨k, rfl⟩ : ∃ j, k = j + 1 := ⟨k - 1, by omega⟩
    have st := f_step (k := k) (a := a) (s := "open") lx (Bs.okh l dk.pure) hm
    have li := lx.ins
    simp only [denB, runW, Ev.get, ev, Option.getD_some, Va.t]
    cases e3 : stepL most a "open" l with
    | none =>
      rw [e3] at st
      refine ⟨kvs, [some P.u, some (Bd.u (.otree x lb lf vl rt nb)), some (.obj q), some (upsU (ups ++ [a])), some (.obj p), o5, o6], dk.pure, ?_⟩
      simp (decide := true) [bodyS, whileL, Bd.u, sNe_str, sEq_str, isIns, asI, li, upsU_last, st, endS, Kd.s, e3]
    | some l3 =>
      rw [e3] at st
      have g3 := stepL_grow lo e3
      have op := f_open_tree (k := k) (q := q) (lf := lf) (vl := vl) (rt := rt) (lb := lb) (nb := nb) (Bs.okh l3 dk.pure) (Bs.dct_at l3 kvs) dk (by omega) ev
      simp only [Kd.s, e3]
      have un : Bd.u (.otree x lb lf vl rt nb) = .seq .tup [.str "tree", .str x, lb.u, .str lf, .str vl, .str rt, nb.u] := rfl
      cases tr with
      | leaf =>
        obtain ⟨kvs', ls', hp, eq⟩ := bodyS_ok hP hc hm Bs hk hu lb (o5 := o5) (o6 := o6) (n := n) h5 ho dk (by omega) g3.ok (by omega)
        refine ⟨kvs', ls', hp, ?_⟩
        rw [un] at op ⊢
        rw [← eq]
        simp (decide := true) [bodyS, whileL, sNe_str, sEq_str, isIns, asI, li, upsU_last, st, Bs.setL_hb, op]
      | node c y e =>
        have hl : c.size + e.size + 1 ≤ 100 := hl
        have dk2 := ((dk.put (x := lf) (v := .tree c)).put (x := vl) (v := .num y)).put (x := rt) (v := .tree e)
        obtain ⟨kvs', ls', hp, eq⟩ := bodyS_ok hP hc hm Bs hk hu nb (o5 := o5) (o6 := o6) (n := n) h6 (((ho.put (t := .tree) (v := .tree c) ⟨rfl, by show c.size ≤ 100; omega⟩).put (t := .num) (v := .num y) ⟨rfl, trivial⟩).put (t := .tree) (v := .tree e) ⟨rfl, by show e.size ≤ 100; omega⟩) dk2 (by omega) g3.ok (by omega)
        refine ⟨kvs', ls', hp, ?_⟩
        rw [un] at op ⊢
        simp only [Va.u] at eq
        rw [← eq]
        simp (decide := true) [bodyS, whileL, sNe_str, sEq_str, isIns, asI, li, upsU_last, st, Bs.setL_hb, op, hb_set]
end
end Wk
set_option maxRecDepth 100000
set_option maxHeartbeats 4000000
/-! P9: call_value, trace. -/
namespace Wk
open PySem PySem.Spec PyProof.Rows L2

section
variable {P : Pg} {most d k0 : Nat}
theorem f_body (hP : PgOk P) (hc : CallOk P most d k0) (hm : most ≤ 900) {h0 : AH} {p q a k : Nat} {ups : List Nat} (Bs : Bas h0 p q most) (hk : k0 + 7 ≤ k) (hu : (ups ++ [a]).length + d = 20) {b : Bd} {G : Gam} {E : Ev} {t : Ty} {kvs : List (Str × U)} {l : Lg} {nk : Nat}
    (ht : tyB P.sig G b t) (ho : EvOk G E) (dk : Dk kvs E nk) (hn : nk + 3 * b.dep ≤ 900) (lo : LgOk most l) (hd : b.dep < 1000) :
    ∃ kvs', pureUs (kvs'.map (·.2)) = true ∧ sem k .body_value [P.u, b.u, .obj q, upsU (ups ++ [a]), .obj p] (hb h0 p q l kvs) = match runW most a (calD P most d) (denB E b) l with
      | .ok v l' => .ok v.u (hb h0 p q l' kvs')
      | .cut l' => .cut (hb h0 p q l' kvs') := by
  obtain ⟨k, rfl⟩ : ∃ j, k = j + 1 := ⟨k - 1, by omega⟩
  obtain ⟨kvs', ls', hp, eq⟩ := bodyS_ok hP hc hm Bs (k := k) (by omega) hu b (o5 := none) (o6 := none) (n := NN) ht ho dk hn lo (by simp [NN]; omega)
  refine ⟨kvs', hp, ?_⟩
  show Wk.runC 7 (m_body_value (sem k)) _ _ = _
  have e : runB 7 (m_body_value (sem k)) [P.u, b.u, .obj q, upsU (ups ++ [a]), .obj p] (hb h0 p q l kvs) = outOf (endS h0 p q kvs' ls' (runW most a (calD P most d) (denB E b) l)) := by
    rw [← eq]
    rfl
  rw [runC_ap, e]
  cases runW most a (calD P most d) (denB E b) l with
  | ok v l' => exact clean_same (by simp [hb_len]) (Bs.okh l' hp) (below_pure _ v.pure)
  | cut l' => exact clean_sameC (by simp [hb_len]) (Bs.okh l' hp)
/-- the params' dict -/
def bindD : List (Str × U) → List (Str × Ty) → List Va → List (Str × U)
  | kvs, (x, _) :: ps, v :: vs => bindD (putD kvs x v.u) ps vs
  | kvs, _, _ => kvs
theorem bindD_other {y : Str} : ∀ {ps : List (Str × Ty)} {vs : List Va} {kvs : List (Str × U)}, y ∉ ps.map (·.1) → look (bindD kvs ps vs) y = look kvs y
  | [], vs, kvs, h => by cases vs <;> rfl
  | (x, t) :: ps, [], kvs, h => rfl
  | (x, t) :: ps, v :: vs, kvs, h => by
    simp only [List.map_cons, List.mem_cons, not_or] at h
    simp only [bindD]
    rw [bindD_other h.2, look_put, if_neg h.1]
theorem bindD_dk : ∀ {ps : List (Str × Ty)} {vs : List Va} {kvs : List (Str × U)} {n : Nat}, (ps.map (·.1)).Nodup → kvs.length ≤ n → pureUs (kvs.map (·.2)) = true → Dk (bindD kvs ps vs) (ev0 ps vs) (n + ps.length)
  | [], vs, kvs, n, _, hl, hp => by
    have e : bindD kvs [] vs = kvs := by cases vs <;> rfl
    rw [e]
    exact ⟨⟨fun x v e => by cases vs <;> cases e⟩, by simpa using hl, hp⟩
  | (x, t) :: ps, [], kvs, n, _, hl, hp => ⟨⟨fun x v e => by cases e⟩, by simp [bindD]; omega, hp⟩
  | (x, t) :: ps, v :: vs, kvs, n, hnd, hl, hp => by
    simp only [List.map_cons, List.nodup_cons] at hnd
    have ih := bindD_dk (ps := ps) (vs := vs) (kvs := putD kvs x v.u) (n := n + 1) hnd.2 (Nat.le_trans putD_len.1 (by omega)) (putD_pure v.pure hp)
    refine ⟨⟨fun y w e => ?_⟩, by have := ih.few; simp [bindD]; omega, ih.pure⟩
    simp only [ev0] at e
    simp only [bindD]
    by_cases hy : y = x
    · rw [if_pos hy] at e
      cases e
      subst hy
      rw [bindD_other hnd.1, look_put, if_pos rfl]
    · rw [if_neg hy] at e
      exact ih.env.get y w e
theorem HasVs.len {vs : List Va} {ts : List Ty} (h : HasVs vs ts) : vs.length = ts.length := by
  induction h with
  | nil => rfl
  | cons _ _ ih => simp [ih]
theorem loop_bind {h : AH} {x0 x1 x2 x3 x4 x5 x6 x7 : Option U} : ∀ (ps : List (Str × Ty)) (vs : List Va) (kvs : List (Str × U)) (o9 o10 o11 : Option U), ps.length = vs.length → kvs.length + ps.length ≤ 900 →
    ∃ o9' o10', loopF (bodyT (tgT [9, 10]) (sSto stD (eVar 8) (eOp sIx (eVar 9) (eC (.int 0))) (eVar 10))) (zipU (ps.map prmU) (vs.map Va.u)) [x0, x1, x2, x3, x4, x5, x6, x7, some (.obj h.length), o9, o10, o11] (h ++ [.dct kvs]) =
      .nx [x0, x1, x2, x3, x4, x5, x6, x7, some (.obj h.length), o9', o10', o11] (h ++ [.dct (bindD kvs ps vs)])
  | [], [], kvs, o9, o10, o11, _, _ => ⟨o9, o10, rfl⟩
  | (x, t) :: ps, v :: vs, kvs, o9, o10, o11, hl, hn => by
    simp only [List.length_cons, Nat.add_right_cancel_iff] at hl
    simp only [List.length_cons] at hn
    have h1 : kvs.length ≤ 1000 := by omega
    have h2 := (putD_len (k := x) (u := v.u) (kvs := kvs)).1
    obtain ⟨o9', o10', e⟩ := loop_bind (h := h) (x0 := x0) (x1 := x1) (x2 := x2) (x3 := x3) (x4 := x4) (x5 := x5) (x6 := x6) (x7 := x7) ps vs (putD kvs x v.u) (some (prmU (x, t))) (some v.u) o11 hl (by omega)
    refine ⟨o9', o10', ?_⟩
    simp only [bindD]
    rw [← e]
    simp [loopF, zipU, bodyT, tgT, asT, setMany, prmU, stD, h1]
theorem sig_at {P : Pg} {f : Str} {ts : List Ty} {s : Ty} (h : P.sig f = some (ts, s)) : ∃ dd, P.at f = some dd ∧ dd.params.map (·.2) = ts ∧ dd.gives = s := by
  unfold Pg.sig at h
  obtain ⟨dd, hd, e2⟩ := Option.map_eq_some_iff.mp h
  cases e2
  exact ⟨dd, hd, rfl, rfl⟩
theorem call_zero : CallOk P most 0 1 := fun k h p l f vs ts s ups hk lx ok lo hf hv hu => by
  obtain ⟨k, rfl⟩ : ∃ j, k = j + 1 := ⟨k - 1, by omega⟩
  show Wk.runC 12 (m_call_value (sem k)) _ h = _
  have hl : (20 : Int) ≤ (ups.length : Int) := by omega
  have e : runB 12 (m_call_value (sem k)) [P.u, .str f, .seq .lst (vs.map Va.u), upsU ups, .obj p] h = .cut h := by
    simp [m_call_value, bLen, asSeq, upsU, hl]
  rw [runC_ap, e]
  simp only [runP, reOut, lx.same]
  exact clean_sameC rfl ok
def m_call_rest (S : SemT) : MS := sSeq (sSet 6 (eMeth ("begin" : Str) (arity 4 (S .log_begin)) (eVar 4) (aCons (eVar 1) (aCons (eVar 2) (aCons (eVar 5) (aNil)))))) (sSeq (sSet 7 (eCall (arity 2 (S .function_of)) (aCons (eVar 0) (aCons (eVar 1) (aNil))))) (sSeq (sSet 8 (eDict)) (sSeq (sFor NN (iZip2 (eOp sIx (eVar 7) (eC (.int 1))) (eVar 2)) (tgT [9, 10]) (sSto stD (eVar 8) (eOp sIx (eVar 9) (eC (.int 0))) (eVar 10))) (sSeq (sSet 11 (eCall (arity 5 (S .body_value)) (aCons (eVar 0) (aCons (eOp sIx (eVar 7) (eC (.int 3))) (aCons (eVar 8) (aCons (eOp sAdd (eVar 3) (eLst (aCons (eVar 6) (aNil)))) (aCons (eVar 4) (aNil)))))))) (sSeq (sExpr (eMeth ("end" : Str) (arity 3 (S .log_end)) (eVar 4) (aCons (eVar 6) (aCons (eVar 11) (aNil))))) (sRet (eVar 11)))))))
theorem m_call_is (S : SemT) : m_call_value S = sSeq (sIf (tst (eOp sGe (eCall bLen (aCons (eVar 3) (aNil))) (eC (.int 20)))) (sRaise) (sNil)) (sSeq (sSet 5 (eC .non)) (sSeq (sIf (tst (eOp sGt (eCall bLen (aCons (eVar 3) (aNil))) (eC (.int 0)))) (sSet 5 (eOp sIx (eVar 3) (eUn sNeg (eC (.int 1))))) (sNil)) (m_call_rest S))) := rfl
theorem LogAt.app {h t : AH} {p : Nat} {l : Lg} (x : LogAt h p most l) : LogAt (h ++ t) p most l := by
  have := x.lt
  exact ⟨by rw [List.getElem?_append_left (by omega)]; exact x.ins, by rw [List.getElem?_append_left (by omega)]; exact x.bg, by rw [List.getElem?_append_left (by omega)]; exact x.md⟩
theorem call_rest (hP : PgOk P) (hm : most ≤ 900) (hc : CallOk P most d k0) {k2 : Nat} {h : AH} {p : Nat} {l : Lg} {f : Str} {vs : List Va} {ts : List Ty} {s : Ty} {ups : List Nat} {up : Option Nat} (hk : k0 + 5 ≤ k2) (lx : LogAt h p most l) (ok : Okh h) (lo : LgOk most l) (hf : P.sig f = some (ts, s)) (hv : HasVs vs ts) (hu : ups.length + (d + 1) = 20) :
    (begin_ most f vs up l = none ∧ outOf (m_call_rest (sem (k2 + 2)) [some P.u, some (.str f), some (.seq .lst (vs.map Va.u)), some (upsU ups), some (.obj p), some (opU up), none, none, none, none, none, none] h) = .cut h) ∨
    ∃ l1 kvs', begin_ most f vs up l = some l1 ∧ outOf (m_call_rest (sem (k2 + 2)) [some P.u, some (.str f), some (.seq .lst (vs.map Va.u)), some (upsU ups), some (.obj p), some (opU up), none, none, none, none, none, none] h) =
      match runW most l.begun.length (calD P most d) (denF P f vs) l1 with
      | .ok v l2 => .ok v.u (setL h p (end_ l.begun.length v l2) ++ [.dct kvs'])
      | .cut l2 => .cut (setL h p l2 ++ [.dct kvs']) := by
  obtain ⟨dd, hd, hts, hgs⟩ := sig_at hf
  obtain ⟨fo, hname⟩ := hP.at_ok hd
  have hstr : PyData.strOk f = true := hname ▸ fo.str
  have hlen : dd.params.length = vs.length := by rw [hv.len, ← hts]; simp
  have hfew := fo.few
  have lb := lo.le
  have lm := lo.most
  have eb := f_begin (k := k2) (f := f) (vs := vs) (up := up) lx ok hm (by omega) (by omega)
  cases hb1 : begin_ most f vs up l with
  | none =>
    rw [hb1] at eb
    refine .inl ⟨rfl, ?_⟩
    simp [m_call_rest, isIns, asI, lx.ins, eb]
  | some l1 =>
    rw [hb1] at eb
    right
    obtain ⟨hlt, hl1⟩ := begin_some hb1
    have lo1 : LgOk most l1 := by subst hl1; exact ⟨by simp; omega, by simp; omega⟩
    have lx1 := lx.set l1
    have efn := f_function_of (k := k2 + 1) (h := setL h p l1) (f := f) hP ok.setL hstr
    rw [hd] at efn
    simp only at efn
    obtain ⟨o9, o10, el⟩ := loop_bind (h := setL h p l1) (x0 := some P.u) (x1 := some (.str f)) (x2 := some (.seq .lst (vs.map Va.u))) (x3 := some (upsU ups)) (x4 := some (.obj p)) (x5 := some (opU up)) (x6 := some (.int l.begun.length)) (x7 := some dd.u) dd.params vs [] none none none hlen (by simp; omega)
    have dk := bindD_dk (ps := dd.params) (vs := vs) (kvs := []) (n := 0) fo.nd (by simp) rfl
    have Bs : Bas (setL h p l1 ++ [.dct (bindD [] dd.params vs)]) p h.length most := ⟨⟨l1, lx1.app⟩, ⟨_, by rw [← setL_len h p l1]; exact get_new _ _⟩, ok.setL.app (belows_pure _ dk.pure)⟩
    have hself : hb (setL h p l1 ++ [.dct (bindD [] dd.params vs)]) p h.length l1 (bindD [] dd.params vs) = setL h p l1 ++ [.dct (bindD [] dd.params vs)] := hb_self lx1.app (by rw [← setL_len h p l1]; exact get_new _ _)
    have hbe : ∀ l' kvs', hb (setL h p l1 ++ [.dct (bindD [] dd.params vs)]) p h.length l' kvs' = setL h p l' ++ [.dct kvs'] := fun l' kvs' => by
      unfold hb
      rw [setL_app (by simpa using lx.lt), setL_setL]
      have := set_new (setL h p l') (.dct (bindD [] dd.params vs)) (.dct kvs')
      rw [setL_len] at this
      exact this
    have hv' : HasVs vs (dd.params.map (·.2)) := by rw [hts]; exact hv
    obtain ⟨kvs', hp', ebd⟩ := f_body (k0 := k0) (k := k2 + 2) (a := l.begun.length) (ups := ups) hP hc hm Bs (by omega) (by simp; omega) fo.body (ev0_ok hv') dk (by have := fo.dep; omega) lo1 (by have := fo.dep; omega)
    rw [hself] at ebd
    have hden : denF P f vs = denB (ev0 dd.params vs) dd.body := by unfold denF; rw [hd]
    refine ⟨l1, kvs', rfl, ?_⟩
    rw [hden]
    have g := runW_grow (a := l.begun.length) (cal := calD P most d) (fun f vs l h => runP_grow d h) (t := denB (ev0 dd.params vs) dd.body) lo1
    have hun : dd.u = .seq .tup [.str dd.name, .seq .tup (dd.params.map prmU), .seq .tup [dd.gives.u, .seq .tup (dd.sz.map U.int)], dd.body.u] := rfl
    have hadd : ∀ hh, sAdd (upsU ups) (.seq .lst [.int (l.begun.length : Int)]) hh = .ok (upsU (ups ++ [l.begun.length])) hh := fun hh => by
      have : ups.length + 1 ≤ 1000 := by omega
      simp [sAdd, upsU, asW, this]
    have hz : zipU (dd.params.map prmU) (vs.map Va.u) = zipU (dd.params.map prmU) (vs.map Va.u) := rfl
    rw [hun] at efn el
    simp [m_call_rest, isIns, asI, lx.ins, lx1.ins, eb, efn, asSeq]
    rw [forL_of (hit_zip (by simpa using hlen)) NN 0 _ _ (by simp) (by rw [zipU_len (by simpa using hlen)]; simp [NN]; omega)]
    rw [List.drop_zero]
    rw [setL_len] at el
    rw [el]
    simp [hadd, ebd]
    cases e3 : runW most l.begun.length (calD P most d) (denB (ev0 dd.params vs) dd.body) l1 with
    | cut l2 => simp [hbe]
    | ok v l2 =>
      rw [e3] at g
      have hg : l1.begun.length ≤ l2.begun.length := g.bg
      have hat : l.begun.length < l2.begun.length := by
        rw [hl1] at hg
        simp at hg
        omega
      have lx2 : LogAt (setL h p l2 ++ [.dct kvs']) p most l2 := (lx.set l2).app
      have ee := f_end (k := k2 + 1) (v := v) lx2 (ok.setL.app (belows_pure _ hp')) hat
      rw [setL_app (by simpa using lx.lt), setL_setL] at ee
      simp [hbe, isIns, asI, lx2.ins, ee]
theorem call_suc (hP : PgOk P) (hm : most ≤ 900) (hc : CallOk P most d k0) : CallOk P most (d + 1) (k0 + 8) := fun k h p l f vs ts s ups hk lx ok lo hf hv hu => by
  obtain ⟨k, rfl⟩ : ∃ j, k = j + 1 := ⟨k - 1, by omega⟩
  obtain ⟨k2, rfl⟩ : ∃ j, k = j + 2 := ⟨k - 2, by omega⟩
  show Wk.runC 12 (m_call_value (sem (k2 + 2))) _ h = _
  have hl : ¬ (20 : Int) ≤ (ups.length : Int) := by omega
  have front : runB 12 (m_call_value (sem (k2 + 2))) [P.u, .str f, .seq .lst (vs.map Va.u), upsU ups, .obj p] h =
      outOf (m_call_rest (sem (k2 + 2)) [some P.u, some (.str f), some (.seq .lst (vs.map Va.u)), some (upsU ups), some (.obj p), some (opU ups.getLast?), none, none, none, none, none, none] h) := by
    rw [runB_ap, m_call_is]
    rcases List.eq_nil_or_concat ups with rfl | ⟨us, a, rfl⟩
    · simp [upsU, bLen, asSeq, opU]
    · rw [List.concat_eq_append] at hl ⊢
      have hpos : (0 : Int) < (us.length : Int) + 1 := by omega
      have hl' : ¬ (20 : Int) ≤ (us.length : Int) + 1 := by simpa using hl
      have h1 : atI (us.map (fun (n : Nat) => U.int (n : Int)) ++ [U.int (a : Int)]) (-1) = some (U.int (a : Int)) := atI_neg1
      simp [upsU, bLen, asSeq, opU, h1, hpos, hl']
  rw [runC_ap, front]
  have e := call_rest (up := ups.getLast?) hP hm hc (k2 := k2) (by omega) lx ok lo hf hv hu
  unfold runP
  rcases e with ⟨e1, e2⟩ | ⟨l1, kvs', e1, e2⟩
  · rw [e1, e2]
    simp only [reOut, lx.same]
    exact clean_sameC rfl ok
  · rw [e1, e2]
    simp only
    have hcal : (fun f vs a l => runP P most d f vs (some a) l) = calD P most d := rfl
    rw [hcal]
    cases runW most l.begun.length (calD P most d) (denF P f vs) l1 with
    | ok v l2 => exact clean_app (by simp) ok.setL (below_pure _ v.pure)
    | cut l2 => exact clean_appC (by simp) ok.setL
theorem call_ok (hP : PgOk P) (hm : most ≤ 900) : ∀ d, CallOk P most d (8 * d + 1)
  | 0 => call_zero
  | d + 1 => by
    have := call_suc hP hm (call_ok hP hm d)
    rw [show 8 * (d + 1) + 1 = 8 * d + 1 + 8 by omega]
    exact this
end
end Wk
set_option maxRecDepth 100000
set_option maxHeartbeats 4000000
/-! P10: trace. -/
namespace Wk
open PySem PySem.Spec PyProof.Rows L2

def logO (n most : Nat) (l : Lg) : AH := [.ins [("most", .int most), ("begun", .obj (n + 1)), ("made", .obj (n + 2))], .lst (l.begun.map Rc.u), .lst (l.made.map stepU)]
theorem make_log {h : AH} {most : Nat} : eMake (arity 2 (runB 2 m_log_init)) (aCons (eC (.int most)) aNil) [] h = .ok (.obj h.length) (h ++ logO h.length most ⟨[], []⟩) := by
  have g1 : ∀ (a b : MO), (h ++ [a] ++ [b])[h.length]? = some a := fun a b => by simp
  have s1 : ∀ (a b c : MO), (h ++ [a] ++ [b]).set h.length c = h ++ [c] ++ [b] := fun a b c => by simp [List.set_append]
  have g2 : ∀ (a b c : MO), (h ++ [a, b, c])[h.length]? = some a := fun a b c => by simp
  have g3 : ∀ (a b : MO), (h ++ [a, b])[h.length]? = some a := fun a b => by simp
  have s3 : ∀ (a b c : MO), (h ++ [a, b]).set h.length c = h ++ [c, b] := fun a b c => by simp [List.set_append]
  have s4 : ∀ (a b d c : MO), (h ++ [a, b, d]).set h.length c = h ++ [c, b, d] := fun a b d c => by simp [List.set_append]
  have p1 : putI [] ("most" : Str) (.int most) = [(("most" : Str), U.int most)] := rfl
  have p2 : ∀ x, putI [(("most" : Str), U.int (most : Int))] ("begun" : Str) x = [(("most" : Str), U.int most), (("begun" : Str), x)] := fun x => by simp (decide := true) [putI]
  have p3 : ∀ x y, putI [(("most" : Str), U.int (most : Int)), (("begun" : Str), x)] ("made" : Str) y = [(("most" : Str), U.int most), (("begun" : Str), x), (("made" : Str), y)] := fun x y => by simp (decide := true) [putI]
  simp [eMake, runB_ap, m_log_init, stI, p1, p2, p3, g1, s1, g2, g3, s3, s4, logO]
theorem loop_fits {k : Nat} {h : AH} (ok : Okh h) {x0 x1 x2 x3 x4 : Option U} : ∀ (ps : List (Str × Ty)) (vs : List Va) (o5 o6 o7 o8 : Option U), HasVs vs (ps.map (·.2)) →
    ∃ o5' o6', loopF (bodyT (tgT [5, 6]) (sIf (tNotM (tst (eCall (arity 2 (sem (k + 3) .fits)) (aCons (eOp sIx (eVar 5) (eC (.int 1))) (aCons (eVar 6) (aNil)))))) (sNever) (sNil))) (zipU (ps.map prmU) (vs.map Va.u)) [x0, x1, x2, x3, x4, o5, o6, o7, o8] h =
      .nx [x0, x1, x2, x3, x4, o5', o6', o7, o8] h
  | [], vs, o5, o6, o7, o8, hv => by cases hv; exact ⟨o5, o6, rfl⟩
  | (x, t) :: ps, vs, o5, o6, o7, o8, hv => by
    cases hv with
    | cons h1 h2 =>
      rename_i v vs
      obtain ⟨o5', o6', e⟩ := loop_fits (k := k) ok (x0 := x0) (x1 := x1) (x2 := x2) (x3 := x3) (x4 := x4) ps vs (some (prmU (x, t))) (some v.u) o7 o8 h2
      have ef := f_fits (k := k) ok h1
      refine ⟨o5', o6', ?_⟩
      rw [← e]
      simp [loopF, zipU, bodyT, tgT, asT, setMany, prmU, ef]
/-- what trace tells -/
def trU (n : Nat) : Re Va → U
  | .ok v _ => .seq .tup [.bl true, v.u, .obj (n + 1), .obj (n + 2)]
  | .cut _ => .seq .tup [.bl false, .non, .obj (n + 1), .obj (n + 2)]
theorem logAt_new {h : AH} {most : Nat} {l : Lg} : LogAt (h ++ logO h.length most l) h.length most l := by
  refine ⟨by simp [logO], ?_, ?_⟩
  · rw [List.getElem?_append_right (by omega)]
    simp [logO]
  · rw [List.getElem?_append_right (by omega)]
    simp [logO]
theorem setL_new {h : AH} {most : Nat} {l l' : Lg} : setL (h ++ logO h.length most l) h.length l' = h ++ logO h.length most l' := by
  unfold setL
  rw [List.set_append_right _ _ (by omega), List.set_append_right _ _ (by omega)]
  simp [logO]
theorem okh_new {h : AH} {most : Nat} {l : Lg} (ok : Okh h) : Okh (h ++ logO h.length most l) := by
  unfold Okh at ok ⊢
  rw [List.all_append]
  refine Bool.and_eq_true_iff.mpr ⟨List.all_eq_true.mpr fun o ho => belowM_mono (by simp) o (List.all_eq_true.mp ok o ho), ?_⟩
  simp only [logO, List.all_cons, List.all_nil, Bool.and_true, Bool.and_eq_true, belowM]
  refine ⟨by simp [belowUs, belowU], belows_pure _ (rcs_pure _), belows_pure _ (steps_pure _)⟩
theorem f_trace {P : Pg} (hP : PgOk P) {k : Nat} {h : AH} {f : Str} {vs : List Va} {ts : List Ty} {s : Ty} {most : Nat} (hm : most ≤ 900) (ok : Okh h) (hf : P.sig f = some (ts, s)) (hv : HasVs vs ts) (hk : 162 ≤ k) :
    sem k .trace [P.u, .str f, .seq .lst (vs.map Va.u), .int most] h = .ok (trU h.length (runP P most 20 f vs none ⟨[], []⟩)) (h ++ logO h.length most (runP P most 20 f vs none ⟨[], []⟩).lg) := by
  obtain ⟨k, rfl⟩ : ∃ j, k = j + 4 := ⟨k - 4, by omega⟩
  show runB 9 (m_trace (sem (k + 3))) _ h = _
  obtain ⟨dd, hd, hts, hgs⟩ := sig_at hf
  obtain ⟨fo, hname⟩ := hP.at_ok hd
  have hstr : PyData.strOk f = true := hname ▸ fo.str
  have hlen : dd.params.length = vs.length := by rw [hv.len, ← hts]; simp
  have hfew := fo.few
  have efn := f_function_of (k := k + 2) (h := h) (f := f) hP ok hstr
  rw [hd] at efn
  simp only at efn
  have hv' : HasVs vs (dd.params.map (·.2)) := by rw [hts]; exact hv
  have hun : dd.u = .seq .tup [.str dd.name, .seq .tup (dd.params.map prmU), .seq .tup [dd.gives.u, .seq .tup (dd.sz.map U.int)], dd.body.u] := rfl
  obtain ⟨o5, o6, el⟩ := loop_fits (k := k) ok (x0 := some P.u) (x1 := some (.str f)) (x2 := some (.seq .lst (vs.map Va.u))) (x3 := some (.int most)) (x4 := some dd.u) dd.params vs none none none none hv'
  have ec := call_ok hP hm 20 (k + 3) (h ++ logO h.length most ⟨[], []⟩) h.length ⟨[], []⟩ f vs ts s [] (by omega) logAt_new (okh_new ok) ⟨by simp, by simp⟩ hf hv rfl
  have em : ∀ ls : Loc, ls[3]? = some (some (.int most)) → eMake (arity 2 (runB 2 m_log_init)) (aCons (eVar 3) aNil) ls h = .ok (.obj h.length) (h ++ logO h.length most ⟨[], []⟩) := fun ls hl => by
    have := make_log (h := h) (most := most)
    simp only [eMake, aCons_ap, eVar_ap, hl, eC_ap, aNil_ap] at this ⊢
    exact this
  rw [hun] at efn el
  have hg : ∀ l : Lg, (h ++ logO h.length most l)[h.length]? = some (.ins [("most", .int most), ("begun", .obj (h.length + 1)), ("made", .obj (h.length + 2))]) := fun l => logAt_new.ins
  have hne : ((vs.length : Int) = (dd.params.length : Int)) = True := by simp [hlen]
  simp [m_trace, efn, asSeq, sIsN, isNon, bLen, sNe_int, hlen]
  rw [forL_of (hit_zip (by simpa using hlen)) NN 0 _ _ (by simp) (by rw [zipU_len (by simpa using hlen)]; simp [NN]; omega)]
  rw [List.drop_zero, el]
  have eu : upsU [] = .seq .lst [] := rfl
  rw [eu] at ec
  simp only [List.getLast?_nil] at ec
  simp [em, sTry, ec]
  cases runP P most 20 f vs none ⟨[], []⟩ with
  | ok v l => simp [reOut, setL_new, sFl, asI, hg, trU, Re.lg]
  | cut l => simp [reOut, setL_new, sFl, asI, hg, trU, Re.lg]
end Wk
set_option maxRecDepth 100000
set_option maxHeartbeats 4000000
/-! P11: the law's walker: sizes, child, made. -/
namespace Wk
open PySem PySem.Spec PyProof.Rows L2

theorem f_lwhole {k : Nat} {u : U} {h : AH} {a b : Bool} (ok : Okh h) (e1 : isA h u .int = some a) (e2 : isA h u .bool = some b) : sem (k + 1) .law_whole [u] h = .ok (.bl (a && !b)) h := by
  have : runB 1 (m_law_whole (sem k)) [u] h = .ok (.bl (a && !b)) h := by
    cases a <;> simp [m_law_whole, bIsi, e1, e2]
  show Wk.runC 1 (m_law_whole (sem k)) [u] h = _
  rw [runC_ap, this]
  exact clean_same rfl ok rfl
theorem f_lwhole_int {k : Nat} {i : Int} {h : AH} (ok : Okh h) : sem (k + 1) .law_whole [.int i] h = .ok (.bl true) h := f_lwhole (a := true) (b := false) ok rfl rfl
theorem comp_whole {k : Nat} {h : AH} (ok : Okh h) {x0 x1 x2 x3 : Option U} : ∀ (xs : List Int) (acc : List U),
    compF (fun u h => tNotM (tst (eCall (arity 1 (sem (k + 1) .law_whole)) (aCons (eVar 4) (aNil)))) [x0, x1, x2, x3, some u] h) (fun u h => eVar 4 [x0, x1, x2, x3, some u] h) (xs.map U.int) acc h = .ok acc h
  | [], acc => rfl
  | x :: xs, acc => by
    have ih := comp_whole (k := k) ok (x0 := x0) (x1 := x1) (x2 := x2) (x3 := x3) xs acc
    simp only [List.map_cons, compF]
    rw [show tNotM (tst (eCall (arity 1 (sem (k + 1) .law_whole)) (aCons (eVar 4) (aNil)))) [x0, x1, x2, x3, some (.int x)] h = .ok false h by simp [f_lwhole_int ok]]
    simp only [Out.bind_ok, Bool.false_eq_true, if_false]
    exact ih
theorem f_lsize_num {k : Nat} {i : Int} {h : AH} (ok : Okh h) : sem (k + 2) .law_size [.str "num", .int i] h = .ok (.int 0) h := by
  show Wk.runC 5 (m_law_size (sem (k + 1))) _ h = _
  have e : runB 5 (m_law_size (sem (k + 1))) [.str "num", .int i] h = .ok (.int 0) h := by
    simp (decide := true) [m_law_size, sEq_str, f_lwhole_int ok, bInt]
  rw [runC_ap, e]
  exact clean_same rfl ok rfl
theorem f_lsize_list {k : Nat} {xs : List Int} {h : AH} (ok : Okh h) (hl : xs.length ≤ 900) : sem (k + 2) .law_size [.str "list", .seq .tup (xs.map U.int)] h = .ok (.int xs.length) h := by
  show Wk.runC 5 (m_law_size (sem (k + 1))) _ h = _
  have e : runB 5 (m_law_size (sem (k + 1))) [.str "list", .seq .tup (xs.map U.int)] h = .ok (.int xs.length) h := by
    have e0 : lcL (itSeq (.seq .tup (xs.map U.int))) (tgN 4) (tNotM (tst (eCall (arity 1 (sem (k + 1) .law_whole)) (aCons (eVar 4) (aNil))))) (eVar 4) [some (.str "list"), some (.seq .tup (xs.map U.int)), none, none, none] NN 0 [] h = .ok [] h := by
      rw [lcL_of (L := fun u => [some (.str "list"), some (.seq .tup (xs.map U.int)), none, none, some u]) hit_seq (fun u _ h => rfl) NN 0 _ _ (by simp) (by simp [NN]; omega)]
      exact comp_whole ok xs []
    simp (decide := true) [m_law_size, sEq_str, bIsi, isA, asSeq, bLen, wipeU, e0]
  rw [runC_ap, e]
  exact clean_same rfl ok rfl
theorem get_newJ (h j : AH) (x : MO) : (h ++ j ++ [x])[(h ++ j).length]? = some x := by simp
theorem while_lsize {k : Nat} {h : AH} (ok : Okh h) : ∀ (n : Nat) (ts : List Tr) (j : AH) (x0 x1 : Option U) (m : Int) (o : Option U), todo ts < n → todo ts ≤ 900 → Okh (h ++ j) →
    ∃ o' i' j', whileL (tst (eOp sGt (eCall bLen (aCons (eVar 3) (aNil))) (eC (.int 0)))) (sSeq (sSet 4 (eMt0 mtPop (eVar 3))) (sIf (tst (eOp sNotN (eVar 4) (eC .non))) (sSeq (sIf (tOrM (tNotM (tst (eCall (bIsi .tuple) (aCons (eVar 4) aNil)))) (tOrM (tst (eOp sNe (eCall bLen (aCons (eVar 4) (aNil))) (eC (.int 3)))) (tNotM (tst (eCall (arity 1 (sem (k + 1) .law_whole)) (aCons (eOp sIx (eVar 4) (eC (.int 1))) (aNil))))))) (sRet (eUn sNeg (eC (.int 1)))) (sNil)) (sSeq (sSet 2 (eOp sAdd (eVar 2) (eC (.int 1)))) (sSet 3 (eOp sAddN (eVar 3) (eLst (aCons (eOp sIx (eVar 4) (eC (.int 0))) (aCons (eOp sIx (eVar 4) (eC (.int 2))) (aNil)))))))) (sNil))) n
      [x0, x1, some (.int m), some (.obj (h ++ j).length), o] (h ++ j ++ [.lst (ts.map Tr.u)]) = .nx [x0, x1, some (.int (m + sizes ts)), some (.obj i'), o'] (h ++ j')
  | 0, ts, j, x0, x1, m, o, h1, _, _ => by omega
  | n + 1, ts, j, x0, x1, m, o, h1, h3, okj => by
    rcases List.eq_nil_or_concat ts with rfl | ⟨xs, t, rfl⟩
    · refine ⟨o, (h ++ j).length, j ++ [.lst []], ?_⟩
      have g := get_newJ h j (.lst [])
      simp [whileL, bLen, asSeq, sizes]
    · rw [List.concat_eq_append] at h1 h3 ⊢
      rw [todo_app] at h1 h3
      simp only [todo] at h1 h3
      have hpos : (0 : Int) < (xs.length : Int) + 1 := by omega
      generalize hq : h ++ j = hj at okj ⊢
      cases t with
      | leaf =>
        obtain ⟨o', i', j', e⟩ := while_lsize (k := k) ok n xs j x0 x1 m (some .non) (by omega) (by omega) (by rw [hq]; exact okj)
        rw [hq] at e
        refine ⟨o', i', j', ?_⟩
        simp [whileL, bLen, asSeq, mtPop, isLo, sNotN, isNon, Tr.u, sizes_app, sizes, Tr.size, hpos]
        exact e
      | node l x r =>
        simp only [Tr.size] at h1 h3
        have okn : Okh (hj ++ [.lst (xs.map Tr.u)]) := okj.app (belows_pure _ (trs_pure xs))
        obtain ⟨o', i', j', e⟩ := while_lsize (k := k) ok n (xs ++ [l, r]) (j ++ [.lst (xs.map Tr.u)]) x0 x1 (m + 1) (some (Tr.node l x r).u) (by rw [todo_app]; simp only [todo]; omega) (by rw [todo_app]; simp only [todo]; omega) (by rw [← List.append_assoc, hq]; exact okn)
        rw [← List.append_assoc, hq] at e
        refine ⟨o', i', j', ?_⟩
        have hx : xs.length ≤ 900 := Nat.le_trans (todo_len xs) (by omega)
        have hx2 : xs.length + 2 ≤ 1000 := by omega
        simp only [List.map_append, List.map_cons, List.map_nil] at e
        have es : m + 1 + ((sizes (xs ++ [l, r]) : Nat) : Int) = m + ((sizes (xs ++ [Tr.node l x r]) : Nat) : Int) := by
          rw [sizes_app, sizes_app]; simp only [sizes, Tr.size]; omega
        rw [es] at e
        simp [whileL, bLen, asSeq, mtPop, isLo, sNotN, isNon, Tr.u, hpos, bIsi, isA, sNe_int, f_lwhole_int okn, sAddN, asW, hx2]
        simp [Tr.u] at e
        exact e
theorem f_lsize_tree {k : Nat} {t : Tr} {h : AH} (ok : Okh h) (hl : t.size ≤ 400) : sem (k + 2) .law_size [.str "tree", t.u] h = .ok (.int t.size) h := by
  show Wk.runC 5 (m_law_size (sem (k + 1))) _ h = _
  obtain ⟨o', i', j', e⟩ := while_lsize (k := k) ok NN [t] [] (some (.str "tree")) (some t.u) 0 none (by simp [todo, NN]; omega) (by simp [todo]; omega) (by simpa using ok)
  simp only [List.map_cons, List.map_nil, List.append_nil] at e
  have e : runB 5 (m_law_size (sem (k + 1))) [.str "tree", t.u] h = .ok (.int t.size) (h ++ j') := by
    simp only [m_law_size, runB_ap, sSeq_ap, sWhile_ap, sSet_ap, eNew_ap, eVar_ap, aCons_ap, aNil_ap]
    simp (decide := true) [sEq_str]
    rw [e]
    simp [sizes]
  rw [runC_ap, e]
  exact clean_app rfl ok rfl
theorem f_lsize {k : Nat} {v : Va} {t : Ty} {h : AH} (ok : Okh h) (hv : HasV v t) : ∃ i : Int, 0 ≤ i ∧ sem (k + 2) .law_size [t.u, v.u] h = .ok (.int i) h := by
  cases t with
  | num => obtain ⟨i, rfl⟩ := hv.num; exact ⟨0, by omega, f_lsize_num ok⟩
  | list => obtain ⟨xs, rfl, hl⟩ := hv.list; exact ⟨xs.length, by omega, f_lsize_list ok (by omega)⟩
  | tree => obtain ⟨tr, rfl, hl⟩ := hv.tree; exact ⟨tr.size, by omega, f_lsize_tree ok (by omega)⟩

/-! ### the walk's heap -/
inductive Evt where
  | kd (s : Str)
  | cl (f : Str) (vs : List Va)
def Evt.u : Evt → U
  | .kd s => .str s
  | .cl f vs => .seq .tup [.str f, .seq .tup (vs.map Va.u)]
def wh (H : AH) (ch : List Rc) (o : List Evt) (n : Nat) (stop : Bool) (kvs : List (Str × U)) : AH :=
  H ++ [.lst (o.map Evt.u), .lst [.obj H.length, .seq .lst (ch.map Rc.u), .int n, .bl stop], .dct kvs]
section
variable (H : AH) (a b c x : MO)
theorem g3a : (H ++ [a, b, c])[H.length]? = some a := by simp
theorem g3b : (H ++ [a, b, c])[H.length + 1]? = some b := by rw [List.getElem?_append_right (by omega)]; simp
theorem g3c : (H ++ [a, b, c])[H.length + 2]? = some c := by rw [List.getElem?_append_right (by omega)]; simp
theorem s3a : (H ++ [a, b, c]).set H.length x = H ++ [x, b, c] := by simp [List.set_append]
theorem s3b : (H ++ [a, b, c]).set (H.length + 1) x = H ++ [a, x, c] := by rw [List.set_append_right _ _ (by omega)]; simp
theorem s3c : (H ++ [a, b, c]).set (H.length + 2) x = H ++ [a, b, x] := by rw [List.set_append_right _ _ (by omega)]; simp
end
section
variable {H : AH} {ch : List Rc} {o : List Evt} {n : Nat} {st : Bool} {kvs : List (Str × U)}
@[simp] theorem wh_a : (wh H ch o n st kvs)[H.length]? = some (.lst (o.map Evt.u)) := g3a ..
@[simp] theorem wh_b : (wh H ch o n st kvs)[H.length + 1]? = some (.lst [.obj H.length, .seq .lst (ch.map Rc.u), .int n, .bl st]) := g3b ..
@[simp] theorem wh_c : (wh H ch o n st kvs)[H.length + 2]? = some (.dct kvs) := g3c ..
@[simp] theorem wh_sa (e : Evt) : (wh H ch o n st kvs).set H.length (.lst (o.map Evt.u ++ [e.u])) = wh H ch (o ++ [e]) n st kvs := by
  unfold wh; rw [s3a]; simp
@[simp] theorem wh_sb (m : Nat) (t : Bool) : (wh H ch o n st kvs).set (H.length + 1) (.lst [.obj H.length, .seq .lst (ch.map Rc.u), .int m, .bl t]) = wh H ch o m t kvs := by
  unfold wh; rw [s3b]
@[simp] theorem wh_sc (kvs' : List (Str × U)) : (wh H ch o n st kvs).set (H.length + 2) (.dct kvs') = wh H ch o n st kvs' := by
  unfold wh; rw [s3c]
theorem wh_len : (wh H ch o n st kvs).length = H.length + 3 := by simp [wh]
theorem evts_pure : ∀ es : List Evt, pureUs (es.map Evt.u) = true
  | [] => rfl
  | e :: es => by cases e <;> simp [pureUs, Evt.u, pureU, vas_pure, evts_pure es]
theorem wh_ok (ok : Okh H) (hp : pureUs (kvs.map (·.2)) = true) : Okh (wh H ch o n st kvs) := by
  unfold Okh at ok ⊢
  unfold wh
  rw [List.all_append]
  refine Bool.and_eq_true_iff.mpr ⟨List.all_eq_true.mpr fun o ho => belowM_mono (by simp) o (List.all_eq_true.mp ok o ho), ?_⟩
  simp only [List.all_cons, List.all_nil, Bool.and_true, Bool.and_eq_true, belowM]
  refine ⟨belows_pure _ (evts_pure _), ?_, belows_pure _ hp⟩
  simp [belowUs, belowU, belows_pure _ (rcs_pure ch)]
end
@[simp] theorem ix42 : ixN 4 2 = some 2 := rfl
@[simp] theorem ix43 : ixN 4 3 = some 3 := rfl
@[simp] theorem sIx_obj (h : AH) (i : Nat) (j : Int) : sIx (.obj i) (.int j) h = match asSeq h (.obj i) with
  | some us => match atI us j with
    | some x => .ok x h
    | none => .bad
  | none => .bad := rfl

/-! ### child, made -/
theorem vas_strs : ∀ vs : List Va, strsOks (vs.map Va.u) = true
  | [] => rfl
  | v :: vs => by simp [strsOks, v.strs, vas_strs vs]
theorem vas_dep : ∀ {vs : List Va} {ts : List Ty}, HasVs vs ts → PyData.depthAll (toPs (vs.map Va.u)) ≤ 101
  | [], _, _ => by simp [toPs, PyData.depthAll]
  | v :: vs, _, .cons h1 h2 => by
    have := vas_dep h2
    have hd := Va.dep h1.sm
    simp only [List.map_cons, toPs, PyData.depthAll]
    omega
theorem cmp_vas {vs : List Va} {ts : List Ty} (h : HasVs vs ts) : Cmp (.seq .tup (vs.map Va.u)) :=
  ⟨by simp only [pureU]; exact vas_pure vs, by simp only [strsOk]; exact vas_strs vs, by
    have := vas_dep h
    simp only [toP, PyData.depth]
    omega⟩
section
variable {H : AH} {ch : List Rc} {o : List Evt} {n : Nat} {kvs : List (Str × U)} {k : Nat}
theorem f_child_stop {a b : U} (ok : Okh H) (hp : pureUs (kvs.map (·.2)) = true) : sem (k + 1) .law_child [.obj (H.length + 1), a, b] (wh H ch o n true kvs) = .ok .non (wh H ch o n true kvs) := by
  show Wk.runC 4 (m_law_child (sem k)) _ _ = _
  have e : runB 4 (m_law_child (sem k)) [.obj (H.length + 1), a, b] (wh H ch o n true kvs) = .ok .non (wh H ch o n true kvs) := by
    simp [m_law_child, asSeq]
  rw [runC_ap, e]
  exact clean_same rfl (wh_ok ok hp) rfl
theorem f_child_end {f : Str} {vs : List Va} (ok : Okh H) (hp : pureUs (kvs.map (·.2)) = true) (hn : ch.length ≤ n) (ho : o.length ≤ 900) :
    sem (k + 1) .law_child [.obj (H.length + 1), .str f, .seq .tup (vs.map Va.u)] (wh H ch o n false kvs) = .ok .non (wh H ch (o ++ [.cl f vs]) n true kvs) := by
  show Wk.runC 4 (m_law_child (sem k)) _ _ = _
  have e : runB 4 (m_law_child (sem k)) [.obj (H.length + 1), .str f, .seq .tup (vs.map Va.u)] (wh H ch o n false kvs) = .ok .non (wh H ch (o ++ [.cl f vs]) n true kvs) := by
    have h1 : ¬ (n : Int) < (ch.length : Int) := by omega
    have h2 : o.length ≤ 999 := by omega
    have h3 := wh_sa (H := H) (ch := ch) (o := o) (n := n) (st := false) (kvs := kvs) (.cl f vs)
    simp only [Evt.u] at h3
    simp [m_law_child, asSeq, isLo, mtAppend, h2, h3, bLen, h1, stL]
  rw [runC_ap, e]
  exact clean_same (by simp [wh_len]) (wh_ok ok hp) rfl
theorem f_child_at {f : Str} {vs : List Va} {ts : List Ty} {c : Rc} (ok : Okh H) (hp : pureUs (kvs.map (·.2)) = true) (hf : PyData.strOk f = true) (hv : HasVs vs ts) (hc : ch[n]? = some c) (h1 : c.name = f) (h2 : c.args = vs) (ho : o.length ≤ 900) :
    sem (k + 1) .law_child [.obj (H.length + 1), .str f, .seq .tup (vs.map Va.u)] (wh H ch o n false kvs) = .ok (valU c.res) (wh H ch (o ++ [.cl f vs]) (n + 1) c.res.isNone kvs) := by
  show Wk.runC 4 (m_law_child (sem k)) _ _ = _
  have e : runB 4 (m_law_child (sem k)) [.obj (H.length + 1), .str f, .seq .tup (vs.map Va.u)] (wh H ch o n false kvs) = .ok (valU c.res) (wh H ch (o ++ [.cl f vs]) (n + 1) c.res.isNone kvs) := by
    have hl := (List.getElem?_eq_some_iff.mp hc).1
    have h4 : (n : Int) < (ch.length : Int) := by omega
    have h5 : o.length ≤ 999 := by omega
    have h3 := wh_sa (H := H) (ch := ch) (o := o) (n := n) (st := false) (kvs := kvs) (.cl f vs)
    simp only [Evt.u] at h3
    have h6 : atI (ch.map Rc.u) (n : Int) = some c.u := atI_ofNat (by rw [List.getElem?_map, hc]; rfl)
    have h7 := wh_sb (H := H) (ch := ch) (o := o ++ [.cl f vs]) (n := n) (st := false) (kvs := kvs) (n + 1) false
    rw [show (((n + 1 : Nat)) : Int) = (n : Int) + 1 by omega] at h7
    have h8 := wh_sb (H := H) (ch := ch) (o := o ++ [.cl f vs]) (n := n + 1) (st := false) (kvs := kvs) (n + 1) true
    rw [show (((n + 1 : Nat)) : Int) = (n : Int) + 1 by omega] at h8
    have h9 : (wh H ch (o ++ [.cl f vs]) (n + 1) false kvs)[H.length + 1]? = some (.lst [.obj H.length, .seq .lst (ch.map Rc.u), .int ((n : Int) + 1), .bl false]) := by
      rw [wh_b, show (((n + 1 : Nat)) : Int) = (n : Int) + 1 by omega]
    have hcu : c.u = .seq .tup [.str f, .seq .tup (vs.map Va.u), opU c.up, .bl c.res.isSome, valU c.res] := by rw [← h1, ← h2]; rfl
    have t1 : ∀ hh, sEq (.str f) (.str f) hh = .ok (.bl true) hh := fun hh => sEq_same (cmp_str hf)
    have t2 : ∀ hh, sEq (.seq .tup (vs.map Va.u)) (.seq .tup (vs.map Va.u)) hh = .ok (.bl true) hh := fun hh => sEq_same (cmp_vas hv)
    cases hr : c.res with
    | none =>
      rw [hr] at hcu
      simp [m_law_child, asSeq, isLo, mtAppend, h5, h3, bLen, h4, stL, h6, hcu, h7, h8, h9, t1, t2, valU]
    | some v =>
      rw [hr] at hcu
      simp [m_law_child, asSeq, isLo, mtAppend, h5, h3, bLen, h4, stL, h6, hcu, h7, h8, h9, t1, t2, valU]
  rw [runC_ap, e]
  refine clean_same (by simp [wh_len]) (wh_ok ok hp) ?_
  cases c.res with
  | none => rfl
  | some v => exact below_pure _ v.pure
end
end Wk
set_option maxRecDepth 100000
set_option maxHeartbeats 4000000
/-! P12: the walker's reading of a tree; made, value. -/
namespace Wk
open PySem PySem.Spec PyProof.Rows L2

/-- the walker reads a tree: its children are those it meets -/
inductive WR (F : Sig) (ch : List Rc) : {α : Type} → IT α → List Evt → Nat → Option α → List Evt → Nat → Prop where
  | ret {α : Type} (a : α) (o : List Evt) (n : Nat) : WR F ch (.ret a) o n (some a) o n
  | stp {α : Type} {k : Kd} {t : IT α} {o o' : List Evt} {n n' : Nat} {r : Option α} : WR F ch t (o ++ [.kd k.s]) n r o' n' → WR F ch (.stp k t) o n r o' n'
  | go {α : Type} {f : Str} {vs : List Va} {t : Va → IT α} {o o' : List Evt} {n n' : Nat} {r : Option α} {c : Rc} {v : Va} {ts : List Ty} {s : Ty} : ch[n]? = some c → c.name = f → c.args = vs → c.res = some v → F f = some (ts, s) → HasV v s → WR F ch (t v) (o ++ [.cl f vs]) (n + 1) r o' n' → WR F ch (.ask f vs t) o n r o' n'
  | stop {α : Type} {f : Str} {vs : List Va} {t : Va → IT α} {o : List Evt} {n : Nat} {c : Rc} : ch[n]? = some c → c.name = f → c.args = vs → c.res = none → WR F ch (.ask f vs t) o n none (o ++ [.cl f vs]) (n + 1)
  | last {α : Type} {f : Str} {vs : List Va} {t : Va → IT α} {o : List Evt} {n : Nat} : ch.length ≤ n → WR F ch (.ask f vs t) o n none (o ++ [.cl f vs]) n
  | great {α : Type} (o : List Evt) (n : Nat) : WR F ch (.great : IT α) o n none (o ++ [.kd "great"]) n
section
variable {F : Sig} {ch : List Rc}
theorem WR.bind {α β : Type} {f : α → IT β} : ∀ {t : IT α} {o o' : List Evt} {n n' : Nat} {r : Option β}, WR F ch (t.bind f) o n r o' n' → (r = none ∧ WR F ch t o n none o' n') ∨ ∃ a o1 n1, WR F ch t o n (some a) o1 n1 ∧ WR F ch (f a) o1 n1 r o' n'
  | .ret a, o, o', n, n', r, h => .inr ⟨a, o, n, .ret a o n, h⟩
  | .stp k t, o, o', n, n', r, h => by
    simp only [IT.bind] at h
    cases h with
    | stp h =>
      rcases WR.bind (t := t) h with ⟨h1, h2⟩ | ⟨a, o1, n1, h1, h2⟩
      · exact .inl ⟨h1, .stp h2⟩
      · exact .inr ⟨a, o1, n1, .stp h1, h2⟩
  | .ask g vs t, o, o', n, n', r, h => by
    simp only [IT.bind] at h
    cases h with
    | @go _ _ _ _ _ _ _ _ c v ts s h1 h2 h3 h4 h5 h6 h =>
      rcases WR.bind (t := t v) h with ⟨e1, e2⟩ | ⟨a, o1, n1, e1, e2⟩
      · exact .inl ⟨e1, .go h1 h2 h3 h4 h5 h6 e2⟩
      · exact .inr ⟨a, o1, n1, .go h1 h2 h3 h4 h5 h6 e1, e2⟩
    | stop h1 h2 h3 h4 => exact .inl ⟨rfl, .stop h1 h2 h3 h4⟩
    | last h1 => exact .inl ⟨rfl, .last h1⟩
  | .great, o, o', n, n', r, h => by
    simp only [IT.bind] at h
    cases h with
    | great => exact .inl ⟨rfl, .great _ _⟩
theorem WR.len {α : Type} : ∀ {t : IT α} {o o' : List Evt} {n n' : Nat} {r : Option α}, WR F ch t o n r o' n' → o.length ≤ o'.length
  | .ret a, o, o', n, n', r, h => by cases h; omega
  | .stp k t, o, o', n, n', r, h => by
    cases h with
    | stp h => have := WR.len (t := t) h; simp at this; omega
  | .ask g vs t, o, o', n, n', r, h => by
    cases h with
    | @go _ _ _ _ _ _ _ _ c v ts s h1 h2 h3 h4 h5 h6 h => have := WR.len (t := t v) h; simp at this; omega
    | stop h1 h2 h3 h4 => simp
    | last h1 => simp
  | .great, o, o', n, n', r, h => by cases h; simp
theorem WR.good {α : Type} {Q : α → Prop} : ∀ {t : IT α} {o o' : List Evt} {n n' : Nat} {a : α}, Good F Q t → WR F ch t o n (some a) o' n' → Q a
  | .ret a, o, o', n, n', _, g, h => by cases h; exact g
  | .stp k t, o, o', n, n', _, g, h => by cases h with | stp h => exact WR.good (t := t) g h
  | .ask f vs t, o, o', n, n', _, g, h => by
    obtain ⟨ts, s, h1, h2, h3⟩ := g
    cases h with
    | @go _ _ _ _ _ _ _ _ c v ts' s' a1 a2 a3 a4 a5 a6 h =>
      rw [h1] at a5
      cases a5
      exact WR.good (t := t v) (h3 v a6) h
  | .great, o, o', n, n', _, g, h => by cases h
/-- how many events a tree can have -/
def Bnd {α : Type} : Nat → IT α → Prop
  | _, .ret _ => True
  | m, .stp _ t => ∃ j, m = j + 1 ∧ Bnd j t
  | m, .ask _ _ t => ∃ j, m = j + 1 ∧ ∀ v, Bnd j (t v)
  | m, .great => ∃ j, m = j + 1
theorem Bnd.mono {α : Type} : ∀ {t : IT α} {m m' : Nat}, m ≤ m' → Bnd m t → Bnd m' t
  | .ret _, _, _, _, _ => trivial
  | .stp _ t, m, m', h, ⟨j, e, b⟩ => ⟨m' - 1, by omega, Bnd.mono (t := t) (by omega) b⟩
  | .ask _ _ t, m, m', h, ⟨j, e, b⟩ => ⟨m' - 1, by omega, fun v => Bnd.mono (t := t v) (by omega) (b v)⟩
  | .great, m, m', h, ⟨j, e⟩ => ⟨m' - 1, by omega⟩
theorem Bnd.bind {α β : Type} {f : α → IT β} : ∀ {t : IT α} {m m' : Nat}, Bnd m t → (∀ a, Bnd m' (f a)) → Bnd (m + m') (t.bind f)
  | .ret a, m, m', _, k => Bnd.mono (Nat.le_add_left _ _) (k a)
  | .stp _ t, m, m', ⟨j, e, b⟩, k => ⟨j + m', by omega, Bnd.bind (t := t) b k⟩
  | .ask _ _ t, m, m', ⟨j, e, b⟩, k => ⟨j + m', by omega, fun v => Bnd.bind (t := t v) (b v) k⟩
  | .great, m, m', ⟨j, e⟩, k => ⟨j + m', by omega⟩
theorem WR.bnd {α : Type} : ∀ {t : IT α} {o o' : List Evt} {n n' m : Nat} {r : Option α}, Bnd m t → WR F ch t o n r o' n' → o'.length ≤ o.length + m
  | .ret a, o, o', n, n', m, r, b, h => by cases h; omega
  | .stp k t, o, o', n, n', m, r, ⟨j, e, b⟩, h => by
    cases h with
    | stp h => have := WR.bnd (t := t) b h; simp at this; omega
  | .ask g vs t, o, o', n, n', m, r, ⟨j, e, b⟩, h => by
    cases h with
    | @go _ _ _ _ _ _ _ _ c v ts s h1 h2 h3 h4 h5 h6 h => have := WR.bnd (t := t v) (b v) h; simp at this; omega
    | stop h1 h2 h3 h4 => simp; omega
    | last h1 => simp; omega
  | .great, o, o', n, n', m, r, ⟨j, e⟩, h => by cases h; simp; omega
end
def cb : Nat → Nat
  | 0 => 0
  | d + 1 => 3 * cb d + 1
theorem cb_mono : ∀ {a b : Nat}, a ≤ b → cb a ≤ cb b
  | 0, b, _ => Nat.zero_le _
  | a + 1, b, h => by
    obtain ⟨b, rfl⟩ : ∃ j, b = j + 1 := ⟨b - 1, by omega⟩
    have := cb_mono (show a ≤ b by omega)
    simp only [cb]; omega
theorem bnd_cons {x y : Va} : Bnd 1 (mkCons x y) := by
  unfold mkCons
  split
  · exact ⟨0, rfl⟩
  · exact ⟨0, rfl, trivial⟩
theorem bnd_node {x y z : Va} : Bnd 1 (mkNode x y z) := by
  unfold mkNode
  split
  · exact ⟨0, rfl⟩
  · exact ⟨0, rfl, trivial⟩
mutual
theorem bnd_E {F : Sig} {G : Gam} {E : Ev} (hF : ∀ f ts s, F f = some (ts, s) → ts.length ≤ 3) : ∀ (e : Ex) (t : Ty), tyE F G e t → Bnd (cb e.dep) (denE E e)
  | .num i, t, h => by simp only [denE]; trivial
  | .var x, t, h => by simp only [denE]; trivial
  | .nil, t, h => by simp only [denE]; trivial
  | .leaf, t, h => by simp only [denE]; trivial
  | .add a b, t, h => by
    simp only [tyE] at h
    simp only [denE, Ex.dep, cb]
    have h1 := bnd_E hF (E := E) a _ h.2.1
    have h2 := bnd_E hF (E := E) b _ h.2.2
    have m1 := cb_mono (Nat.le_max_left a.dep b.dep)
    have m2 := cb_mono (Nat.le_max_right a.dep b.dep)
    refine Bnd.mono (m := cb a.dep + (cb b.dep + 1)) (by omega) (h1.bind fun x => h2.bind fun y => ?_)
    exact ⟨0, rfl, trivial⟩
  | .sub a b, t, h => by
    simp only [tyE] at h
    simp only [denE, Ex.dep, cb]
    have h1 := bnd_E hF (E := E) a _ h.2.1
    have h2 := bnd_E hF (E := E) b _ h.2.2
    have m1 := cb_mono (Nat.le_max_left a.dep b.dep)
    have m2 := cb_mono (Nat.le_max_right a.dep b.dep)
    refine Bnd.mono (m := cb a.dep + (cb b.dep + 1)) (by omega) (h1.bind fun x => h2.bind fun y => ?_)
    exact ⟨0, rfl, trivial⟩
  | .cons a b, t, h => by
    simp only [tyE] at h
    simp only [denE, Ex.dep, cb]
    have h1 := bnd_E hF (E := E) a _ h.2.1
    have h2 := bnd_E hF (E := E) b _ h.2.2
    have m1 := cb_mono (Nat.le_max_left a.dep b.dep)
    have m2 := cb_mono (Nat.le_max_right a.dep b.dep)
    exact Bnd.mono (m := cb a.dep + (cb b.dep + 1)) (by omega) (h1.bind fun x => h2.bind fun y => bnd_cons)
  | .node a b c, t, h => by
    simp only [tyE] at h
    simp only [denE, Ex.dep, cb]
    have h1 := bnd_E hF (E := E) a _ h.2.1
    have h2 := bnd_E hF (E := E) b _ h.2.2.1
    have h3 := bnd_E hF (E := E) c _ h.2.2.2
    have m1 := cb_mono (show a.dep ≤ max a.dep (max b.dep c.dep) by omega)
    have m2 := cb_mono (show b.dep ≤ max a.dep (max b.dep c.dep) by omega)
    have m3 := cb_mono (show c.dep ≤ max a.dep (max b.dep c.dep) by omega)
    exact Bnd.mono (m := cb a.dep + (cb b.dep + (cb c.dep + 1))) (by omega) (h1.bind fun x => h2.bind fun y => h3.bind fun z => bnd_node)
  | .call f es, t, h => by
    simp only [tyE] at h
    obtain ⟨ts, hf, hes⟩ := h
    simp only [denE, Ex.dep, cb]
    have h1 := bnd_Es hF (E := E) es ts hes
    have h2 := hF f ts t hf
    have h3 := tyEs_len hes
    have h4 : es.length * cb (Ex.deps es) ≤ 3 * cb (Ex.deps es) := Nat.mul_le_mul_right _ (by omega)
    refine Bnd.mono (m := es.length * cb (Ex.deps es) + 1) (by omega) (h1.bind fun vs => ⟨0, rfl, fun v => trivial⟩)
theorem bnd_Es {F : Sig} {G : Gam} {E : Ev} (hF : ∀ f ts s, F f = some (ts, s) → ts.length ≤ 3) : ∀ (es : List Ex) (ts : List Ty), tyEs F G es ts → Bnd (es.length * cb (Ex.deps es)) (denEs E es)
  | [], ts, h => by simp only [denEs]; trivial
  | e :: es, ts, h => by
    simp only [tyEs] at h
    obtain ⟨t, rs, rfl, h1, h2⟩ := h
    have b1 := bnd_E hF (E := E) e t h1
    have b2 := bnd_Es hF (E := E) es rs h2
    simp only [denEs, Ex.deps, List.length_cons]
    have m1 := cb_mono (Nat.le_max_left e.dep (Ex.deps es))
    have m2 := cb_mono (Nat.le_max_right e.dep (Ex.deps es))
    have m3 : es.length * cb (Ex.deps es) ≤ es.length * cb (max e.dep (Ex.deps es)) := Nat.mul_le_mul_left _ m2
    rw [Nat.succ_mul]
    refine Bnd.mono (m := cb e.dep + (es.length * cb (Ex.deps es) + 0)) (by omega) (b1.bind fun v => b2.bind fun vs => ?_)
    trivial
end
def bb : Nat → Nat
  | 0 => 13
  | d + 1 => 27 + bb d
theorem bb_mono : ∀ {a b : Nat}, a ≤ b → bb a ≤ bb b
  | 0, 0, _ => Nat.le_refl _
  | 0, b + 1, _ => by have := bb_mono (Nat.zero_le b); simp only [bb] at this ⊢; omega
  | a + 1, b, h => by
    obtain ⟨b, rfl⟩ : ∃ j, b = j + 1 := ⟨b - 1, by omega⟩
    have := bb_mono (show a ≤ b by omega)
    simp only [bb]; omega
theorem bnd_e3 {F : Sig} {G : Gam} {E : Ev} (hF : ∀ f ts s, F f = some (ts, s) → ts.length ≤ 3) {e : Ex} {t : Ty} (h : tyE F G e t) (hd : e.dep ≤ 3) : Bnd 13 (denE E e) := Bnd.mono (cb_mono hd) (bnd_E hF e t h)
theorem bnd_B {F : Sig} (hF : ∀ f ts s, F f = some (ts, s) → ts.length ≤ 3) : ∀ (b : Bd) {G : Gam} {E : Ev} {t : Ty}, tyB F G b t → Bnd (bb b.dep) (denB E b)
  | .give e, G, E, t, h => bnd_e3 hF h.1 h.2
  | .elet x e b, G, E, t, h => by
    obtain ⟨s, h1, h2, _, h4⟩ := h
    refine Bnd.mono (m := 13 + (bb b.dep + 1)) (by simp only [Bd.dep, bb]; omega) ((bnd_e3 hF h1 h2).bind fun v => ⟨bb b.dep, rfl, bnd_B hF b h4⟩)
  | .less x y p q, G, E, t, h => by
    obtain ⟨h1, h2, h3, h4, h5, h6⟩ := h
    have m1 := bb_mono (Nat.le_max_left p.dep q.dep)
    have m2 := bb_mono (Nat.le_max_right p.dep q.dep)
    refine Bnd.mono (m := 13 + (13 + (bb (max p.dep q.dep) + 1))) (by simp only [Bd.dep, bb]; omega) ((bnd_e3 hF h1 h2).bind fun v => (bnd_e3 hF h3 h4).bind fun w => ⟨_, rfl, ?_⟩)
    show Bnd _ (if v.n < w.n then denB E p else denB E q)
    split
    · exact (bnd_B hF p h5).mono m1
    · exact (bnd_B hF q h6).mono m2
  | .olist x nb hd tl cb', G, E, t, h => by
    obtain ⟨_, _, _, _, h5, h6⟩ := h
    have m1 := bb_mono (Nat.le_max_left nb.dep cb'.dep)
    have m2 := bb_mono (Nat.le_max_right nb.dep cb'.dep)
    refine ⟨26 + bb (max nb.dep cb'.dep), by simp only [Bd.dep, bb]; omega, ?_⟩
    show Bnd _ (match (E.get x).l with | [] => denB E nb | y :: ys => denB ((E.put hd (.num y)).put tl (.list ys)) cb')
    split
    · exact (bnd_B hF nb h5).mono (by omega)
    · exact (bnd_B hF cb' h6).mono (by omega)
  | .otree x lb l v r nb, G, E, t, h => by
    obtain ⟨_, _, _, _, _, _, _, h5, h6⟩ := h
    have m1 := bb_mono (Nat.le_max_left lb.dep nb.dep)
    have m2 := bb_mono (Nat.le_max_right lb.dep nb.dep)
    refine ⟨26 + bb (max lb.dep nb.dep), by simp only [Bd.dep, bb]; omega, ?_⟩
    show Bnd _ (match (E.get x).t with | .leaf => denB E lb | .node a y b => denB (((E.put l (.tree a)).put v (.num y)).put r (.tree b)) nb)
    split
    · exact (bnd_B hF lb h5).mono (by omega)
    · exact (bnd_B hF nb h6).mono (by omega)
end Wk
set_option maxRecDepth 100000
set_option maxHeartbeats 4000000
/-! P13: the walker's made, value. -/
namespace Wk
open PySem PySem.Spec PyProof.Rows L2

theorem sIn_str2 {w a b : Str} {h : AH} : sIn (.str w) (.seq .tup [.str a, .str b]) h = .ok (.bl (decide (a = w) || decide (b = w))) h := by
  have e : inV (V.str w) [V.str a, V.str b] = (decide (a = w) || decide (b = w)) := by
    by_cases h1 : a = w <;> by_cases h2 : b = w <;> simp [inV, eqV, h1, h2]
  simp [sIn, flU, e]
theorem sIn_int2 {w a b : Int} {h : AH} : sIn (.int w) (.seq .tup [.int a, .int b]) h = .ok (.bl (decide (a = w) || decide (b = w))) h := by
  have e : inV (V.int w) [V.int a, V.int b] = (decide (a = w) || decide (b = w)) := by
    by_cases h1 : a = w <;> by_cases h2 : b = w <;> simp [inV, eqV, h1, h2]
  simp [sIn, flU, e]
def optU : Option Va → U
  | none => .non
  | some v => v.u
theorem optU_pure (r : Option Va) : pureU (optU r) = true := by
  cases r with
  | none => rfl
  | some v => exact v.pure
section
variable {H : AH} {ch : List Rc} {o : List Evt} {n : Nat} {kvs : List (Str × U)} {k : Nat}
theorem f_made_stop {a b : U} (ok : Okh H) (hp : pureUs (kvs.map (·.2)) = true) : sem (k + 1) .law_made [.obj (H.length + 1), a, b] (wh H ch o n true kvs) = .ok .non (wh H ch o n true kvs) := by
  show Wk.runC 4 (m_law_made (sem k)) _ _ = _
  have e : runB 4 (m_law_made (sem k)) [.obj (H.length + 1), a, b] (wh H ch o n true kvs) = .ok .non (wh H ch o n true kvs) := by
    simp [m_law_made, asSeq]
  rw [runC_ap, e]
  exact clean_same rfl (wh_ok ok hp) rfl
theorem app_kd (s : Str) (st : Bool) : (wh H ch o n st kvs).set H.length (.lst (o.map Evt.u ++ [.str s])) = wh H ch (o ++ [.kd s]) n st kvs := wh_sa (.kd s)
theorem f_lmade_add {x y : Int} (ok : Okh H) (hp : pureUs (kvs.map (·.2)) = true) (ho : o.length ≤ 900) :
    sem (k + 1) .law_made [.obj (H.length + 1), .str "add", .seq .lst [.int x, .int y]] (wh H ch o n false kvs) = .ok (.int (x + y)) (wh H ch (o ++ [.kd "sum"]) n false kvs) := by
  show Wk.runC 4 (m_law_made (sem k)) _ _ = _
  have e : runB 4 (m_law_made (sem k)) [.obj (H.length + 1), .str "add", .seq .lst [.int x, .int y]] (wh H ch o n false kvs) = .ok (.int (x + y)) (wh H ch (o ++ [.kd "sum"]) n false kvs) := by
    have h5 : o.length ≤ 999 := by omega
    have c1 : cMul y 1 = true := by simp [cMul]
    simp (decide := true) [m_law_made, asSeq, sIn_str2, isLo, mtAppend, h5, app_kd, sEq_str, bInt, c1]
  rw [runC_ap, e]
  exact clean_same (by simp [wh_len]) (wh_ok ok hp) rfl
theorem f_lmade_sub {x y : Int} (ok : Okh H) (hp : pureUs (kvs.map (·.2)) = true) (ho : o.length ≤ 900) :
    sem (k + 1) .law_made [.obj (H.length + 1), .str "sub", .seq .lst [.int x, .int y]] (wh H ch o n false kvs) = .ok (.int (x - y)) (wh H ch (o ++ [.kd "sum"]) n false kvs) := by
  show Wk.runC 4 (m_law_made (sem k)) _ _ = _
  have e : runB 4 (m_law_made (sem k)) [.obj (H.length + 1), .str "sub", .seq .lst [.int x, .int y]] (wh H ch o n false kvs) = .ok (.int (x - y)) (wh H ch (o ++ [.kd "sum"]) n false kvs) := by
    have h5 : o.length ≤ 999 := by omega
    have c1 : cMul y (-1) = true := by simp [cMul]
    have c2 : cMul 2 1 = true := by simp [cMul]
    have c3 : x + y * (-1) = x - y := by omega
    simp (decide := true) [m_law_made, asSeq, sIn_str2, isLo, mtAppend, h5, app_kd, sEq_str, bInt, c1, c2, c3]
    try omega
  rw [runC_ap, e]
  exact clean_same (by simp [wh_len]) (wh_ok ok hp) rfl
theorem f_lmade_cons {x : Int} {ys : List Int} (ok : Okh H) (hp : pureUs (kvs.map (·.2)) = true) (ho : o.length ≤ 900) (hy : ys.length ≤ 100) :
    sem (k + 3) .law_made [.obj (H.length + 1), .str "cons", .seq .lst [.int x, .seq .tup (ys.map U.int)]] (wh H ch o n false kvs) = if 100 ≤ ys.length then .ok .non (wh H ch (o ++ [.kd "great"]) n true kvs) else .ok (.seq .tup ((x :: ys).map U.int)) (wh H ch (o ++ [.kd "make"]) n false kvs) := by
  show Wk.runC 4 (m_law_made (sem (k + 2))) _ _ = _
  have h5 : o.length ≤ 999 := by omega
  have sz := f_lsize_list (k := k) (xs := x :: ys) (wh_ok (ch := ch) (o := o) (n := n) (st := false) ok hp) (by simp; omega)
  simp only [List.map_cons, List.length_cons] at sz
  have h2 : 1 + ys.length ≤ 1000 := by omega
  by_cases hc : 100 ≤ ys.length
  · have hc' : (100 : Int) < ((ys.length + 1 : Nat) : Int) := by omega
    have hc' : (100 : Int) < (ys.length : Int) + 1 := by omega
    have e : runB 4 (m_law_made (sem (k + 2))) [.obj (H.length + 1), .str "cons", .seq .lst [.int x, .seq .tup (ys.map U.int)]] (wh H ch o n false kvs) = .ok .non (wh H ch (o ++ [.kd "great"]) n true kvs) := by
      simp (decide := true) [m_law_made, asSeq, sIn_str2, isLo, mtAppend, h5, app_kd, sEq_str, bInt, sAdd, h2, sz, hc', stL]
    rw [runC_ap, e, if_pos hc]
    exact clean_same (by simp [wh_len]) (wh_ok ok hp) rfl
  · have hc' : ¬ (100 : Int) < (ys.length : Int) + 1 := by omega
    have e : runB 4 (m_law_made (sem (k + 2))) [.obj (H.length + 1), .str "cons", .seq .lst [.int x, .seq .tup (ys.map U.int)]] (wh H ch o n false kvs) = .ok (.seq .tup ((x :: ys).map U.int)) (wh H ch (o ++ [.kd "make"]) n false kvs) := by
      simp (decide := true) [m_law_made, asSeq, sIn_str2, isLo, mtAppend, h5, app_kd, sEq_str, bInt, sAdd, h2, sz, hc', stL]
    rw [runC_ap, e, if_neg hc]
    exact clean_same (by simp [wh_len]) (wh_ok ok hp) (below_pure _ (by simp only [pureU]; exact ints_pure _))
theorem f_lmade_node {x z : Tr} {y : Int} (ok : Okh H) (hp : pureUs (kvs.map (·.2)) = true) (ho : o.length ≤ 900) (hx : x.size ≤ 100) (hz : z.size ≤ 100) :
    sem (k + 3) .law_made [.obj (H.length + 1), .str "node", .seq .lst [x.u, .int y, z.u]] (wh H ch o n false kvs) = if 100 ≤ x.size + z.size then .ok .non (wh H ch (o ++ [.kd "great"]) n true kvs) else .ok (Tr.node x y z).u (wh H ch (o ++ [.kd "make"]) n false kvs) := by
  show Wk.runC 4 (m_law_made (sem (k + 2))) _ _ = _
  have h5 : o.length ≤ 999 := by omega
  have sz := f_lsize_tree (k := k) (t := .node x y z) (wh_ok (ch := ch) (o := o) (n := n) (st := false) ok hp) (by simp only [Tr.size]; omega)
  simp only [Tr.u, Tr.size] at sz
  by_cases hc : 100 ≤ x.size + z.size
  · have hc' : (100 : Int) < (x.size : Int) + (z.size : Int) + 1 := by omega
    have e : runB 4 (m_law_made (sem (k + 2))) [.obj (H.length + 1), .str "node", .seq .lst [x.u, .int y, z.u]] (wh H ch o n false kvs) = .ok .non (wh H ch (o ++ [.kd "great"]) n true kvs) := by
      simp (decide := true) [m_law_made, asSeq, sIn_str2, isLo, mtAppend, h5, app_kd, sEq_str, bInt, sz, hc', stL]
    rw [runC_ap, e, if_pos hc]
    exact clean_same (by simp [wh_len]) (wh_ok ok hp) rfl
  · have hc' : ¬ (100 : Int) < (x.size : Int) + (z.size : Int) + 1 := by omega
    have e : runB 4 (m_law_made (sem (k + 2))) [.obj (H.length + 1), .str "node", .seq .lst [x.u, .int y, z.u]] (wh H ch o n false kvs) = .ok (Tr.node x y z).u (wh H ch (o ++ [.kd "make"]) n false kvs) := by
      simp (decide := true) [m_law_made, asSeq, sIn_str2, isLo, mtAppend, h5, app_kd, sEq_str, bInt, sz, hc', stL, Tr.u]
    rw [runC_ap, e, if_neg hc]
    exact clean_same (by simp [wh_len]) (wh_ok ok hp) (below_pure _ (Tr.pure _))

/-! ### value -/
theorem f_lval_stop {a : U} (ok : Okh H) (hp : pureUs (kvs.map (·.2)) = true) : sem (k + 1) .law_value [.obj (H.length + 1), a, .obj (H.length + 2)] (wh H ch o n true kvs) = .ok .non (wh H ch o n true kvs) := by
  show Wk.runC 6 (m_law_value (sem k)) _ _ = _
  have e : runB 6 (m_law_value (sem k)) [.obj (H.length + 1), a, .obj (H.length + 2)] (wh H ch o n true kvs) = .ok .non (wh H ch o n true kvs) := by
    simp [m_law_value, asSeq]
  rw [runC_ap, e]
  exact clean_same rfl (wh_ok ok hp) rfl
end
structure SgOk (F : Sig) : Prop where
  str : ∀ f ts s, F f = some (ts, s) → PyData.strOk f = true
  few : ∀ f ts s, F f = some (ts, s) → ts.length ≤ 3
theorem PgOk.sg {P : Pg} (h : PgOk P) : SgOk P.sig := ⟨fun f ts s e => by
  obtain ⟨dd, hd, _, _⟩ := sig_at e
  obtain ⟨fo, hn⟩ := h.at_ok hd
  exact hn ▸ fo.str, fun f ts s e => by
  obtain ⟨dd, hd, ht, _⟩ := sig_at e
  rw [← ht]
  simpa using (h.at_ok hd).1.few⟩
def LVSpec (F : Sig) (H : AH) (ch : List Rc) (e : Ex) : Prop := ∀ (k : Nat) (E : Ev) (G : Gam) (kvs : List (Str × U)) (m : Nat) (t : Ty) (o o' : List Evt) (n n' : Nat) (r : Option Va), e.dep + 5 ≤ k → tyE F G e t → EvOk G E → Dk kvs E m → WR F ch (denE E e) o n r o' n' → o'.length ≤ 900 →
  sem k .law_value [.obj (H.length + 1), e.u, .obj (H.length + 2)] (wh H ch o n false kvs) = .ok (optU r) (wh H ch o' n' r.isNone kvs)
section
variable {F : Sig} {H : AH} {ch : List Rc}
theorem comp_stop {k n : Nat} {o : List Evt} {kvs : List (Str × U)} {x1 x3 x4 : Option U} (ok : Okh H) (hp : pureUs (kvs.map (·.2)) = true) : ∀ (us : List U) (acc : List U), acc.length + us.length ≤ 900 → ∃ ws,
    compF (fun _ h => .ok true h) (fun u h => eCall (arity 3 (sem (k + 1) .law_value)) (aCons (eVar 0) (aCons (eVar 5) (aCons (eVar 2) (aNil)))) [some (.obj (H.length + 1)), x1, some (.obj (H.length + 2)), x3, x4, some u] h) us acc (wh H ch o n true kvs) = .ok ws (wh H ch o n true kvs)
  | [], acc, _ => ⟨acc, rfl⟩
  | u :: us, acc, hl => by
    simp only [List.length_cons] at hl
    obtain ⟨ws, e⟩ := comp_stop (k := k) ok hp (x1 := x1) (x3 := x3) (x4 := x4) us (acc ++ [.non]) (by simp; omega)
    refine ⟨ws, ?_⟩
    simp only [compF, Out.bind_ok, if_true]
    rw [show eCall (arity 3 (sem (k + 1) .law_value)) (aCons (eVar 0) (aCons (eVar 5) (aCons (eVar 2) (aNil)))) [some (.obj (H.length + 1)), x1, some (.obj (H.length + 2)), x3, x4, some u] (wh H ch o n true kvs) = .ok .non (wh H ch o n true kvs) by simp [f_lval_stop ok hp]]
    simp only [Out.bind_ok]
    rw [if_pos (by omega)]
    exact e
theorem comp_lvals {k m : Nat} {E : Ev} {G : Gam} {kvs : List (Str × U)} {x1 x3 x4 : Option U} (ok : Okh H) (ho : EvOk G E) (dk : Dk kvs E m) :
    ∀ (es : List Ex) (ts : List Ty) (acc : List U) (o o' : List Evt) (n n' : Nat) (r : Option (List Va)), (∀ e ∈ es, LVSpec F H ch e ∧ e.dep + 5 ≤ k + 1) → tyEs F G es ts → WR F ch (denEs E es) o n r o' n' → o'.length ≤ 900 → acc.length + es.length ≤ 900 →
      ∃ ws, compF (fun _ h => .ok true h) (fun u h => eCall (arity 3 (sem (k + 1) .law_value)) (aCons (eVar 0) (aCons (eVar 5) (aCons (eVar 2) (aNil)))) [some (.obj (H.length + 1)), x1, some (.obj (H.length + 2)), x3, x4, some u] h) (Ex.us es) acc (wh H ch o n false kvs) = .ok ws (wh H ch o' n' r.isNone kvs) ∧
        ∀ vs, r = some vs → ws = acc ++ vs.map Va.u
  | [], ts, acc, o, o', n, n', r, hs, ht, hw, hl, hc => by
    simp only [denEs] at hw
    cases hw
    exact ⟨acc, rfl, fun vs e => by cases e; simp⟩
  | e :: es, ts, acc, o, o', n, n', r, hs, ht, hw, hl, hc => by
    simp only [tyEs] at ht
    obtain ⟨t, rs, rfl, h1, h2⟩ := ht
    simp only [List.length_cons] at hc
    obtain ⟨sp, hk⟩ := hs e (by simp)
    simp only [denEs] at hw
    rcases hw.bind with ⟨rfl, hw0⟩ | ⟨v, o1, n1, hw1, hw2⟩
    · have e1 := sp (k + 1) E G kvs m t o o' n n' none hk h1 ho dk hw0 hl
      obtain ⟨ws, e2⟩ := comp_stop (ch := ch) (k := k) (n := n') (o := o') ok dk.pure (x1 := x1) (x3 := x3) (x4 := x4) (Ex.us es) (acc ++ [.non]) (by simp [es_len]; omega)
      refine ⟨ws, ?_, fun vs e => by cases e⟩
      simp only [Ex.us, compF, Out.bind_ok, if_true]
      rw [show eCall (arity 3 (sem (k + 1) .law_value)) (aCons (eVar 0) (aCons (eVar 5) (aCons (eVar 2) (aNil)))) [some (.obj (H.length + 1)), x1, some (.obj (H.length + 2)), x3, x4, some e.u] (wh H ch o n false kvs) = sem (k + 1) .law_value [.obj (H.length + 1), e.u, .obj (H.length + 2)] (wh H ch o n false kvs) by simp]
      rw [e1]
      simp only [Out.bind_ok, optU, Option.isNone_none]
      rw [if_pos (by omega)]
      exact e2
    · have hle : o1.length ≤ 900 := Nat.le_trans hw2.len hl
      have e1 := sp (k + 1) E G kvs m t o o1 n n1 (some v) hk h1 ho dk hw1 hle
      have fin : ∀ (r' : Option (List Va)), WR F ch (denEs E es) o1 n1 r' o' n' → r = r'.map (fun vs => v :: vs) → ∃ ws, compF (fun _ h => .ok true h) (fun u h => eCall (arity 3 (sem (k + 1) .law_value)) (aCons (eVar 0) (aCons (eVar 5) (aCons (eVar 2) (aNil)))) [some (.obj (H.length + 1)), x1, some (.obj (H.length + 2)), x3, x4, some u] h) (Ex.us (e :: es)) acc (wh H ch o n false kvs) = .ok ws (wh H ch o' n' r.isNone kvs) ∧
          ∀ vs, r = some vs → ws = acc ++ vs.map Va.u := fun r' hw3 hr => by
        obtain ⟨ws, e2, e3⟩ := comp_lvals (k := k) ok ho dk (x1 := x1) (x3 := x3) (x4 := x4) es rs (acc ++ [v.u]) o1 o' n1 n' r' (fun e he => hs e (by simp [he])) h2 hw3 hl (by simp; omega)
        refine ⟨ws, ?_, fun vs e => ?_⟩
        · simp only [Ex.us, compF, Out.bind_ok, if_true]
          rw [show eCall (arity 3 (sem (k + 1) .law_value)) (aCons (eVar 0) (aCons (eVar 5) (aCons (eVar 2) (aNil)))) [some (.obj (H.length + 1)), x1, some (.obj (H.length + 2)), x3, x4, some e.u] (wh H ch o n false kvs) = sem (k + 1) .law_value [.obj (H.length + 1), e.u, .obj (H.length + 2)] (wh H ch o n false kvs) by simp]
          rw [e1]
          simp only [Out.bind_ok, optU, Option.isNone_some]
          rw [if_pos (by omega), e2, hr]
          cases r' <;> rfl
        · rw [hr] at e
          cases r' with
          | none => cases e
          | some vs' =>
            cases e
            rw [e3 vs' rfl]
            simp
      rcases hw2.bind with ⟨rfl, hw3⟩ | ⟨vs, o2, n2, hw3, hw4⟩
      · exact fin none hw3 rfl
      · cases hw4
        exact fin (some vs) hw3 rfl
/-- an operation -/
theorem lval_op {k m : Nat} {E : Ev} {G : Gam} {kvs : List (Str × U)} {w : Str} {es : List Ex} {ts : List Ty} {f : List Va → IT Va} {o o' : List Evt} {n n' : Nat} {r : Option Va} (ok : Okh H) (ho : EvOk G E) (dk : Dk kvs E m) (hs : ∀ e ∈ es, LVSpec F H ch e ∧ e.dep + 5 ≤ k + 1) (ht : tyEs F G es ts) (hl : es.length ≤ 3)
    (hw : PyData.strOk w = true) (w1 : w ≠ "num") (w2 : w ≠ "var") (w3 : w ≠ "nil") (w4 : w ≠ "leaf") (w5 : w ≠ "call") (hr : WR F ch ((denEs E es).bind f) o n r o' n') (hl' : o'.length ≤ 900)
    (hm : ∀ vs o1 n1, HasVs vs ts → o1.length ≤ 900 → WR F ch (f vs) o1 n1 r o' n' → sem (k + 1) .law_made [.obj (H.length + 1), .str w, .seq .lst (vs.map Va.u)] (wh H ch o1 n1 false kvs) = .ok (optU r) (wh H ch o' n' r.isNone kvs)) :
    sem (k + 2) .law_value [.obj (H.length + 1), .seq .tup (.str w :: Ex.us es), .obj (H.length + 2)] (wh H ch o n false kvs) = .ok (optU r) (wh H ch o' n' r.isNone kvs) := by
  show Wk.runC 6 (m_law_value (sem (k + 1))) _ _ = _
  have t1 : ∀ h, sEq (.str w) (.str "num") h = .ok (.bl false) h := fun h => by rw [sEq_str hw ok_num]; simp [w1]
  have t2 : ∀ h, sEq (.str w) (.str "var") h = .ok (.bl false) h := fun h => by rw [sEq_str hw ok_var]; simp [w2]
  have t3 : ∀ h, sEq (.str w) (.str "nil") h = .ok (.bl false) h := fun h => by rw [sEq_str hw ok_nil]; simp [w3]
  have t4 : ∀ h, sEq (.str w) (.str "leaf") h = .ok (.bl false) h := fun h => by rw [sEq_str hw ok_leaf]; simp [w4]
  have t5 : ∀ h, sEq (.str w) (.str "call") h = .ok (.bl false) h := fun h => by rw [sEq_str hw ok_call]; simp [w5]
  have e0 : ∀ (x : U) o o' n n' (r : Option (List Va)), WR F ch (denEs E es) o n r o' n' → o'.length ≤ 900 → ∃ ws, lcL (itSeq (.seq .tup (Ex.us es))) (tgN 5) cYes (eCall (arity 3 (sem (k + 1) .law_value)) (aCons (eVar 0) (aCons (eVar 5) (aCons (eVar 2) (aNil)))))
      [some (.obj (H.length + 1)), some x, some (.obj (H.length + 2)), none, none, none] NN 0 [] (wh H ch o n false kvs) = .ok ws (wh H ch o' n' r.isNone kvs) ∧ ∀ vs, r = some vs → ws = vs.map Va.u := fun x o o' n n' r hw1 hl1 => by
    rw [lcL_of (L := fun u => [some (.obj (H.length + 1)), some x, some (.obj (H.length + 2)), none, none, some u]) hit_seq (fun u _ h => rfl) NN 0 _ _ (by simp) (by simp [NN, es_len]; omega)]
    obtain ⟨ws, e1, e2⟩ := comp_lvals (k := k) ok ho dk (x1 := some x) (x3 := none) (x4 := none) es ts [] o o' n n' r hs ht hw1 hl1 (by simp; omega)
    exact ⟨ws, e1, fun vs e => by rw [e2 vs e]; rfl⟩
  have e : runB 6 (m_law_value (sem (k + 1))) [.obj (H.length + 1), .seq .tup (.str w :: Ex.us es), .obj (H.length + 2)] (wh H ch o n false kvs) = .ok (optU r) (wh H ch o' n' r.isNone kvs) := by
    rcases hr.bind with ⟨rfl, h1⟩ | ⟨vs, o1, n1, h1, h2⟩
    · obtain ⟨ws, e1, _⟩ := e0 (.seq .tup (.str w :: Ex.us es)) o o' n n' none h1 hl'
      have st := f_made_stop (k := k) (a := .str w) (b := .seq .lst ws) (ch := ch) (o := o') (n := n') ok dk.pure
      simp [m_law_value, t1, t2, t3, t4, t5, wipeU, asSeq, e1, st, optU]
    · have hle : o1.length ≤ 900 := Nat.le_trans h2.len hl'
      obtain ⟨ws, e1, e2⟩ := e0 (.seq .tup (.str w :: Ex.us es)) o o1 n n1 (some vs) h1 hle
      have := e2 vs rfl
      subst this
      have hv : HasVs vs ts := WR.good (F := F) (Q := fun vs => HasVs vs ts) (good_Es ho es ts ht) h1
      have e3 := hm vs o1 n1 hv hle h2
      simp [m_law_value, t1, t2, t3, t4, t5, wipeU, asSeq, e1, e3]
  rw [runC_ap, e]
  exact clean_same (by simp [wh_len]) (wh_ok ok dk.pure) (below_pure _ (optU_pure r))
end
end Wk
set_option maxRecDepth 100000
set_option maxHeartbeats 400000
/-! P14: the walker's value, whole; opened, given. -/
namespace Wk
open PySem PySem.Spec PyProof.Rows L2

section
variable {F : Sig} {H : AH} {ch : List Rc}
mutual
theorem lvspec (sg : SgOk F) (ok : Okh H) : ∀ e : Ex, LVSpec F H ch e
  | .num i => fun k E G kvs m t o o' n n' r hk ht ho dk hw hl => by
    obtain ⟨k, rfl⟩ : ∃ j, k = j + 1 := ⟨k - 1, by omega⟩
    simp only [denE] at hw
    cases hw
    show Wk.runC 6 (m_law_value (sem k)) _ _ = _
    have e : runB 6 (m_law_value (sem k)) [.obj (H.length + 1), Ex.u (.num i), .obj (H.length + 2)] (wh H ch o n false kvs) = .ok (.int i) (wh H ch o n false kvs) := by
      simp (decide := true) [m_law_value, Ex.u, sEq_str, asSeq]
    rw [runC_ap, e]
    exact clean_same rfl (wh_ok ok dk.pure) rfl
  | .var x => fun k E G kvs m t o o' n n' r hk ht ho dk hw hl => by
    obtain ⟨k, rfl⟩ : ∃ j, k = j + 1 := ⟨k - 1, by omega⟩
    simp only [tyE] at ht
    obtain ⟨v, e1, e2⟩ := ho.get x t ht
    have e3 := dk.env.get x v e1
    simp only [denE, Ev.get, e1, Option.getD_some] at hw
    cases hw
    show Wk.runC 6 (m_law_value (sem k)) _ _ = _
    have e : runB 6 (m_law_value (sem k)) [.obj (H.length + 1), Ex.u (.var x), .obj (H.length + 2)] (wh H ch o n false kvs) = .ok v.u (wh H ch o n false kvs) := by
      simp (decide := true) [m_law_value, Ex.u, sEq_str, asSeq, sGet, asD, e3]
    rw [runC_ap, e]
    exact clean_same rfl (wh_ok ok dk.pure) (below_pure _ v.pure)
  | .nil => fun k E G kvs m t o o' n n' r hk ht ho dk hw hl => by
    obtain ⟨k, rfl⟩ : ∃ j, k = j + 1 := ⟨k - 1, by omega⟩
    simp only [denE] at hw
    cases hw
    show Wk.runC 6 (m_law_value (sem k)) _ _ = _
    have e : runB 6 (m_law_value (sem k)) [.obj (H.length + 1), Ex.u .nil, .obj (H.length + 2)] (wh H ch o n false kvs) = .ok (.seq .tup []) (wh H ch o n false kvs) := by
      simp (decide := true) [m_law_value, Ex.u, sEq_str, asSeq]
    rw [runC_ap, e]
    exact clean_same rfl (wh_ok ok dk.pure) rfl
  | .leaf => fun k E G kvs m t o o' n n' r hk ht ho dk hw hl => by
    obtain ⟨k, rfl⟩ : ∃ j, k = j + 1 := ⟨k - 1, by omega⟩
    simp only [denE] at hw
    cases hw
    show Wk.runC 6 (m_law_value (sem k)) _ _ = _
    have e : runB 6 (m_law_value (sem k)) [.obj (H.length + 1), Ex.u .leaf, .obj (H.length + 2)] (wh H ch o n false kvs) = .ok .non (wh H ch o n false kvs) := by
      simp (decide := true) [m_law_value, Ex.u, sEq_str, asSeq]
    rw [runC_ap, e]
    exact clean_same rfl (wh_ok ok dk.pure) rfl
  | .add x y => fun k E G kvs m t o o' n n' r hk ht ho dk hw hl => by
    obtain ⟨k, rfl⟩ : ∃ j, k = j + 2 := ⟨k - 2, by omega⟩
    simp only [tyE] at ht
    obtain ⟨rfl, h1, h2⟩ := ht
    simp only [Ex.dep] at hk
    have sx := lvspec sg ok x
    have sy := lvspec sg ok y
    simp only [denE, IT_two] at hw
    refine lval_op (es := [x, y]) (ts := [.num, .num]) (w := "add") ok ho dk (fun e he => ?_) (tyEs_two h1 h2) (by simp) (by simp) (by decide) (by decide) (by decide) (by decide) (by decide) hw hl fun vs o1 n1 hv hle hw' => ?_
    · simp only [List.mem_cons, List.not_mem_nil, or_false] at he
      rcases he with rfl | rfl
      · exact ⟨sx, by omega⟩
      · exact ⟨sy, by omega⟩
    · obtain ⟨u, v, rfl, hu', hv'⟩ := hv.two
      obtain ⟨i, rfl⟩ := hu'.num
      obtain ⟨j, rfl⟩ := hv'.num
      simp only [Va.n] at hw'
      cases hw' with
      | stp hw' => cases hw'; exact f_lmade_add ok dk.pure hle
  | .sub x y => fun k E G kvs m t o o' n n' r hk ht ho dk hw hl => by
    obtain ⟨k, rfl⟩ : ∃ j, k = j + 2 := ⟨k - 2, by omega⟩
    simp only [tyE] at ht
    obtain ⟨rfl, h1, h2⟩ := ht
    simp only [Ex.dep] at hk
    have sx := lvspec sg ok x
    have sy := lvspec sg ok y
    simp only [denE, IT_two] at hw
    refine lval_op (es := [x, y]) (ts := [.num, .num]) (w := "sub") ok ho dk (fun e he => ?_) (tyEs_two h1 h2) (by simp) (by simp) (by decide) (by decide) (by decide) (by decide) (by decide) hw hl fun vs o1 n1 hv hle hw' => ?_
    · simp only [List.mem_cons, List.not_mem_nil, or_false] at he
      rcases he with rfl | rfl
      · exact ⟨sx, by omega⟩
      · exact ⟨sy, by omega⟩
    · obtain ⟨u, v, rfl, hu', hv'⟩ := hv.two
      obtain ⟨i, rfl⟩ := hu'.num
      obtain ⟨j, rfl⟩ := hv'.num
      simp only [Va.n] at hw'
      cases hw' with
      | stp hw' => cases hw'; exact f_lmade_sub ok dk.pure hle
  | .cons x y => fun k E G kvs m t o o' n n' r hk ht ho dk hw hl => by
    obtain ⟨k, rfl⟩ : ∃ j, k = j + 4 := ⟨k - 4, by omega⟩
    simp only [tyE] at ht
    obtain ⟨rfl, h1, h2⟩ := ht
    simp only [Ex.dep] at hk
    have sx := lvspec sg ok x
    have sy := lvspec sg ok y
    simp only [denE, IT_two] at hw
    refine lval_op (k := k + 2) (es := [x, y]) (ts := [.num, .list]) (w := "cons") ok ho dk (fun e he => ?_) (tyEs_two h1 h2) (by simp) (by simp) (by decide) (by decide) (by decide) (by decide) (by decide) hw hl fun vs o1 n1 hv hle hw' => ?_
    · simp only [List.mem_cons, List.not_mem_nil, or_false] at he
      rcases he with rfl | rfl
      · exact ⟨sx, by omega⟩
      · exact ⟨sy, by omega⟩
    · obtain ⟨u, v, rfl, hu', hv'⟩ := hv.two
      obtain ⟨i, rfl⟩ := hu'.num
      obtain ⟨ys, rfl, hly⟩ := hv'.list
      have e := f_lmade_cons (k := k) (ch := ch) (o := o1) (n := n1) (x := i) (ys := ys) ok dk.pure hle hly
      simp only [mkCons_of] at hw'
      simp only [List.map_cons, List.map_nil, Va.u] at e ⊢
      rw [e]
      by_cases hcc : 100 ≤ ys.length
      · rw [if_pos hcc] at hw' ⊢
        cases hw'
        rfl
      · rw [if_neg hcc] at hw' ⊢
        cases hw' with
        | stp hw' => cases hw'; rfl
  | .node x y z => fun k E G kvs m t o o' n n' r hk ht ho dk hw hl => by
    obtain ⟨k, rfl⟩ : ∃ j, k = j + 4 := ⟨k - 4, by omega⟩
    simp only [tyE] at ht
    obtain ⟨rfl, h1, h2, h3⟩ := ht
    simp only [Ex.dep] at hk
    have sx := lvspec sg ok x
    have sy := lvspec sg ok y
    have sz := lvspec sg ok z
    simp only [denE, IT_three] at hw
    refine lval_op (k := k + 2) (es := [x, y, z]) (ts := [.tree, .num, .tree]) (w := "node") ok ho dk (fun e he => ?_) (tyEs_three h1 h2 h3) (by simp) (by simp) (by decide) (by decide) (by decide) (by decide) (by decide) hw hl fun vs o1 n1 hv hle hw' => ?_
    · simp only [List.mem_cons, List.not_mem_nil, or_false] at he
      rcases he with rfl | rfl | rfl
      · exact ⟨sx, by omega⟩
      · exact ⟨sy, by omega⟩
      · exact ⟨sz, by omega⟩
    · obtain ⟨u, v, w, rfl, hu', hv', hw''⟩ := hv.three
      obtain ⟨x, rfl, hx⟩ := hu'.tree
      obtain ⟨j, rfl⟩ := hv'.num
      obtain ⟨z, rfl, hz⟩ := hw''.tree
      have e := f_lmade_node (k := k) (ch := ch) (o := o1) (n := n1) (x := x) (y := j) (z := z) ok dk.pure hle hx hz
      simp only [mkNode_of] at hw'
      simp only [List.map_cons, List.map_nil, Va.u] at e ⊢
      rw [e]
      by_cases hcc : 100 ≤ x.size + z.size
      · rw [if_pos hcc] at hw' ⊢
        cases hw'
        rfl
      · rw [if_neg hcc] at hw' ⊢
        cases hw' with
        | stp hw' => cases hw'; rfl
  | .call f es => fun k E G kvs m t o o' n n' r hk ht ho dk hw hl => by
    obtain ⟨k, rfl⟩ : ∃ j, k = j + 2 := ⟨k - 2, by omega⟩
    simp only [tyE] at ht
    obtain ⟨ts, hf, hes⟩ := ht
    simp only [Ex.dep] at hk
    have hs := lvspecs sg ok es
    have hlen : es.length ≤ 3 := by rw [tyEs_len hes]; exact sg.few f ts t hf
    simp only [denE] at hw
    have e0 : ∀ (x : U) o o' n n' (r : Option (List Va)), WR F ch (denEs E es) o n r o' n' → o'.length ≤ 900 → ∃ ws, lcL (itSeq (.seq .tup (Ex.us es))) (tgN 5) cYes (eCall (arity 3 (sem (k + 1) .law_value)) (aCons (eVar 0) (aCons (eVar 5) (aCons (eVar 2) (aNil)))))
        [some (.obj (H.length + 1)), some x, some (.obj (H.length + 2)), none, none, none] NN 0 [] (wh H ch o n false kvs) = .ok ws (wh H ch o' n' r.isNone kvs) ∧ ∀ vs, r = some vs → ws = vs.map Va.u := fun x o o' n n' r hw1 hl1 => by
      rw [lcL_of (L := fun u => [some (.obj (H.length + 1)), some x, some (.obj (H.length + 2)), none, none, some u]) hit_seq (fun u _ h => rfl) NN 0 _ _ (by simp) (by simp [NN, es_len]; omega)]
      obtain ⟨ws, e1, e2⟩ := comp_lvals (k := k) ok ho dk (x1 := some x) (x3 := none) (x4 := none) es ts [] o o' n n' r (fun e he => ⟨(hs e he).1, by have := (hs e he).2; omega⟩) hes hw1 hl1 (by simp; omega)
      exact ⟨ws, e1, fun vs e => by rw [e2 vs e]; rfl⟩
    show Wk.runC 6 (m_law_value (sem (k + 1))) _ _ = _
    have e : runB 6 (m_law_value (sem (k + 1))) [.obj (H.length + 1), Ex.u (.call f es), .obj (H.length + 2)] (wh H ch o n false kvs) = .ok (optU r) (wh H ch o' n' r.isNone kvs) := by
      rcases hw.bind with ⟨rfl, h1⟩ | ⟨vs, o1, n1, h1, h2⟩
      · obtain ⟨ws, e1, _⟩ := e0 (Ex.u (.call f es)) o o' n n' none h1 hl
        have st := f_child_stop (k := k) (a := .str f) (b := .seq .tup ws) (ch := ch) (o := o') (n := n') ok dk.pure
        simp only [Ex.u] at e1 ⊢
        simp (decide := true) [m_law_value, sEq_str, wipeU, asSeq, e1, bTuple, st, optU]
      · have hle : o1.length ≤ 900 := Nat.le_trans h2.len hl
        obtain ⟨ws, e1, e2⟩ := e0 (Ex.u (.call f es)) o o1 n n1 (some vs) h1 hle
        have := e2 vs rfl
        subst this
        have hv : HasVs vs ts := WR.good (F := F) (Q := fun vs => HasVs vs ts) (good_Es ho es ts hes) h1
        have e3 : sem (k + 1) .law_child [.obj (H.length + 1), .str f, .seq .tup (vs.map Va.u)] (wh H ch o1 n1 false kvs) = .ok (optU r) (wh H ch o' n' r.isNone kvs) := by
          cases h2 with
          | @go _ _ _ _ _ _ _ _ c v ts' s' a1 a2 a3 a4 a5 a6 h =>
            cases h
            have := f_child_at (k := k) (kvs := kvs) ok dk.pure (sg.str f ts t hf) hv a1 a2 a3 hle
            rw [a4] at this
            exact this
          | @stop _ _ _ _ _ c a1 a2 a3 a4 =>
            have := f_child_at (k := k) (kvs := kvs) ok dk.pure (sg.str f ts t hf) hv a1 a2 a3 hle
            rw [a4] at this
            exact this
          | last a1 => exact f_child_end ok dk.pure a1 hle
        simp only [Ex.u] at e1 ⊢
        simp (decide := true) [m_law_value, sEq_str, wipeU, asSeq, e1, bTuple, e3]
    rw [runC_ap, e]
    exact clean_same (by simp [wh_len]) (wh_ok ok dk.pure) (below_pure _ (optU_pure r))
theorem lvspecs (sg : SgOk F) (ok : Okh H) : ∀ es : List Ex, ∀ e ∈ es, LVSpec F H ch e ∧ e.dep ≤ Ex.deps es
  | [], e, h => by cases h
  | x :: es, e, h => by
    have sx := lvspec sg ok x
    have ss := lvspecs sg ok es
    rcases List.mem_cons.mp h with rfl | h
    · exact ⟨sx, by simp only [Ex.deps]; omega⟩
    · obtain ⟨h1, h2⟩ := ss e h
      exact ⟨h1, by simp only [Ex.deps]; omega⟩
end
end

/-! ### opened -/
section
variable {H : AH} {ch : List Rc} {o : List Evt} {n m k : Nat} {kvs : List (Str × U)} {E : Ev}
theorem sNe_list {h : AH} {xs : List Int} (hl : xs.length ≤ 900) : sNe (.seq .tup (xs.map U.int)) (.seq .tup []) h = .ok (.bl (!xs.isEmpty)) h := by
  unfold sNe
  have c : Cmp (.seq .tup []) := ⟨rfl, rfl, by simp [toP, toPs, PyData.depth, PyData.depthAll]⟩
  rw [eqB_of' (a := .seq .tup (xs.map U.int)) (b := .seq .tup []) (res_pure _ (by simp only [pureU]; exact ints_pure _)) (res_pure _ rfl) (by simp only [strsOk]; exact ints_strs _) c]
  cases xs with
  | nil => simp [toP, toPs, PyData.eqv, PyData.eqvAll]
  | cons x xs => simp [toP, toPs, PyData.eqv, PyData.eqvAll]
theorem f_lopen_list {x hd tl : Str} {nb cb : Bd} {xs : List Int} (ok : Okh H) (dk : Dk kvs E m) (hm : m ≤ 900) (hx : E x = some (.list xs)) (hl : xs.length ≤ 100) :
    sem (k + 1) .law_opened [Bd.u (.olist x nb hd tl cb), .obj (H.length + 2)] (wh H ch o n false kvs) = match xs with
      | [] => .ok nb.u (wh H ch o n false kvs)
      | y :: ys => .ok cb.u (wh H ch o n false (putD (putD kvs hd (.int y)) tl (.seq .tup (ys.map U.int)))) := by
  have e3 := dk.env.get x _ hx
  have l1 : kvs.length ≤ 1000 := by have := dk.few; omega
  show Wk.runC 4 (m_law_opened (sem k)) _ _ = _
  cases xs with
  | nil =>
    have e : runB 4 (m_law_opened (sem k)) [Bd.u (.olist x nb hd tl cb), .obj (H.length + 2)] (wh H ch o n false kvs) = .ok nb.u (wh H ch o n false kvs) := by
      have ne : ∀ h, sNe (.seq .tup []) (.seq .tup []) h = .ok (.bl false) h := fun h => sNe_list (xs := []) (by simp)
      simp (decide := true) [m_law_opened, Bd.u, sEq_str, sGet, asD, e3, Va.u, ne]
    rw [runC_ap, e]
    exact clean_same rfl (wh_ok ok dk.pure) (below_pure _ nb.pure)
  | cons y ys =>
    have ne : ∀ h, sNe (.seq .tup (.int y :: ys.map U.int)) (.seq .tup []) h = .ok (.bl true) h := fun h => by
      have := sNe_list (h := h) (xs := y :: ys) (by omega)
      simpa using this
    have l2 : (putD kvs hd (.int y)).length ≤ 1000 := by have := (putD_len (k := hd) (u := .int y) (kvs := kvs)).1; have := dk.few; omega
    have lp : ∀ x0 x1 x2, forL (itRange 2) (tgN 3) (sSto stD (eVar 1) (eOp sIx (eVar 0) (eOp sAdd (eC (.int 3)) (eVar 3))) (eOp sIx (eVar 2) (eVar 3))) NN 0 [some (.seq .tup [.str "list", x0, x1, .str hd, .str tl, x2]), some (.obj (H.length + 2)), some (.seq .tup [.int y, .seq .tup (ys.map U.int)]), none] (wh H ch o n false kvs) =
        .nx [some (.seq .tup [.str "list", x0, x1, .str hd, .str tl, x2]), some (.obj (H.length + 2)), some (.seq .tup [.int y, .seq .tup (ys.map U.int)]), some (.int 1)] (wh H ch o n false (putD (putD kvs hd (.int y)) tl (.seq .tup (ys.map U.int)))) := fun x0 x1 x2 => by
      simp [NN, forL, itRange, tgN, stD, l1, l2]
    have e : runB 4 (m_law_opened (sem k)) [Bd.u (.olist x nb hd tl cb), .obj (H.length + 2)] (wh H ch o n false kvs) = .ok cb.u (wh H ch o n false (putD (putD kvs hd (.int y)) tl (.seq .tup (ys.map U.int)))) := by
      have la : ∀ (a b c d e f : U), atI [a, b, c, d, e, f] (-1) = some f := fun a b c d e f => atI_neg1 (xs := [a, b, c, d, e])
      simp (decide := true) [m_law_opened, Bd.u, sEq_str, sGet, asD, e3, Va.u, ne, bLen, asSeq, lp, la]
    rw [runC_ap, e]
    exact clean_same (by simp [wh_len]) (wh_ok ok (putD_pure (by simp only [pureU]; exact ints_pure _) (putD_pure rfl dk.pure))) (below_pure _ cb.pure)
theorem f_lopen_tree {x lf vl rt : Str} {lb nb : Bd} {t : Tr} (ok : Okh H) (dk : Dk kvs E m) (hm : m ≤ 900) (hx : E x = some (.tree t)) :
    sem (k + 1) .law_opened [Bd.u (.otree x lb lf vl rt nb), .obj (H.length + 2)] (wh H ch o n false kvs) = match t with
      | .leaf => .ok lb.u (wh H ch o n false kvs)
      | .node a y b => .ok nb.u (wh H ch o n false (putD (putD (putD kvs lf a.u) vl (.int y)) rt b.u)) := by
  have e3 := dk.env.get x _ hx
  have l1 : kvs.length ≤ 1000 := by have := dk.few; omega
  show Wk.runC 4 (m_law_opened (sem k)) _ _ = _
  cases t with
  | leaf =>
    have e : runB 4 (m_law_opened (sem k)) [Bd.u (.otree x lb lf vl rt nb), .obj (H.length + 2)] (wh H ch o n false kvs) = .ok lb.u (wh H ch o n false kvs) := by
      simp (decide := true) [m_law_opened, Bd.u, sEq_str, sGet, asD, e3, Va.u, Tr.u, sIsN, isNon]
    rw [runC_ap, e]
    exact clean_same rfl (wh_ok ok dk.pure) (below_pure _ lb.pure)
  | node a y b =>
    have l2 : (putD kvs lf a.u).length ≤ 901 := by have := (putD_len (k := lf) (u := a.u) (kvs := kvs)).1; have := dk.few; omega
    have l2' : (putD kvs lf a.u).length ≤ 1000 := by omega
    have l3 : (putD (putD kvs lf a.u) vl (.int y)).length ≤ 1000 := by have := (putD_len (k := vl) (u := .int y) (kvs := putD kvs lf a.u)).1; omega
    have lp : ∀ x0 x1 x2, forL (itRange 3) (tgN 3) (sSto stD (eVar 1) (eOp sIx (eVar 0) (eOp sAdd (eC (.int 3)) (eVar 3))) (eOp sIx (eVar 2) (eVar 3))) NN 0 [some (.seq .tup [.str "tree", x0, x1, .str lf, .str vl, .str rt, x2]), some (.obj (H.length + 2)), some (.seq .tup [a.u, .int y, b.u]), none] (wh H ch o n false kvs) =
        .nx [some (.seq .tup [.str "tree", x0, x1, .str lf, .str vl, .str rt, x2]), some (.obj (H.length + 2)), some (.seq .tup [a.u, .int y, b.u]), some (.int 2)] (wh H ch o n false (putD (putD (putD kvs lf a.u) vl (.int y)) rt b.u)) := fun x0 x1 x2 => by
      simp [NN, forL, itRange, tgN, stD, l1, l2', l3]
    have e : runB 4 (m_law_opened (sem k)) [Bd.u (.otree x lb lf vl rt nb), .obj (H.length + 2)] (wh H ch o n false kvs) = .ok nb.u (wh H ch o n false (putD (putD (putD kvs lf a.u) vl (.int y)) rt b.u)) := by
      have la : ∀ (a b c d e f g : U), atI [a, b, c, d, e, f, g] (-1) = some g := fun a b c d e f g => atI_neg1 (xs := [a, b, c, d, e, f])
      simp (decide := true) [m_law_opened, Bd.u, sEq_str, sGet, asD, e3, Va.u, Tr.u, sIsN, isNon, bLen, asSeq, lp, la]
    rw [runC_ap, e]
    exact clean_same (by simp [wh_len]) (wh_ok ok (putD_pure b.pure (putD_pure rfl (putD_pure a.pure dk.pure)))) (below_pure _ nb.pure)
end
end Wk
set_option maxRecDepth 100000
set_option maxHeartbeats 400000
/-! P15: the walker's body. -/
namespace Wk
open PySem PySem.Spec PyProof.Rows L2

def gC : MT := (tAndM (tNotM (tst (eOp sIx (eVar 0) (eC (.int 3))))) (tst (eOp sNe (eOp sIx (eVar 1) (eC (.int 0))) (eC (.str ("give" : Str))))))
def gB (k : Nat) : MS := (sIf (tst (eOp sEq (eOp sIx (eVar 1) (eC (.int 0))) (eC (.str ("let" : Str))))) (sSeq (sSto stD (eVar 2) (eOp sIx (eVar 1) (eC (.int 1))) (eCall (arity 3 (sem k .law_value)) (aCons (eVar 0) (aCons (eOp sIx (eVar 1) (eC (.int 2))) (aCons (eVar 2) (aNil)))))) (sSeq (sSet 1 (eOp sIx (eVar 1) (eC (.int 3)))) (sIf (tNotM (tst (eOp sIx (eVar 0) (eC (.int 3))))) (sExpr (eMt mtAppend (eOp sIx (eVar 0) (eC (.int 0))) (aCons (eC (.str ("let" : Str))) (aNil)))) (sNil)))) (sIf (tst (eOp sEq (eOp sIx (eVar 1) (eC (.int 0))) (eC (.str ("less" : Str))))) (sSeq (sSet 3 (eCall (arity 3 (sem k .law_value)) (aCons (eVar 0) (aCons (eOp sIx (eVar 1) (eC (.int 1))) (aCons (eVar 2) (aNil)))))) (sSeq (sSet 4 (eCall (arity 3 (sem k .law_value)) (aCons (eVar 0) (aCons (eOp sIx (eVar 1) (eC (.int 2))) (aCons (eVar 2) (aNil)))))) (sIf (tNotM (tst (eOp sIx (eVar 0) (eC (.int 3))))) (sSeq (sExpr (eMt mtAppend (eOp sIx (eVar 0) (eC (.int 0))) (aCons (eC (.str ("less" : Str))) (aNil)))) (sSet 1 (eOp sIx (eVar 1) (eOp sAdd (eC (.int 3)) (eCall bInt (aCons (eOp sGe (eVar 3) (eVar 4)) (aNil))))))) (sNil)))) (sSeq (sExpr (eMt mtAppend (eOp sIx (eVar 0) (eC (.int 0))) (aCons (eC (.str ("open" : Str))) (aNil)))) (sSet 1 (eCall (arity 2 (sem k .law_opened)) (aCons (eVar 1) (aCons (eVar 2) (aNil))))))))
def gR (k : Nat) : MS := (sSeq (sIf (tst (eOp sIx (eVar 0) (eC (.int 3)))) (sRet (eC .non)) (sNil)) (sRet (eCall (arity 3 (sem k .law_value)) (aCons (eVar 0) (aCons (eOp sIx (eVar 1) (eC (.int 1))) (aCons (eVar 2) (aNil)))))))
def givenS (k n : Nat) (ls : Loc) (h : AH) : OutS := match whileL gC (gB k) n ls h with
  | .nx l k' => gR k l k'
  | o => o
theorem m_given_is (k : Nat) (ls : Loc) (h : AH) : m_law_given (sem k) ls h = givenS k NN ls h := rfl
section
variable {F : Sig} {H : AH} {ch : List Rc}
/-- one more turn -/
theorem givenS_suc {k n : Nat} {ls : Loc} {h : AH} : givenS k (n + 1) ls h = match gC ls h with
  | .ok true h1 => (match gB k ls h1 with
    | .nx l k' => givenS k n l k'
    | .ct l k' => givenS k n l k'
    | .bk l k' => gR k l k'
    | o => o)
  | .ok false h1 => gR k ls h1
  | .cut h1 => .cut ls h1
  | .bad => .bad := by
  have e : whileL gC (gB k) (n + 1) ls h = (gC ls h).s ls fun t h1 => if t then (match gB k ls h1 with | .nx l k' => whileL gC (gB k) n l k' | .ct l k' => whileL gC (gB k) n l k' | .bk l k' => .nx l k' | o => o) else .nx ls h1 := rfl
  unfold givenS
  rw [e]
  cases gC ls h with
  | ok b h1 =>
    cases b with
    | true =>
      simp only [Out.s_ok, if_true]
      cases gB k ls h1 <;> rfl
    | false => rfl
  | cut h1 => rfl
  | bad => rfl
theorem givenS_go {k n : Nat} {ls l : Loc} {h h' : AH} (ec : gC ls h = .ok true h) (eb : gB k ls h = .nx l h') : givenS k (n + 1) ls h = givenS k n l h' := by
  rw [givenS_suc, ec]
  simp only [eb]
theorem givenS_stop {k n m : Nat} {b : U} {o : List Evt} {kvs : List (Str × U)} {x3 x4 : Option U} : givenS k (n + 1) [some (.obj (H.length + 1)), some b, some (.obj (H.length + 2)), x3, x4] (wh H ch o m true kvs) = .rt .non (wh H ch o m true kvs) := by
  rw [givenS_suc]
  have e : gC [some (.obj (H.length + 1)), some b, some (.obj (H.length + 2)), x3, x4] (wh H ch o m true kvs) = .ok false (wh H ch o m true kvs) := by
    simp [gC, asSeq]
  rw [e]
  simp [gR, asSeq]
def okS (H : AH) (ch : List Rc) (o' : List Evt) (n' : Nat) (r : Option Va) (kvs' : List (Str × U)) : OutS := .rt (optU r) (wh H ch o' n' r.isNone kvs')
theorem givenS_ok (sg : SgOk F) (ok : Okh H) {k : Nat} (hk : 9 ≤ k) : ∀ (b : Bd) {G : Gam} {E : Ev} {t : Ty} {kvs : List (Str × U)} {o o' : List Evt} {n n' m j : Nat} {r : Option Va} {x3 x4 : Option U}, tyB F G b t → EvOk G E → Dk kvs E m → m + 3 * b.dep ≤ 890 → WR F ch (denB E b) o n r o' n' → o'.length ≤ 900 → b.dep + 1 < j →
    ∃ kvs', pureUs (kvs'.map (·.2)) = true ∧ givenS k j [some (.obj (H.length + 1)), some b.u, some (.obj (H.length + 2)), x3, x4] (wh H ch o n false kvs) = okS H ch o' n' r kvs'
  | .give e, G, E, t, kvs, o, o', n, n', m, j, r, x3, x4, ht, ho, dk, hm, hw, hl, hj => by
    obtain ⟨j, rfl⟩ : ∃ i, j = i + 1 := ⟨j - 1, by omega⟩
    have sv := lvspec (ch := ch) sg ok e k E G kvs m t o o' n n' r (by have := ht.2; omega) ht.1 ho dk hw hl
    refine ⟨kvs, dk.pure, ?_⟩
    rw [givenS_suc]
    have e : gC [some (.obj (H.length + 1)), some (Bd.u (.give e)), some (.obj (H.length + 2)), x3, x4] (wh H ch o n false kvs) = .ok false (wh H ch o n false kvs) := by
      simp (decide := true) [gC, asSeq, Bd.u, sNe_str]
    rw [e]
    simp [gR, asSeq, Bd.u, sv, okS]
  | .elet x e b, G, E, t, kvs, o, o', n, n', m, j, r, x3, x4, ht, ho, dk, hm, hw, hl, hj => by
    obtain ⟨j, rfl⟩ : ∃ i, j = i + 2 := ⟨j - 2, by omega⟩
    obtain ⟨s, h1, h2, h3, h4⟩ := ht
    simp only [Bd.dep] at hm hj
    have l1 : kvs.length ≤ 1000 := by have := dk.few; omega
    have ec : gC [some (.obj (H.length + 1)), some (Bd.u (.elet x e b)), some (.obj (H.length + 2)), x3, x4] (wh H ch o n false kvs) = .ok true (wh H ch o n false kvs) := by
      simp (decide := true) [gC, asSeq, Bd.u, sNe_str]
    simp only [denB] at hw
    rcases hw.bind with ⟨rfl, hw0⟩ | ⟨v, o1, n1, hw1, hw2⟩
    · have sv := lvspec (ch := ch) sg ok e k E G kvs m s o o' n n' none (by omega) h1 ho dk hw0 hl
      refine ⟨putD kvs x .non, putD_pure rfl dk.pure, ?_⟩
      have eb : gB k [some (.obj (H.length + 1)), some (Bd.u (.elet x e b)), some (.obj (H.length + 2)), x3, x4] (wh H ch o n false kvs) = .nx [some (.obj (H.length + 1)), some b.u, some (.obj (H.length + 2)), x3, x4] (wh H ch o' n' true (putD kvs x .non)) := by
        simp (decide := true) [gB, asSeq, Bd.u, sEq_str, sv, optU, stD, l1]
      rw [givenS_go ec eb]
      exact givenS_stop
    · have hle : o1.length ≤ 899 := by
        cases hw2 with
        | stp h => have := h.len; simp at this; omega
      have sv := lvspec (ch := ch) sg ok e k E G kvs m s o o1 n n1 (some v) (by omega) h1 ho dk hw1 (by omega)
      have hv : HasV v s := WR.good (F := F) (Q := (HasV · s)) (good_E ho e s h1) hw1
      have l2 : o1.length ≤ 999 := by omega
      cases hw2 with
      | stp hw2 =>
        obtain ⟨kvs', hp, eq⟩ := givenS_ok sg ok hk b (j := j + 1) (x3 := x3) (x4 := x4) h4 (ho.put hv) (dk.put (x := x) (v := v)) (by omega) hw2 hl (by omega)
        refine ⟨kvs', hp, ?_⟩
        have eb : gB k [some (.obj (H.length + 1)), some (Bd.u (.elet x e b)), some (.obj (H.length + 2)), x3, x4] (wh H ch o n false kvs) = .nx [some (.obj (H.length + 1)), some b.u, some (.obj (H.length + 2)), x3, x4] (wh H ch (o1 ++ [.kd "let"]) n1 false (putD kvs x v.u)) := by
          simp (decide := true) [gB, asSeq, Bd.u, sEq_str, sv, optU, stD, l1, isLo, mtAppend, l2, app_kd]
        rw [givenS_go ec eb]
        exact eq
  | .less x y b c, G, E, t, kvs, o, o', n, n', m, j, r, x3, x4, ht, ho, dk, hm, hw, hl, hj => by
    obtain ⟨j, rfl⟩ : ∃ i, j = i + 2 := ⟨j - 2, by omega⟩
    obtain ⟨h1, h2, h3, h4, h5, h6⟩ := ht
    simp only [Bd.dep] at hm hj
    obtain ⟨k2, rfl⟩ : ∃ i, k = i + 1 := ⟨k - 1, by omega⟩
    have ec : gC [some (.obj (H.length + 1)), some (Bd.u (.less x y b c)), some (.obj (H.length + 2)), x3, x4] (wh H ch o n false kvs) = .ok true (wh H ch o n false kvs) := by
      simp (decide := true) [gC, asSeq, Bd.u, sNe_str]
    simp only [denB] at hw
    rcases hw.bind with ⟨rfl, hw0⟩ | ⟨v, o1, n1, hw1, hw2⟩
    · have sv := lvspec (ch := ch) sg ok x (k2 + 1) E G kvs m .num o o' n n' none (by omega) h1 ho dk hw0 hl
      have st := f_lval_stop (ch := ch) (k := k2) (n := n') (o := o') (a := y.u) ok dk.pure
      refine ⟨kvs, dk.pure, ?_⟩
      have eb : gB (k2 + 1) [some (.obj (H.length + 1)), some (Bd.u (.less x y b c)), some (.obj (H.length + 2)), x3, x4] (wh H ch o n false kvs) = .nx [some (.obj (H.length + 1)), some (Bd.u (.less x y b c)), some (.obj (H.length + 2)), some .non, some .non] (wh H ch o' n' true kvs) := by
        simp (decide := true) [gB, asSeq, Bd.u, sEq_str, sv, optU, st]
      rw [givenS_go ec eb]
      exact givenS_stop
    · obtain ⟨i, rfl⟩ := (WR.good (F := F) (Q := (HasV · .num)) (good_E ho x .num h1) hw1).num
      have sv := lvspec (ch := ch) sg ok x (k2 + 1) E G kvs m .num o o1 n n1 (some (.num i)) (by omega) h1 ho dk hw1 (Nat.le_trans hw2.len hl)
      rcases hw2.bind with ⟨rfl, hw0⟩ | ⟨w, o2, n2, hw3, hw4⟩
      · have sw := lvspec (ch := ch) sg ok y (k2 + 1) E G kvs m .num o1 o' n1 n' none (by omega) h3 ho dk hw0 hl
        refine ⟨kvs, dk.pure, ?_⟩
        have eb : gB (k2 + 1) [some (.obj (H.length + 1)), some (Bd.u (.less x y b c)), some (.obj (H.length + 2)), x3, x4] (wh H ch o n false kvs) = .nx [some (.obj (H.length + 1)), some (Bd.u (.less x y b c)), some (.obj (H.length + 2)), some (.int i), some .non] (wh H ch o' n' true kvs) := by
          simp (decide := true) [gB, asSeq, Bd.u, sEq_str, sv, optU, sw, Va.u]
        rw [givenS_go ec eb]
        exact givenS_stop
      · obtain ⟨i2, rfl⟩ := (WR.good (F := F) (Q := (HasV · .num)) (good_E ho y .num h3) hw3).num
        have sw := lvspec (ch := ch) sg ok y (k2 + 1) E G kvs m .num o1 o2 n1 n2 (some (.num i2)) (by omega) h3 ho dk hw3 (Nat.le_trans hw4.len hl)
        cases hw4 with
        | stp hw4 =>
          have l2 : o2.length ≤ 999 := by have := hw4.len; simp at this; omega
          by_cases hij : i < i2
          · have hx : (if (Va.num i).n < (Va.num i2).n then denB E b else denB E c) = denB E b := if_pos hij
            rw [hx] at hw4
            have hge : ¬ i2 ≤ i := by omega
            obtain ⟨kvs', hp, eq⟩ := givenS_ok sg ok hk b (j := j + 1) (x3 := some (.int i)) (x4 := some (.int i2)) h5 ho dk (by omega) hw4 hl (by omega)
            refine ⟨kvs', hp, ?_⟩
            have eb : gB (k2 + 1) [some (.obj (H.length + 1)), some (Bd.u (.less x y b c)), some (.obj (H.length + 2)), x3, x4] (wh H ch o n false kvs) = .nx [some (.obj (H.length + 1)), some b.u, some (.obj (H.length + 2)), some (.int i), some (.int i2)] (wh H ch (o2 ++ [.kd "less"]) n2 false kvs) := by
              simp (decide := true) [gB, asSeq, Bd.u, sEq_str, sv, optU, sw, Va.u, isLo, mtAppend, l2, app_kd, hge, bInt]
            rw [givenS_go ec eb]
            exact eq
          · have hx : (if (Va.num i).n < (Va.num i2).n then denB E b else denB E c) = denB E c := if_neg hij
            rw [hx] at hw4
            have hge : i2 ≤ i := by omega
            obtain ⟨kvs', hp, eq⟩ := givenS_ok sg ok hk c (j := j + 1) (x3 := some (.int i)) (x4 := some (.int i2)) h6 ho dk (by omega) hw4 hl (by omega)
            refine ⟨kvs', hp, ?_⟩
            have eb : gB (k2 + 1) [some (.obj (H.length + 1)), some (Bd.u (.less x y b c)), some (.obj (H.length + 2)), x3, x4] (wh H ch o n false kvs) = .nx [some (.obj (H.length + 1)), some c.u, some (.obj (H.length + 2)), some (.int i), some (.int i2)] (wh H ch (o2 ++ [.kd "less"]) n2 false kvs) := by
              simp (decide := true) [gB, asSeq, Bd.u, sEq_str, sv, optU, sw, Va.u, isLo, mtAppend, l2, app_kd, hge, bInt]
            rw [givenS_go ec eb]
            exact eq
  | .olist x nb hd tl cb, G, E, t, kvs, o, o', n, n', m, j, r, x3, x4, ht, ho, dk, hm, hw, hl, hj => by
    obtain ⟨j, rfl⟩ : ∃ i, j = i + 2 := ⟨j - 2, by omega⟩
    obtain ⟨h1, _, _, _, h5, h6⟩ := ht
    simp only [Bd.dep] at hm hj
    obtain ⟨k2, rfl⟩ : ∃ i, k = i + 1 := ⟨k - 1, by omega⟩
    obtain ⟨v, ev, hv⟩ := ho.get x .list h1
    obtain ⟨xs, rfl, hlx⟩ := hv.list
    have un : Bd.u (.olist x nb hd tl cb) = .seq .tup [.str "list", .str x, nb.u, .str hd, .str tl, cb.u] := rfl
    have ec : gC [some (.obj (H.length + 1)), some (Bd.u (.olist x nb hd tl cb)), some (.obj (H.length + 2)), x3, x4] (wh H ch o n false kvs) = .ok true (wh H ch o n false kvs) := by
      simp (decide := true) [gC, asSeq, Bd.u, sNe_str]
    simp only [denB, Ev.get, ev, Option.getD_some, Va.l] at hw
    cases hw with
    | stp hw =>
      have l2 : o.length ≤ 999 := by have := hw.len; simp at this; omega
      have op := f_lopen_list (ch := ch) (k := k2) (o := o ++ [.kd "open"]) (n := n) (hd := hd) (tl := tl) (nb := nb) (cb := cb) ok dk (by omega) ev hlx
      rw [un] at op ec ⊢
      cases xs with
      | nil =>
        obtain ⟨kvs', hp, eq⟩ := givenS_ok sg ok hk nb (j := j + 1) (x3 := x3) (x4 := x4) h5 ho dk (by omega) hw hl (by omega)
        refine ⟨kvs', hp, ?_⟩
        have eb : gB (k2 + 1) [some (.obj (H.length + 1)), some (.seq .tup [.str "list", .str x, nb.u, .str hd, .str tl, cb.u]), some (.obj (H.length + 2)), x3, x4] (wh H ch o n false kvs) = .nx [some (.obj (H.length + 1)), some nb.u, some (.obj (H.length + 2)), x3, x4] (wh H ch (o ++ [.kd "open"]) n false kvs) := by
          simp (decide := true) [gB, asSeq, sEq_str, isLo, mtAppend, l2, app_kd, op]
        rw [givenS_go ec eb]
        exact eq
      | cons y ys =>
        have dk2 := (dk.put (x := hd) (v := .num y)).put (x := tl) (v := .list ys)
        obtain ⟨kvs', hp, eq⟩ := givenS_ok sg ok hk cb (j := j + 1) (x3 := x3) (x4 := x4) h6 ((ho.put (t := .num) (v := .num y) ⟨rfl, trivial⟩).put (small_tail hlx)) dk2 (by omega) hw hl (by omega)
        refine ⟨kvs', hp, ?_⟩
        have eb : gB (k2 + 1) [some (.obj (H.length + 1)), some (.seq .tup [.str "list", .str x, nb.u, .str hd, .str tl, cb.u]), some (.obj (H.length + 2)), x3, x4] (wh H ch o n false kvs) = .nx [some (.obj (H.length + 1)), some cb.u, some (.obj (H.length + 2)), x3, x4] (wh H ch (o ++ [.kd "open"]) n false (putD (putD kvs hd (.int y)) tl (.seq .tup (ys.map U.int)))) := by
          simp (decide := true) [gB, asSeq, sEq_str, isLo, mtAppend, l2, app_kd, op]
        rw [givenS_go ec eb]
        exact eq
  | .otree x lb lf vl rt nb, G, E, t, kvs, o, o', n, n', m, j, r, x3, x4, ht, ho, dk, hm, hw, hl, hj => by
    obtain ⟨j, rfl⟩ : ∃ i, j = i + 2 := ⟨j - 2, by omega⟩
    obtain ⟨h1, _, _, _, _, _, _, h5, h6⟩ := ht
    simp only [Bd.dep] at hm hj
    obtain ⟨k2, rfl⟩ : ∃ i, k = i + 1 := ⟨k - 1, by omega⟩
    obtain ⟨v, ev, hv⟩ := ho.get x .tree h1
    obtain ⟨tr, rfl, hlx⟩ := hv.tree
    have un : Bd.u (.otree x lb lf vl rt nb) = .seq .tup [.str "tree", .str x, lb.u, .str lf, .str vl, .str rt, nb.u] := rfl
    have ec : gC [some (.obj (H.length + 1)), some (Bd.u (.otree x lb lf vl rt nb)), some (.obj (H.length + 2)), x3, x4] (wh H ch o n false kvs) = .ok true (wh H ch o n false kvs) := by
      simp (decide := true) [gC, asSeq, Bd.u, sNe_str]
    simp only [denB, Ev.get, ev, Option.getD_some, Va.t] at hw
    cases hw with
    | stp hw =>
      have l2 : o.length ≤ 999 := by have := hw.len; simp at this; omega
      have op := f_lopen_tree (ch := ch) (k := k2) (o := o ++ [.kd "open"]) (n := n) (lf := lf) (vl := vl) (rt := rt) (lb := lb) (nb := nb) ok dk (by omega) ev
      rw [un] at op ec ⊢
      cases tr with
      | leaf =>
        obtain ⟨kvs', hp, eq⟩ := givenS_ok sg ok hk lb (j := j + 1) (x3 := x3) (x4 := x4) h5 ho dk (by omega) hw hl (by omega)
        refine ⟨kvs', hp, ?_⟩
        have eb : gB (k2 + 1) [some (.obj (H.length + 1)), some (.seq .tup [.str "tree", .str x, lb.u, .str lf, .str vl, .str rt, nb.u]), some (.obj (H.length + 2)), x3, x4] (wh H ch o n false kvs) = .nx [some (.obj (H.length + 1)), some lb.u, some (.obj (H.length + 2)), x3, x4] (wh H ch (o ++ [.kd "open"]) n false kvs) := by
          simp (decide := true) [gB, asSeq, sEq_str, isLo, mtAppend, l2, app_kd, op]
        rw [givenS_go ec eb]
        exact eq
      | node c y e =>
        have hlx : c.size + e.size + 1 ≤ 100 := hlx
        have dk2 := ((dk.put (x := lf) (v := .tree c)).put (x := vl) (v := .num y)).put (x := rt) (v := .tree e)
        obtain ⟨kvs', hp, eq⟩ := givenS_ok sg ok hk nb (j := j + 1) (x3 := x3) (x4 := x4) h6 (((ho.put (t := .tree) (v := .tree c) ⟨rfl, by show c.size ≤ 100; omega⟩).put (t := .num) (v := .num y) ⟨rfl, trivial⟩).put (t := .tree) (v := .tree e) ⟨rfl, by show e.size ≤ 100; omega⟩) dk2 (by omega) hw hl (by omega)
        refine ⟨kvs', hp, ?_⟩
        have eb : gB (k2 + 1) [some (.obj (H.length + 1)), some (.seq .tup [.str "tree", .str x, lb.u, .str lf, .str vl, .str rt, nb.u]), some (.obj (H.length + 2)), x3, x4] (wh H ch o n false kvs) = .nx [some (.obj (H.length + 1)), some nb.u, some (.obj (H.length + 2)), x3, x4] (wh H ch (o ++ [.kd "open"]) n false (putD (putD (putD kvs lf c.u) vl (.int y)) rt e.u)) := by
          simp (decide := true) [gB, asSeq, sEq_str, isLo, mtAppend, l2, app_kd, op]
        rw [givenS_go ec eb]
        exact eq
theorem f_given (sg : SgOk F) (ok : Okh H) {k : Nat} (hk : 10 ≤ k) {b : Bd} {G : Gam} {E : Ev} {t : Ty} {kvs : List (Str × U)} {o o' : List Evt} {n n' m : Nat} {r : Option Va} (ht : tyB F G b t) (ho : EvOk G E) (dk : Dk kvs E m) (hm : m + 3 * b.dep ≤ 890) (hw : WR F ch (denB E b) o n r o' n') (hl : o'.length ≤ 900) (hd : b.dep ≤ 900) :
    ∃ kvs', pureUs (kvs'.map (·.2)) = true ∧ sem k .law_given [.obj (H.length + 1), b.u, .obj (H.length + 2)] (wh H ch o n false kvs) = .ok (optU r) (wh H ch o' n' r.isNone kvs') := by
  obtain ⟨k, rfl⟩ : ∃ i, k = i + 1 := ⟨k - 1, by omega⟩
  obtain ⟨kvs', hp, eq⟩ := givenS_ok sg ok (k := k) (by omega) b (j := NN) (x3 := none) (x4 := none) ht ho dk hm hw hl (by simp [NN]; omega)
  refine ⟨kvs', hp, ?_⟩
  show Wk.runC 5 (m_law_given (sem k)) _ _ = _
  have e : runB 5 (m_law_given (sem k)) [.obj (H.length + 1), b.u, .obj (H.length + 2)] (wh H ch o n false kvs) = .ok (optU r) (wh H ch o' n' r.isNone kvs') := by
    rw [runB_ap, m_given_is]
    have : ([U.obj (H.length + 1), b.u, U.obj (H.length + 2)].map some ++ List.replicate (5 - [U.obj (H.length + 1), b.u, U.obj (H.length + 2)].length) none : Loc) = [some (.obj (H.length + 1)), some b.u, some (.obj (H.length + 2)), none, none] := rfl
    rw [this, eq]
    rfl
  rw [runC_ap, e]
  exact clean_same (by simp [wh_len]) (wh_ok ok hp) (below_pure _ (optU_pure r))
end
end Wk
set_option maxRecDepth 100000
set_option maxHeartbeats 400000
/-! P16: a run's tree of calls. -/
namespace Wk
open PySem PySem.Spec PyProof.Rows L2

mutual
inductive CT where
  | mk (f : Str) (vs : List Va) (es : CEs) (res : Option Va)
inductive CEs where
  | nil
  | own (k : Str) (r : CEs)
  | sub (t : CT) (r : CEs)
end
def CT.f : CT → Str
  | .mk f _ _ _ => f
def CT.vs : CT → List Va
  | .mk _ vs _ _ => vs
def CT.es : CT → CEs
  | .mk _ _ es _ => es
def CT.res : CT → Option Va
  | .mk _ _ _ r => r
mutual
def CT.size : CT → Nat
  | .mk _ _ es _ => es.size + 1
def CEs.size : CEs → Nat
  | .nil => 0
  | .own _ r => r.size
  | .sub t r => t.size + r.size
end
def CEs.evs : CEs → List Evt
  | .nil => []
  | .own k r => .kd k :: r.evs
  | .sub t r => .cl t.f t.vs :: r.evs
/-- where the children stand -/
def CEs.chs : CEs → Nat → List Nat
  | .nil, _ => []
  | .own _ r, b => r.chs b
  | .sub t r, b => b :: r.chs (b + t.size)
def CEs.crs : CEs → Nat → List Rc
  | .nil, _ => []
  | .own _ r, p => r.crs p
  | .sub t r, p => ⟨t.f, t.vs, some p, t.res⟩ :: r.crs p
structure Nd where
  rc : Rc
  es : CEs
  b : Nat
  d : Nat
mutual
def CT.nodes : CT → Nat → Option Nat → Nat → List Nd
  | .mk f vs es res, b, up, d => ⟨⟨f, vs, up, res⟩, es, b, d⟩ :: es.nodes b (b + 1) (d + 1)
def CEs.nodes : CEs → Nat → Nat → Nat → List Nd
  | .nil, _, _, _ => []
  | .own _ r, p, b, d => r.nodes p b d
  | .sub t r, p, b, d => t.nodes b (some p) d ++ r.nodes p (b + t.size) d
def CT.lin : CT → Nat → List (Nat × Str)
  | .mk _ _ es _, b => (b, "call") :: es.lin b (b + 1)
def CEs.lin : CEs → Nat → Nat → List (Nat × Str)
  | .nil, _, _ => []
  | .own k r, p, b => (p, k) :: r.lin p b
  | .sub t r, p, b => t.lin b ++ r.lin p (b + t.size)
end
mutual
theorem CT.nodes_len : ∀ (t : CT) (b : Nat) (up : Option Nat) (d : Nat), (t.nodes b up d).length = t.size
  | .mk f vs es res, b, up, d => by simp [CT.nodes, CT.size, CEs.nodes_len es]
theorem CEs.nodes_len : ∀ (es : CEs) (p b d : Nat), (es.nodes p b d).length = es.size
  | .nil, p, b, d => rfl
  | .own k r, p, b, d => by simp [CEs.nodes, CEs.size, CEs.nodes_len r]
  | .sub t r, p, b, d => by simp [CEs.nodes, CEs.size, CT.nodes_len t, CEs.nodes_len r]
end
/-! ### a tree that the interpreter may leave -/
mutual
inductive TOK (P : Pg) (full : Prop) : Nat → CT → Prop where
  | mk {d : Nat} {f : Str} {vs : List Va} {es : CEs} {res : Option Va} {ts : List Ty} {s : Ty} : P.sig f = some (ts, s) → HasVs vs ts → (∀ v, res = some v → HasV v s) → WOK P full d (denF P f vs) es res → TOK P full (d + 1) (.mk f vs es res)
inductive WOK (P : Pg) (full : Prop) : Nat → IT Va → CEs → Option Va → Prop where
  | ret (d : Nat) (v : Va) : WOK P full d (.ret v) .nil (some v)
  | stp {d : Nat} {k : Kd} {t : IT Va} {es : CEs} {res : Option Va} : WOK P full d t es res → WOK P full d (.stp k t) (.own k.s es) res
  | noroom {d : Nat} {k : Kd} {t : IT Va} : full → WOK P full d (.stp k t) .nil none
  | call {d : Nat} {f : Str} {vs : List Va} {t : Va → IT Va} {c : CEs} {v : Va} {es : CEs} {res : Option Va} : TOK P full d (.mk f vs c (some v)) → WOK P full d (t v) es res → WOK P full d (.ask f vs t) (.sub (.mk f vs c (some v)) es) res
  | within {d : Nat} {f : Str} {vs : List Va} {t : Va → IT Va} {c : CEs} : TOK P full d (.mk f vs c none) → WOK P full d (.ask f vs t) (.sub (.mk f vs c none) .nil) none
  | nocall {d : Nat} {f : Str} {vs : List Va} {t : Va → IT Va} : (full ∨ d = 0) → WOK P full d (.ask f vs t) .nil none
  | great (d : Nat) : WOK P full d .great .nil none
end
def Re.res : Re Va → Option Va
  | .ok v _ => some v
  | .cut _ => none
/-- what a run of a body leaves -/
structure Left (P : Pg) (most d p : Nat) (t : IT Va) (l : Lg) (re : Re Va) (es : CEs) : Prop where
  bg : re.lg.begun = l.begun ++ (es.nodes p l.begun.length 0).map (·.rc)
  md : re.lg.made = l.made ++ es.lin p l.begun.length
  ok : ∀ full : Prop, (∀ lc, re = .cut lc → most ≤ lc.made.length → full) → WOK P full d t es re.res
mutual
theorem CT.nodes_rc : ∀ (t : CT) (b : Nat) (up : Option Nat) (d d' : Nat), (t.nodes b up d).map (·.rc) = (t.nodes b up d').map (·.rc)
  | .mk f vs es res, b, up, d, d' => by simp [CT.nodes, CEs.nodes_rc es b (b + 1) (d + 1) (d' + 1)]
theorem CEs.nodes_rc : ∀ (es : CEs) (p b d d' : Nat), (es.nodes p b d).map (·.rc) = (es.nodes p b d').map (·.rc)
  | .nil, p, b, d, d' => rfl
  | .own k r, p, b, d, d' => by simp only [CEs.nodes]; exact CEs.nodes_rc r p b d d'
  | .sub t r, p, b, d, d' => by simp only [CEs.nodes, List.map_append]; rw [CT.nodes_rc t b (some p) d d', CEs.nodes_rc r p _ d d']
end
theorem runW_left {P : Pg} (hP : PgOk P) {most d p : Nat}
    (hc : ∀ f vs ts s l, P.sig f = some (ts, s) → HasVs vs ts → (calD P most d f vs p l = .cut l ∧ (most ≤ l.made.length ∨ d = 0)) ∨ ∃ es, ∃ re : Re Va, calD P most d f vs p l = re ∧ re.lg.begun = l.begun ++ (CT.nodes (.mk f vs es re.res) l.begun.length (some p) 0).map (·.rc) ∧ re.lg.made = l.made ++ CT.lin (.mk f vs es re.res) l.begun.length ∧
      ∀ full : Prop, (∀ lc, re = .cut lc → most ≤ lc.made.length → full) → TOK P full d (.mk f vs es re.res)) :
    ∀ (t : IT Va) (l : Lg) (s : Ty), Good P.sig (HasV · s) t → ∃ es, Left P most d p t l (runW most p (calD P most d) t l) es
  | .ret v, l, s, g => ⟨.nil, by simp [runW, Re.lg, CEs.nodes], by simp [runW, Re.lg, CEs.lin], fun full _ => .ret d v⟩
  | .stp k t, l, s, g => by
    unfold runW
    cases e : stepL most p k.s l with
    | none =>
      refine ⟨.nil, by simp [Re.lg, CEs.nodes], by simp [Re.lg, CEs.lin], fun full h => .noroom (h l rfl ?_)⟩
      unfold stepL at e
      split at e
      · assumption
      · cases e
    | some l' =>
      have hl : l' = { l with made := l.made ++ [(p, k.s)] } := by
        unfold stepL at e
        split at e
        · cases e
        · cases e; rfl
      obtain ⟨es, h1, h2, h3⟩ := runW_left hP hc t l' s g
      refine ⟨.own k.s es, ?_, ?_, fun full h => .stp (h3 full h)⟩
      · rw [hl] at h1 ⊢; simpa [CEs.nodes] using h1
      · rw [hl] at h2 ⊢; simpa [CEs.lin] using h2
  | .ask f vs t, l, s, g => by
    obtain ⟨ts, s', g1, g2, g3⟩ := g
    unfold runW
    rcases hc f vs ts s' l g1 g2 with ⟨e, h⟩ | ⟨c, re, e, h1, h2, h3⟩
    · rw [e]
      refine ⟨.nil, by simp [Re.bind, Re.lg, CEs.nodes], by simp [Re.bind, Re.lg, CEs.lin], fun full hf => .nocall ?_⟩
      rcases h with h | h
      · exact .inl (hf l rfl h)
      · exact .inr h
    · rw [e]
      cases re with
      | cut lc =>
        refine ⟨.sub (.mk f vs c none) .nil, ?_, ?_, fun full hf => .within (h3 full hf)⟩
        · simpa [Re.bind, Re.lg, CEs.nodes, Re.res] using h1
        · simpa [Re.bind, Re.lg, CEs.lin, Re.res] using h2
      | ok v l1 =>
        have hv : HasV v s' := runP_good hP d g1 g2 (by exact e)
        obtain ⟨es, k1, k2, k3⟩ := runW_left hP hc (t v) l1 s (g3 v hv)
        have hlen : l1.begun.length = l.begun.length + (CT.mk f vs c (some v)).size := by
          have : l1.begun = _ := h1
          rw [this]
          simp [CT.nodes_len, Re.res]
        refine ⟨.sub (.mk f vs c (some v)) es, ?_, ?_, fun full hf => .call (h3 full (fun lc e => by cases e)) (k3 full hf)⟩
        · show _ = _
          simp only [Re.bind]
          rw [k1]
          have : l1.begun = _ := h1
          rw [hlen, this]
          simp [CEs.nodes, Re.res]
        · show _ = _
          simp only [Re.bind]
          rw [k2]
          have : l1.made = _ := h2
          rw [hlen, this]
          simp [CEs.lin, Re.res]
  | .great, l, s, g => ⟨.nil, by simp [runW, Re.lg, CEs.nodes], by simp [runW, Re.lg, CEs.lin], fun full _ => .great d⟩
theorem modify_mid {α : Type} (A B : List α) (r : α) (f : α → α) : (A ++ r :: B).modify A.length f = A ++ f r :: B := by
  refine List.ext_getElem? fun i => ?_
  rw [List.getElem?_modify]
  by_cases h : A.length = i
  · subst h; simp
  · simp only [if_neg h]
    have he : ∀ o : Option α, (fun a => a) <$> o = o := fun o => by cases o <;> rfl
    rw [he]
    by_cases h2 : i < A.length
    · rw [List.getElem?_append_left h2, List.getElem?_append_left h2]
    · rw [List.getElem?_append_right (by omega), List.getElem?_append_right (by omega)]
      obtain ⟨j, hj⟩ : ∃ j, i - A.length = j + 1 := ⟨i - A.length - 1, by omega⟩
      rw [hj]; simp
theorem runP_left {P : Pg} (hP : PgOk P) {most : Nat} : ∀ (d : Nat) (f : Str) (vs : List Va) (up : Option Nat) (ts : List Ty) (s : Ty) (l : Lg), P.sig f = some (ts, s) → HasVs vs ts → (runP P most d f vs up l = .cut l ∧ (most ≤ l.made.length ∨ d = 0)) ∨
    ∃ es, ∃ re : Re Va, runP P most d f vs up l = re ∧ re.lg.begun = l.begun ++ (CT.nodes (.mk f vs es re.res) l.begun.length up 0).map (·.rc) ∧ re.lg.made = l.made ++ CT.lin (.mk f vs es re.res) l.begun.length ∧
      ∀ full : Prop, (∀ lc, re = .cut lc → most ≤ lc.made.length → full) → TOK P full d (.mk f vs es re.res)
  | 0, f, vs, up, ts, s, l, h1, h2 => .inl ⟨rfl, .inr rfl⟩
  | d + 1, f, vs, up, ts, s, l, h1, h2 => by
    unfold runP
    cases e : begin_ most f vs up l with
    | none =>
      refine .inl ⟨rfl, .inl ?_⟩
      unfold begin_ stepL at e
      split at e
      · assumption
      · simp at e
    | some l1 =>
      right
      obtain ⟨hlt, rfl⟩ := begin_some e
      obtain ⟨es, k1, k2, k3⟩ := runW_left (most := most) (d := d) (p := l.begun.length) hP (fun f' vs' ts' s' l' a b => runP_left hP d f' vs' (some l.begun.length) ts' s' l' a b) (denF P f vs) ⟨l.begun ++ [⟨f, vs, up, none⟩], l.made ++ [(l.begun.length, ("call" : Str))]⟩ s (good_F hP h1 h2)
      have hcal : (fun f vs a l => runP P most d f vs (some a) l) = calD P most d := rfl
      simp only [hcal]
      have hgood : ∀ v l2, runW most l.begun.length (calD P most d) (denF P f vs) ⟨l.begun ++ [⟨f, vs, up, none⟩], l.made ++ [(l.begun.length, ("call" : Str))]⟩ = .ok v l2 → HasV v s := fun v l2 e => runW_good (F := P.sig) (Q := (HasV · s)) (fun f vs ts s l v l' a b c => runP_good hP d a b c) (good_F hP h1 h2) e
      cases e2 : runW most l.begun.length (calD P most d) (denF P f vs) ⟨l.begun ++ [⟨f, vs, up, none⟩], l.made ++ [(l.begun.length, ("call" : Str))]⟩ with
      | cut l2 =>
        rw [e2] at k1 k2 k3
        refine ⟨es, _, rfl, ?_, ?_, fun full hf => .mk h1 h2 (fun v hv => by cases hv) (k3 full hf)⟩
        · simp only [Re.lg, Re.bind] at k1 ⊢
          rw [k1]
          simp [CT.nodes, Re.res]
          exact CEs.nodes_rc es _ _ 0 1
        · simp only [Re.lg, Re.bind] at k2 ⊢
          rw [k2]
          simp [CT.lin]
      | ok v l2 =>
        rw [e2] at k1 k2 k3
        refine ⟨es, _, rfl, ?_, ?_, fun full hf => .mk h1 h2 (fun w hw => by cases hw; exact hgood v l2 e2) (k3 full fun lc e => by cases e)⟩
        · simp only [Re.lg, Re.bind, end_] at k1 ⊢
          rw [k1, List.append_assoc, List.singleton_append, modify_mid]
          simp [CT.nodes, Re.res]
          exact CEs.nodes_rc es _ _ 0 1
        · simp only [Re.lg, Re.bind, end_] at k2 ⊢
          rw [k2]
          simp [CT.lin]
end Wk
set_option maxRecDepth 100000
set_option maxHeartbeats 400000
/-! P17: the walker on one node; the events' table. -/
namespace Wk
open PySem PySem.Spec PyProof.Rows L2

/-- is the last one still open -/
def openC : List Rc → Bool
  | [] => false
  | [c] => c.res.isNone
  | _ :: d :: r => openC (d :: r)
theorem openC_cons {c : Rc} {r : List Rc} (h : c.res.isSome = true) : openC (c :: r) = openC r := by
  cases r with
  | nil => cases hc : c.res with
    | none => rw [hc] at h; cases h
    | some v => simp [openC, hc]
  | cons d r => rfl
theorem WR.free {F : Sig} {ch : List Rc} : ∀ (t : IT Va) (o : List Evt) (n : Nat), ch.length ≤ n → ∃ r more n', WR F ch t o n r (o ++ more) n'
  | .ret v, o, n, h => ⟨some v, [], n, by simpa using WR.ret v o n⟩
  | .stp k t, o, n, h => by
    obtain ⟨r, more, n', w⟩ := WR.free (F := F) t (o ++ [.kd k.s]) n h
    exact ⟨r, .kd k.s :: more, n', .stp (by simpa using w)⟩
  | .ask f vs t, o, n, h => ⟨none, [.cl f vs], n, .last h⟩
  | .great, o, n, h => ⟨none, [.kd "great"], n, .great o n⟩
/-- what the walker finds at a node -/
structure Found (full : Prop) (d : Nat) (es : CEs) (p : Nat) (res r : Option Va) (more : List Evt) : Prop where
  done : ∀ v, res = some v → r = some v ∧ more = []
  inn : res = none → openC (es.crs p) = true → r = none ∧ more = []
  cut : res = none → openC (es.crs p) = false → ∃ e m, more = e :: m ∧ (full ∨ e = .kd "great" ∨ ((∃ f vs, e = .cl f vs) ∧ d = 0))
theorem node_walk {P : Pg} {full : Prop} : ∀ (t : IT Va) {d : Nat} {es : CEs} {res : Option Va} (p : Nat) (s : Ty) (pre : List Rc) (o : List Evt), Good P.sig (HasV · s) t → WOK P full d t es res →
    ∃ r more n', WR P.sig (pre ++ es.crs p) t o pre.length r (o ++ es.evs ++ more) n' ∧ Found full d es p res r more
  | .ret v, d, es, res, p, s, pre, o, g, w => by
    cases w
    refine ⟨some v, [], pre.length, by simpa [CEs.evs] using WR.ret v o _, ⟨fun v e => (by cases e; exact ⟨rfl, rfl⟩), fun e => (by cases e), fun e => (by cases e)⟩⟩
  | .stp k t, d, es, res, p, s, pre, o, g, w => by
    cases w with
    | @stp _ _ _ es _ w =>
      obtain ⟨r, more, n', w', f⟩ := node_walk t p s pre (o ++ [.kd k.s]) g w
      refine ⟨r, more, n', .stp ?_, ⟨f.done, f.inn, f.cut⟩⟩
      simpa [CEs.evs, CEs.crs] using w'
    | noroom h =>
      obtain ⟨r, more, n', w'⟩ := WR.free (F := P.sig) (ch := pre ++ CEs.nil.crs p) t (o ++ [.kd k.s]) pre.length (by simp [CEs.crs])
      refine ⟨r, .kd k.s :: more, n', .stp (by simpa [CEs.evs] using w'), ⟨fun v e => (by cases e), fun _ e => (by cases e), fun _ _ => ⟨_, _, rfl, .inl h⟩⟩⟩
  | .ask f vs t, d, es, res, p, s, pre, o, g, w => by
    obtain ⟨ts, s', g1, g2, g3⟩ := g
    cases w with
    | @call _ _ _ _ c v es _ tk w =>
      have hv : HasV v s' := by
        cases tk with
        | mk a1 a2 a3 a4 =>
          rw [g1] at a1
          cases a1
          exact a3 v rfl
      obtain ⟨r, more, n', w', f'⟩ := node_walk (t v) p s (pre ++ [⟨f, vs, some p, some v⟩]) (o ++ [.cl f vs]) (g3 v hv) w
      refine ⟨r, more, n', .go (c := ⟨f, vs, some p, some v⟩) (v := v) (ts := ts) (s := s') ?_ rfl rfl rfl g1 hv ?_, ?_⟩
      · simp [CEs.crs, CT.f, CT.vs, CT.res]
      · simp only [List.length_append, List.length_singleton] at w'
        simpa [CEs.evs, CEs.crs, CT.f, CT.vs, CT.res] using w'
      · have ho : openC ((CEs.sub (.mk f vs c (some v)) es).crs p) = openC (es.crs p) := openC_cons rfl
        exact ⟨f'.done, fun a b => f'.inn a (by rw [← ho]; exact b), fun a b => f'.cut a (by rw [← ho]; exact b)⟩
    | @within _ _ _ _ c tk =>
      refine ⟨none, [], pre.length + 1, ?_, ⟨fun v e => (by cases e), fun _ _ => ⟨rfl, rfl⟩, fun _ e => (by simp [CEs.crs, openC, CT.res] at e)⟩⟩
      have := WR.stop (F := P.sig) (ch := pre ++ (CEs.sub (.mk f vs c none) .nil).crs p) (f := f) (vs := vs) (t := t) (o := o) (n := pre.length) (c := ⟨f, vs, some p, none⟩) (by simp [CEs.crs, CT.f, CT.vs, CT.res]) rfl rfl rfl
      simpa [CEs.evs, CT.f, CT.vs] using this
    | nocall h =>
      refine ⟨none, [.cl f vs], pre.length, ?_, ⟨fun v e => (by cases e), fun _ e => (by cases e), fun _ _ => ⟨_, _, rfl, ?_⟩⟩⟩
      · have := WR.last (F := P.sig) (ch := pre ++ CEs.nil.crs p) (f := f) (vs := vs) (t := t) (o := o) (n := pre.length) (by simp [CEs.crs])
        simpa [CEs.evs] using this
      · rcases h with h | h
        · exact .inl h
        · exact .inr (.inr ⟨⟨f, vs, rfl⟩, h⟩)
  | .great, d, es, res, p, s, pre, o, g, w => by
    cases w
    refine ⟨none, [.kd "great"], pre.length, by simpa [CEs.evs] using WR.great o _, ⟨fun v e => (by cases e), fun _ e => (by cases e), fun _ _ => ⟨_, _, rfl, .inr (.inl rfl)⟩⟩⟩

/-! ### the table of events -/
/-- one step of the table -/
def evStep (cs : List Rc) (st : List (List Evt) × Nat) (s : Nat × Str) : Option (List (List Evt) × Nat) :=
  if s.2 = "call" then (if s.1 = st.2 then some (match cs[s.1]? with
    | some c => (match c.up with
      | some u => st.1.modify u (· ++ [.cl c.name c.args])
      | none => st.1)
    | none => st.1, st.2 + 1) else none)
  else some (st.1.modify s.1 (· ++ [.kd s.2]), st.2)
def evRun (cs : List Rc) : List (Nat × Str) → List (List Evt) × Nat → Option (List (List Evt) × Nat)
  | [], st => some st
  | s :: ss, st => (evStep cs st s).bind (evRun cs ss)
theorem evRun_app {cs : List Rc} : ∀ {a b : List (Nat × Str)} {st : List (List Evt) × Nat}, evRun cs (a ++ b) st = (evRun cs a st).bind (evRun cs b)
  | [], b, st => rfl
  | s :: a, b, st => by
    simp only [List.cons_append, evRun]
    cases evStep cs st s with
    | none => rfl
    | some st' => exact evRun_app
/-- no own step of a tree is a call's -/
def CEs.plain : CEs → Prop
  | .nil => True
  | .own k r => k ≠ "call" ∧ r.plain
  | .sub _ r => r.plain
mutual
def CT.okk : CT → Prop
  | .mk _ _ es _ => es.okk
def CEs.okk : CEs → Prop
  | .nil => True
  | .own k r => k ≠ "call" ∧ r.okk
  | .sub t r => t.okk ∧ r.okk
end
theorem Kd.nocall (k : Kd) : k.s ≠ "call" := by cases k <;> decide
mutual
theorem TOK.okk {P : Pg} {full : Prop} : ∀ {t : CT} {d : Nat}, TOK P full d t → t.okk
  | .mk f vs es res, d, h => by
    cases h with
    | mk _ _ _ w => exact WOK.okk (es := es) w
theorem WOK.okk {P : Pg} {full : Prop} : ∀ {es : CEs} {d : Nat} {t : IT Va} {res : Option Va}, WOK P full d t es res → es.okk
  | .nil, d, t, res, h => trivial
  | .own k r, d, t, res, h => by
    cases h with
    | @stp _ k' _ _ _ w => exact ⟨k'.nocall, WOK.okk (es := r) w⟩
  | .sub c r, d, t, res, h => by
    cases h with
    | call tk w => exact ⟨TOK.okk (t := _) tk, WOK.okk (es := r) w⟩
    | within tk => exact ⟨TOK.okk (t := _) tk, trivial⟩
end
theorem modify_at {α : Type} {A B : List α} {r : α} {f : α → α} {i : Nat} (h : A.length = i) : (A ++ r :: B).modify i f = A ++ f r :: B := by subst h; exact modify_mid A B r f
theorem modify_left {α : Type} {A B : List α} {f : α → α} {i : Nat} (h : i < A.length) : (A ++ B).modify i f = A.modify i f ++ B := by
  refine List.ext_getElem? fun j => ?_
  rw [List.getElem?_modify]
  by_cases h2 : j < A.length
  · rw [List.getElem?_append_left h2, List.getElem?_append_left (l₁ := A.modify i f) (by simpa using h2), List.getElem?_modify]
  · rw [List.getElem?_append_right (by omega), List.getElem?_append_right (l₁ := A.modify i f) (by simpa using Nat.le_of_not_lt h2), List.length_modify]
    have : ¬ i = j := by omega
    cases B[j - A.length]? <;> simp [this]
mutual
/-- one call's steps fill its part of the table -/
theorem ev_tree {cs : List Rc} : ∀ (t : CT) (b : Nat) (up : Option Nat) (D : Nat) (A : List (List Evt)) (m : Nat), t.okk → A.length = b → (∀ u, up = some u → u < b) → t.size ≤ m → (∀ i (nd : Nd), (t.nodes b up D)[i]? = some nd → cs[b + i]? = some nd.rc) →
    evRun cs (t.lin b) (A ++ List.replicate m [], b) = some ((match up with | some u => A.modify u (· ++ [.cl t.f t.vs]) | none => A) ++ (t.nodes b up D).map (fun nd => nd.es.evs) ++ List.replicate (m - t.size) [], b + t.size)
  | .mk f vs es res, b, up, D, A, m, hk, hA, hu, hm, hcs => by
    simp only [CT.size] at hm ⊢
    have hc : cs[b]? = some ⟨f, vs, up, res⟩ := by
      have := hcs 0 ⟨⟨f, vs, up, res⟩, es, b, D⟩ (by simp [CT.nodes])
      simpa using this
    obtain ⟨m, rfl⟩ : ∃ j, m = j + 1 := ⟨m - 1, by omega⟩
    have key : evStep cs (A ++ List.replicate (m + 1) [], b) (b, "call") = some ((match up with | some u => A.modify u (· ++ [.cl f vs]) | none => A) ++ ([] :: List.replicate m []), b + 1) := by
      unfold evStep
      simp only [if_true, hc, List.replicate_succ]
      cases up with
      | none => rfl
      | some u => simp only; rw [modify_left (by rw [hA]; exact hu u rfl)]
    simp only [CT.lin, evRun, key, Option.bind_some]
    have := ev_evs (cs := cs) es b (b + 1) (D + 1) (match up with | some u => A.modify u (· ++ [.cl f vs]) | none => A) [] [] m hk (by cases up <;> simp [hA]) (by simp) (by omega) (fun i nd h => by
      have := hcs (i + 1) nd (by simpa [CT.nodes] using h)
      rw [show b + (i + 1) = b + 1 + i by omega] at this
      exact this)
    simp only [List.nil_append] at this
    simp only [CT.nodes, List.map_cons, CT.f, CT.vs]
    generalize (match up with | some u => A.modify u (· ++ [Evt.cl f vs]) | none => A) = A' at this ⊢
    have e1 : A' ++ [] :: List.replicate m [] = A' ++ [[]] ++ List.replicate m ([] : List Evt) := by simp
    rw [e1, this]
    have e2 : m + 1 - (es.size + 1) = m - es.size := by omega
    have e3 : b + 1 + es.size = b + (es.size + 1) := by omega
    rw [e2, e3]
theorem ev_evs {cs : List Rc} : ∀ (es : CEs) (p b D : Nat) (A : List (List Evt)) (cur : List Evt) (B : List (List Evt)) (m : Nat), es.okk → A.length = p → p + 1 + B.length = b → es.size ≤ m → (∀ i (nd : Nd), (es.nodes p b D)[i]? = some nd → cs[b + i]? = some nd.rc) →
    evRun cs (es.lin p b) (A ++ cur :: B ++ List.replicate m [], b) = some (A ++ (cur ++ es.evs) :: (B ++ (es.nodes p b D).map (fun nd => nd.es.evs)) ++ List.replicate (m - es.size) [], b + es.size)
  | .nil, p, b, D, A, cur, B, m, hk, hA, hb, hm, hcs => by simp [CEs.lin, evRun, CEs.evs, CEs.nodes, CEs.size]
  | .own k r, p, b, D, A, cur, B, m, hk, hA, hb, hm, hcs => by
    simp only [CEs.size] at hm ⊢
    have key : evStep cs (A ++ cur :: B ++ List.replicate m [], b) (p, k) = some (A ++ (cur ++ [.kd k]) :: B ++ List.replicate m [], b) := by
      unfold evStep
      simp only [if_neg hk.1]
      rw [List.append_assoc, List.cons_append, modify_at hA]
      simp
    simp only [CEs.lin, evRun, key, Option.bind_some]
    rw [ev_evs r p b D A (cur ++ [Evt.kd k]) B m hk.2 hA hb hm (fun i nd h => hcs i nd (by simpa [CEs.nodes] using h))]
    simp [CEs.evs, CEs.nodes]
  | .sub t r, p, b, D, A, cur, B, m, hk, hA, hb, hm, hcs => by
    simp only [CEs.size] at hm ⊢
    have h1 := ev_tree (cs := cs) t b (some p) D (A ++ cur :: B) m hk.1 (by simp; omega) (fun u e => by cases e; omega) (by omega) (fun i nd h => hcs i nd (by
      simp only [CEs.nodes]
      rw [List.getElem?_append_left (List.getElem?_eq_some_iff.mp h).1]
      exact h))
    simp only [CEs.lin, evRun_app, h1, Option.bind_some]
    rw [modify_at hA]
    have h2 := ev_evs (cs := cs) r p (b + t.size) D A (cur ++ [Evt.cl t.f t.vs]) (B ++ (t.nodes b (some p) D).map (fun nd => nd.es.evs)) (m - t.size) hk.2 hA (by simp [CT.nodes_len]; omega) (by omega) (fun i nd h => by
      have := hcs (t.size + i) nd (by
        simp only [CEs.nodes]
        rw [List.getElem?_append_right (by rw [CT.nodes_len]; omega), CT.nodes_len]
        simpa using h)
      rw [show b + t.size + i = b + (t.size + i) by omega]
      exact this)
    rw [show A ++ (cur ++ [Evt.cl t.f t.vs]) :: B ++ (t.nodes b (some p) D).map (fun nd => nd.es.evs) ++ List.replicate (m - t.size) [] = A ++ (cur ++ [Evt.cl t.f t.vs]) :: (B ++ (t.nodes b (some p) D).map (fun nd => nd.es.evs)) ++ List.replicate (m - t.size) [] by simp]
    rw [h2]
    have e2 : m - t.size - r.size = m - (t.size + r.size) := by omega
    have e3 : b + t.size + r.size = b + (t.size + r.size) := by omega
    simp [CEs.evs, CEs.nodes, e2, e3]
end
end Wk
set_option maxRecDepth 100000
set_option maxHeartbeats 400000
/-! P18: who stands beneath whom, how deep. -/
namespace Wk
open PySem PySem.Spec PyProof.Rows L2

/-- one record: beneath its caller, one deeper -/
def bnStep (st : List (List Nat) × List Nat) (c : Rc) : List (List Nat) × List Nat := match c.up with
  | none => (st.1, st.2 ++ [1])
  | some u => (st.1.modify u (· ++ [st.2.length]), st.2 ++ [st.2.getD u 0 + 1])
def bnRun (st : List (List Nat) × List Nat) (cs : List Rc) : List (List Nat) × List Nat := cs.foldl bnStep st
theorem bnRun_app {st : List (List Nat) × List Nat} {a b : List Rc} : bnRun st (a ++ b) = bnRun (bnRun st a) b := List.foldl_append
def upMod (A : List (List Nat)) (up : Option Nat) (b : Nat) : List (List Nat) := match up with
  | some u => A.modify u (· ++ [b])
  | none => A
theorem upMod_len (A : List (List Nat)) (up : Option Nat) (b : Nat) : (upMod A up b).length = A.length := by cases up <;> simp [upMod]
mutual
theorem bn_tree : ∀ (t : CT) (b : Nat) (up : Option Nat) (D : Nat) (A : List (List Nat)) (dp : List Nat) (m : Nat), A.length = b → dp.length = b → (∀ u, up = some u → u < b ∧ dp.getD u 0 + 1 = D) → (up = none → D = 1) → t.size ≤ m →
    bnRun (A ++ List.replicate m [], dp) ((t.nodes b up D).map (·.rc)) = ((upMod A up b) ++ (t.nodes b up D).map (fun nd => nd.es.chs (nd.b + 1)) ++ List.replicate (m - t.size) [], dp ++ (t.nodes b up D).map (·.d))
  | .mk f vs es res, b, up, D, A, dp, m, hA, hd, hu, hn, hm => by
    simp only [CT.size] at hm ⊢
    obtain ⟨m, rfl⟩ : ∃ j, m = j + 1 := ⟨m - 1, by omega⟩
    have key : bnStep (A ++ List.replicate (m + 1) [], dp) ⟨f, vs, up, res⟩ = ((upMod A up b) ++ ([] :: List.replicate m []), dp ++ [D]) := by
      unfold bnStep
      simp only [List.replicate_succ]
      cases up with
      | none => simp [hn rfl, upMod]
      | some u =>
        obtain ⟨h1, h2⟩ := hu u rfl
        simp only [upMod]
        rw [modify_left (by rw [hA]; exact h1), hd, h2]
    have := bn_evs es b (b + 1) (D + 1) (upMod A up b) [] [] (dp ++ [D]) m (by rw [upMod_len, hA]) (by simp [hd]) (by simp) (by omega) (by rw [← hd]; simp)
    simp only [CT.nodes, List.map_cons]
    unfold bnRun at this ⊢
    rw [List.foldl_cons, key]
    simp only [List.nil_append] at this
    generalize upMod A up b = A' at this ⊢
    have e1 : A' ++ [] :: List.replicate m [] = A' ++ [[]] ++ List.replicate m ([] : List Nat) := by simp
    rw [e1, this]
    have e2 : m + 1 - (es.size + 1) = m - es.size := by omega
    rw [e2]
    simp
theorem bn_evs : ∀ (es : CEs) (p b D : Nat) (A : List (List Nat)) (cur : List Nat) (B : List (List Nat)) (dp : List Nat) (m : Nat), A.length = p → dp.length = b → p + 1 + B.length = b → es.size ≤ m → dp.getD p 0 + 1 = D →
    bnRun (A ++ cur :: B ++ List.replicate m [], dp) ((es.nodes p b D).map (·.rc)) = (A ++ (cur ++ es.chs b) :: (B ++ (es.nodes p b D).map (fun nd => nd.es.chs (nd.b + 1))) ++ List.replicate (m - es.size) [], dp ++ (es.nodes p b D).map (·.d))
  | .nil, p, b, D, A, cur, B, dp, m, hA, hd, hb, hm, hp => by simp [bnRun, CEs.chs, CEs.nodes, CEs.size]
  | .own k r, p, b, D, A, cur, B, dp, m, hA, hd, hb, hm, hp => by
    simp only [CEs.size, CEs.nodes, CEs.chs] at hm ⊢
    exact bn_evs r p b D A cur B dp m hA hd hb hm hp
  | .sub t r, p, b, D, A, cur, B, dp, m, hA, hd, hb, hm, hp => by
    simp only [CEs.size] at hm ⊢
    have h1 := bn_tree t b (some p) D (A ++ cur :: B) dp m (by simp; omega) hd (fun u e => by cases e; exact ⟨by omega, hp⟩) (fun e => by cases e) (by omega)
    simp only [CEs.nodes, List.map_append, bnRun_app]
    rw [h1]
    simp only [upMod]
    rw [modify_at hA]
    have hpl : p < dp.length := by omega
    have h2 := bn_evs r p (b + t.size) D A (cur ++ [b]) (B ++ (t.nodes b (some p) D).map (fun nd => nd.es.chs (nd.b + 1))) (dp ++ (t.nodes b (some p) D).map (·.d)) (m - t.size) hA (by simp [CT.nodes_len, hd]) (by simp [CT.nodes_len]; omega) (by omega) (by
      rw [List.getD_eq_getElem?_getD, List.getElem?_append_left hpl, ← List.getD_eq_getElem?_getD]
      exact hp)
    rw [show A ++ (cur ++ [b]) :: B ++ (t.nodes b (some p) D).map (fun nd => nd.es.chs (nd.b + 1)) ++ List.replicate (m - t.size) [] = A ++ (cur ++ [b]) :: (B ++ (t.nodes b (some p) D).map (fun nd => nd.es.chs (nd.b + 1))) ++ List.replicate (m - t.size) [] by simp]
    rw [h2]
    have e2 : m - t.size - r.size = m - (t.size + r.size) := by omega
    simp [CEs.chs, e2]
end
/-! ### facts of nodes -/
mutual
def CT.ht : CT → Nat
  | .mk _ _ es _ => es.ht + 1
def CEs.ht : CEs → Nat
  | .nil => 0
  | .own _ r => r.ht
  | .sub t r => max t.ht r.ht
end
mutual
theorem TOK.ht {P : Pg} {full : Prop} : ∀ {t : CT} {d : Nat}, TOK P full d t → t.ht ≤ d
  | .mk f vs es res, d, h => by
    cases h with
    | mk _ _ _ w => simp only [CT.ht]; have := WOK.ht (es := es) w; omega
theorem WOK.ht {P : Pg} {full : Prop} : ∀ {es : CEs} {d : Nat} {t : IT Va} {res : Option Va}, WOK P full d t es res → es.ht ≤ d
  | .nil, d, t, res, h => Nat.zero_le _
  | .own k r, d, t, res, h => by
    cases h with
    | stp w => exact WOK.ht (es := r) w
  | .sub c r, d, t, res, h => by
    cases h with
    | call tk w => simp only [CEs.ht]; have h1 := TOK.ht (t := _) tk; have h2 := WOK.ht (es := r) w; omega
    | within tk => simp only [CEs.ht]; have h1 := TOK.ht (t := _) tk; omega
end
/-- each node is what it is told to be -/
structure NOK (P : Pg) (full : Prop) (nd : Nd) : Prop where
  d1 : 1 ≤ nd.d
  d2 : nd.d ≤ 20
  sig : ∃ ts s, P.sig nd.rc.name = some (ts, s) ∧ HasVs nd.rc.args ts ∧ (∀ v, nd.rc.res = some v → HasV v s)
  ok : WOK P full (20 - nd.d) (denF P nd.rc.name nd.rc.args) nd.es nd.rc.res
mutual
theorem nodes_ok {P : Pg} {full : Prop} : ∀ (t : CT) (b : Nat) (up : Option Nat) (D : Nat), 1 ≤ D → TOK P full (21 - D) t → ∀ nd ∈ t.nodes b up D, NOK P full nd
  | .mk f vs es res, b, up, D, hD, h, nd, hn => by
    generalize hd : 21 - D = d at h
    cases h with
    | @mk d _ _ _ _ ts s h1 h2 h3 w =>
      simp only [CT.nodes, List.mem_cons] at hn
      rcases hn with rfl | hn
      · exact ⟨hD, by simp only; omega, ⟨ts, s, h1, h2, h3⟩, by
          simp only
          rw [show 20 - D = d by omega]
          exact w⟩
      · exact nodes_oks es b (b + 1) (D + 1) (by omega) _ _ (by rw [show 21 - (D + 1) = d by omega]; exact w) nd hn
theorem nodes_oks {P : Pg} {full : Prop} : ∀ (es : CEs) (p b D : Nat), 1 ≤ D → ∀ (t : IT Va) (res : Option Va), WOK P full (21 - D) t es res → ∀ nd ∈ es.nodes p b D, NOK P full nd
  | .nil, p, b, D, hD, t, res, h, nd, hn => by simp [CEs.nodes] at hn
  | .own k r, p, b, D, hD, t, res, h, nd, hn => by
    cases h with
    | stp w => exact nodes_oks r p b D hD _ _ w nd hn
  | .sub c r, p, b, D, hD, t, res, h, nd, hn => by
    simp only [CEs.nodes, List.mem_append] at hn
    cases h with
    | call tk w =>
      rcases hn with hn | hn
      · exact nodes_ok _ b (some p) D hD tk nd hn
      · exact nodes_oks r p _ D hD _ _ w nd hn
    | within tk =>
      rcases hn with hn | hn
      · exact nodes_ok _ b (some p) D hD tk nd hn
      · simp [CEs.nodes] at hn
end
mutual
theorem ch_tree {cs : List Rc} : ∀ (t : CT) (b : Nat) (up : Option Nat) (D : Nat), (∀ i (nd : Nd), (t.nodes b up D)[i]? = some nd → cs[b + i]? = some nd.rc) → ∀ nd ∈ t.nodes b up D, (nd.es.chs (nd.b + 1)).map (fun i => cs[i]?) = (nd.es.crs nd.b).map some
  | .mk f vs es res, b, up, D, h, nd, hn => by
    have h' : ∀ i (nd : Nd), (es.nodes b (b + 1) (D + 1))[i]? = some nd → cs[b + 1 + i]? = some nd.rc := fun i nd e => by
      have := h (i + 1) nd (by simpa [CT.nodes] using e)
      rw [show b + (i + 1) = b + 1 + i by omega] at this
      exact this
    simp only [CT.nodes, List.mem_cons] at hn
    rcases hn with rfl | hn
    · exact (ch_evs es b (b + 1) (D + 1) h').1
    · exact (ch_evs es b (b + 1) (D + 1) h').2 nd hn
theorem ch_evs {cs : List Rc} : ∀ (es : CEs) (p b D : Nat), (∀ i (nd : Nd), (es.nodes p b D)[i]? = some nd → cs[b + i]? = some nd.rc) → (es.chs b).map (fun i => cs[i]?) = (es.crs p).map some ∧ ∀ nd ∈ es.nodes p b D, (nd.es.chs (nd.b + 1)).map (fun i => cs[i]?) = (nd.es.crs nd.b).map some
  | .nil, p, b, D, h => ⟨rfl, fun nd hn => by simp [CEs.nodes] at hn⟩
  | .own k r, p, b, D, h => by
    have := ch_evs r p b D (fun i nd e => h i nd (by simpa [CEs.nodes] using e))
    exact ⟨by simpa [CEs.chs, CEs.crs] using this.1, fun nd hn => this.2 nd (by simpa [CEs.nodes] using hn)⟩
  | .sub t r, p, b, D, h => by
    have h1 := ch_tree t b (some p) D (fun i nd e => h i nd (by
      simp only [CEs.nodes]
      rw [List.getElem?_append_left (List.getElem?_eq_some_iff.mp e).1]
      exact e))
    have h2 := ch_evs r p (b + t.size) D (fun i nd e => by
      have := h (t.size + i) nd (by
        simp only [CEs.nodes]
        rw [List.getElem?_append_right (by rw [CT.nodes_len]; omega), CT.nodes_len]
        simpa using e)
      rw [show b + t.size + i = b + (t.size + i) by omega]
      exact this)
    refine ⟨?_, fun nd hn => ?_⟩
    · have h0 : cs[b]? = some ⟨t.f, t.vs, some p, t.res⟩ := by
        cases t with
        | mk f vs es res =>
          have := h 0 ⟨⟨f, vs, some p, res⟩, es, b, D⟩ (by simp [CEs.nodes, CT.nodes])
          simpa [CT.f, CT.vs, CT.res] using this
      simp only [CEs.chs, CEs.crs, List.map_cons, h0, h2.1]
    · simp only [CEs.nodes, List.mem_append] at hn
      rcases hn with hn | hn
      · exact h1 nd hn
      · exact h2.2 nd hn
end
end Wk
set_option maxRecDepth 100000
set_option maxHeartbeats 400000
/-! P19: the law's events and order, computed. -/
namespace Wk
open PySem PySem.Spec PyProof.Rows L2

theorem it_objL {h t : AH} {i j : Nat} {us : List U} (e : h[i]? = some (.lst us)) : itSeq (.obj i) j (h ++ t) = some us[j]? := by
  have hi := (List.getElem?_eq_some_iff.mp e).1
  have : (h ++ t)[i]? = some (.lst us) := by rw [List.getElem?_append_left hi]; exact e
  simp [itSeq, asSeq, this]
/-- as many new empty lists -/
theorem new_lists {H : AH} {ci : Nat} {us : List U} {x : Nat} {ls0 : Loc} (e : H[ci]? = some (.lst us)) (hu : us.length ≤ 900) : ∀ (n i : Nat), i ≤ us.length → us.length < n + i →
    lcL (itSeq (.obj ci)) (tgN x) cYes (eNew aNil) ls0 n i ((List.range i).map fun j => U.obj (H.length + j)) (H ++ List.replicate i (.lst [])) = .ok ((List.range us.length).map fun j => U.obj (H.length + j)) (H ++ List.replicate us.length (.lst []))
  | 0, i, h1, h2 => by omega
  | n + 1, i, h1, h2 => by
    unfold lcL
    rw [it_objL e]
    by_cases hi : i < us.length
    · rw [List.getElem?_eq_getElem hi]
      have ih := new_lists (x := x) (ls0 := ls0) e hu n (i + 1) (by omega) (by omega)
      have e1 : (List.range (i + 1)).map (fun j => U.obj (H.length + j)) = (List.range i).map (fun j => U.obj (H.length + j)) ++ [.obj (H.length + i)] := by
        rw [List.range_succ]; simp
      have e2 : H ++ List.replicate (i + 1) (MO.lst []) = H ++ List.replicate i (.lst []) ++ [.lst []] := by
        rw [List.replicate_succ']; simp
      rw [e1, e2] at ih
      have hl : i ≤ 999 := by omega
      simp [tgN, hl]
      simpa using ih
    · have : i = us.length := by omega
      subst this
      rw [List.getElem?_eq_none (Nat.le_refl _)]
/-- the table in the heap -/
def tabH (H : AH) (E : List (List Evt)) : AH := H ++ E.map fun evs => .lst (evs.map Evt.u)
theorem tab_get {H : AH} {E : List (List Evt)} {a : Nat} {evs : List Evt} (e : E[a]? = some evs) : (tabH H E)[H.length + a]? = some (.lst (evs.map Evt.u)) := by
  unfold tabH
  rw [List.getElem?_append_right (by omega)]
  simp [e]
theorem tab_set {H : AH} {E : List (List Evt)} {a : Nat} {evs : List Evt} (e : E[a]? = some evs) (x : Evt) : (tabH H E).set (H.length + a) (.lst (evs.map Evt.u ++ [x.u])) = tabH H (E.modify a (· ++ [x])) := by
  unfold tabH
  rw [List.set_append_right _ _ (by omega)]
  congr 1
  simp only [Nat.add_sub_cancel_left]
  refine List.ext_getElem? fun i => ?_
  rw [List.getElem?_map, List.getElem?_modify]
  by_cases h : a = i
  · subst h
    have hl := (List.getElem?_eq_some_iff.mp e).1
    rw [List.getElem?_set_self (by simpa using hl), e]
    simp
  · rw [List.getElem?_set_ne h, List.getElem?_map]
    simp [h]
structure RcsOk (cs : List Rc) : Prop where
  root : ∀ c, cs[0]? = some c → c.up = none
  up : ∀ a c, cs[a]? = some c → 0 < a → ∃ u, c.up = some u ∧ u < a
def obs (n L : Nat) : List U := (List.range L).map fun j => U.obj (n + j)
theorem obs_at {n L a : Nat} (h : a < L) : atI (obs n L) (a : Int) = some (.obj (n + a)) := atI_ofNat (by simp [obs, h])
def evB (k : Nat) : MS := (sIf (tst (eOp sNe (eVar 5) (eC (.str ("call" : Str))))) (sExpr (eMt mtAppend (eOp sIx (eVar 2) (eVar 4)) (aCons (eVar 5) (aNil)))) (sIf (tst (eOp sNe (eVar 4) (eVar 3))) (sRet (eC .non)) (sSeq (sSet 3 (eOp sAdd (eVar 3) (eC (.int 1)))) (sIf (tst (eOp sGt (eVar 4) (eC (.int 0)))) (sExpr (eMt mtAppend (eOp sIx (eVar 2) (eOp sIx (eOp sIx (eVar 0) (eVar 4)) (eC (.int 2)))) (aCons (eTup (aCons (eOp sIx (eOp sIx (eVar 0) (eVar 4)) (eC (.int 0))) (aCons (eOp sIx (eOp sIx (eVar 0) (eVar 4)) (eC (.int 1))) (aNil)))) (aNil)))) (sNil)))))
theorem ev_loop {H : AH} {ci si : Nat} {cs : List Rc} {ss : List (Nat × Str)} (hci : H[ci]? = some (.lst (cs.map Rc.u))) (hsi : H[si]? = some (.lst (ss.map stepU))) (rk : RcsOk cs) (hstr : ∀ s ∈ ss, PyData.strOk s.2 = true) (hin : ∀ s ∈ ss, s.1 < cs.length) (hss : ss.length ≤ 900) :
    ∀ (n i : Nat) (E E' : List (List Evt)) (bg bg' : Nat) (o4 o5 o6 : Option U), i ≤ ss.length → ss.length < n + i → E.length = cs.length → (∀ evs ∈ E, evs.length ≤ i) → evRun cs (ss.drop i) (E, bg) = some (E', bg') →
      ∃ o4' o5', forL (itSeq (.obj si)) (tgT [4, 5]) (evB 0) n i [some (.obj ci), some (.obj si), some (.seq .lst (obs H.length cs.length)), some (.int bg), o4, o5, o6] (tabH H E) = .nx [some (.obj ci), some (.obj si), some (.seq .lst (obs H.length cs.length)), some (.int bg'), o4', o5', o6] (tabH H E') ∧ E'.length = cs.length
  | 0, i, E, E', bg, bg', o4, o5, o6, h1, h2, hE, hb, hr => by omega
  | n + 1, i, E, E', bg, bg', o4, o5, o6, h1, h2, hE, hb, hr => by
    unfold forL
    have hit : itSeq (.obj si) i (tabH H E) = some (ss.map stepU)[i]? := it_objL hsi
    rw [hit]
    by_cases hi : i < ss.length
    · rw [List.getElem?_eq_getElem (by simpa using hi)]
      rw [List.drop_eq_getElem_cons hi] at hr
      generalize hs : ss[i] = s at hr ⊢
      have hsm : s ∈ ss := hs ▸ List.getElem_mem hi
      obtain ⟨a, kd⟩ := s
      have hstr' := hstr _ hsm
      have ha := hin _ hsm
      simp only at hstr' ha
      have hgs : (ss.map stepU)[i]'(by simpa using hi) = .seq .tup [.int a, .str kd] := by simp [hs, stepU]
      rw [hgs]
      simp only [evRun] at hr
      have haE : a < E.length := by omega
      obtain ⟨evs, hev⟩ : ∃ evs, E[a]? = some evs := ⟨_, List.getElem?_eq_getElem haE⟩
      have hevl : evs.length ≤ 999 := by have := hb evs (List.mem_of_getElem? hev); omega
      have cit : (tabH H E)[ci]? = some (.lst (cs.map Rc.u)) := by
        unfold tabH
        rw [List.getElem?_append_left (List.getElem?_eq_some_iff.mp hci).1]; exact hci
      have hb' : ∀ (u : Nat) (x : Evt), ∀ evs ∈ E.modify u (· ++ [x]), evs.length ≤ i + 1 := fun u x evs hm => by
        obtain ⟨j, hj⟩ := List.mem_iff_getElem?.mp hm
        rw [List.getElem?_modify] at hj
        cases hE2 : E[j]? with
        | none => rw [hE2] at hj; simp at hj
        | some e0 =>
          have := hb e0 (List.mem_of_getElem? hE2)
          rw [hE2] at hj
          by_cases hu : u = j
          · simp [hu] at hj; subst hj; simp; omega
          · simp [hu] at hj; subst hj; omega
      by_cases hk : kd = "call"
      · subst hk
        unfold evStep at hr
        simp only [if_true] at hr
        by_cases hab : a = bg
        · subst hab
          obtain ⟨c, hc⟩ : ∃ c, cs[a]? = some c := ⟨_, List.getElem?_eq_getElem ha⟩
          simp only [hc, if_true, Option.bind_some] at hr
          have hcu : atI (cs.map Rc.u) (a : Int) = some c.u := atI_ofNat (by rw [List.getElem?_map, hc]; rfl)
          by_cases h0 : a = 0
          · subst h0
            rw [rk.root c hc] at hr
            simp only at hr
            obtain ⟨o4', o5', ih, hl⟩ := ev_loop hci hsi rk hstr hin hss n (i + 1) E E' 1 bg' (some (.int 0)) (some (.str "call")) o6 (by omega) (by omega) hE (fun evs hm => by have := hb evs hm; omega) hr
            refine ⟨o4', o5', ?_, hl⟩
            rw [← ih]
            simp (decide := true) [tgT, asT, setMany, evB, sNe_str, sNe_int]
          · obtain ⟨u, hu, hul⟩ := rk.up a c hc (by omega)
            rw [hu] at hr
            simp only at hr
            have huE : u < E.length := by omega
            obtain ⟨ev2, hev2⟩ : ∃ evs, E[u]? = some evs := ⟨_, List.getElem?_eq_getElem huE⟩
            have hev2l : ev2.length ≤ 999 := by have := hb ev2 (List.mem_of_getElem? hev2); omega
            obtain ⟨o4', o5', ih, hl⟩ := ev_loop hci hsi rk hstr hin hss n (i + 1) (E.modify u (· ++ [.cl c.name c.args])) E' (a + 1) bg' (some (.int a)) (some (.str "call")) o6 (by omega) (by omega) (by simpa using hE) (hb' u _) hr
            refine ⟨o4', o5', ?_, hl⟩
            rw [← ih]
            have hpos : 0 < a := by omega
            have hou := obs_at (n := H.length) (L := cs.length) (a := u) (by omega)
            have htg := tab_get (H := H) hev2
            have hts := tab_set (H := H) hev2 (.cl c.name c.args)
            have hcun : c.u = .seq .tup [.str c.name, .seq .tup (c.args.map Va.u), .int u, .bl c.res.isSome, valU c.res] := by simp [Rc.u, hu, opU]
            rw [hcun] at hcu
            simp only [Evt.u] at hts
            simp (decide := true) [tgT, asT, setMany, evB, sNe_str, sNe_int, asSeq, cit, hcu, hpos, hou, isLo, htg, mtAppend, hev2l, hts]
        · rw [if_neg hab] at hr
          cases hr
      · unfold evStep at hr
        simp only [if_neg hk, Option.bind_some] at hr
        obtain ⟨o4', o5', ih, hl⟩ := ev_loop hci hsi rk hstr hin hss n (i + 1) (E.modify a (· ++ [.kd kd])) E' bg bg' (some (.int a)) (some (.str kd)) o6 (by omega) (by omega) (by simpa using hE) (hb' a _) hr
        refine ⟨o4', o5', ?_, hl⟩
        rw [← ih]
        have hou := obs_at (n := H.length) (L := cs.length) (a := a) (by omega)
        have htg := tab_get (H := H) hev
        have hts := tab_set (H := H) hev (.kd kd)
        simp only [Evt.u] at hts
        have hne : ∀ h, sNe (.str kd) (.str "call") h = .ok (.bl true) h := fun h => by rw [sNe_str hstr' ok_call]; simp [hk]
        simp [tgT, asT, setMany, evB, hne, asSeq, hou, isLo, htg, mtAppend, hevl, hts]
    · rw [List.getElem?_eq_none (by simpa using Nat.le_of_not_lt hi)]
      rw [List.drop_eq_nil_of_le (by omega)] at hr
      simp only [evRun, Option.some.injEq, Prod.mk.injEq] at hr
      obtain ⟨rfl, rfl⟩ := hr
      exact ⟨o4, o5, rfl, hE⟩
/-- the told events -/
def tabU (E : List (List Evt)) : U := .seq .lst (E.map fun evs => .seq .lst (evs.map Evt.u))
theorem frz_obs {H : AH} {E : List (List Evt)} : ∀ (F : List (List Evt)) (i : Nat), E.drop i = F → frzs H.length (tabH H E) ((List.range' i F.length).map fun j => U.obj (H.length + j)) = some (F.map fun evs => .seq .lst (evs.map Evt.u))
  | [], i, _ => by simp [frzs]
  | evs :: F, i, h => by
    have h0 : E[i]? = some evs := by
      have := congrArg (fun l => l[0]?) h
      simpa using this
    have h1 : E.drop (i + 1) = F := by
      rw [← List.drop_drop, h]; rfl
    simp only [List.length_cons, List.range'_succ, List.map_cons, frzs, frz]
    rw [if_neg (by omega), tab_get h0]
    simp only [belows_pure _ (evts_pure evs), if_true, frz_obs F (i + 1) h1]
theorem f_events {k : Nat} {H : AH} {ci si : Nat} {cs : List Rc} {ss : List (Nat × Str)} {E' : List (List Evt)} (ok : Okh H) (hci : H[ci]? = some (.lst (cs.map Rc.u))) (hsi : H[si]? = some (.lst (ss.map stepU))) (rk : RcsOk cs) (hstr : ∀ s ∈ ss, PyData.strOk s.2 = true) (hin : ∀ s ∈ ss, s.1 < cs.length) (hss : ss.length ≤ 900) (hcs : cs.length ≤ 900)
    (hr : evRun cs ss (List.replicate cs.length [], 0) = some (E', cs.length)) : sem (k + 1) .law_events [.obj ci, .obj si] H = .ok (tabU E') H := by
  show Wk.runC 7 (m_law_events (sem k)) _ _ = _
  have e1 := new_lists (x := 6) (ls0 := [some (.obj ci), some (.obj si), none, none, none, none, none]) hci (by simpa using hcs) NN 0 (by simp) (by simp [NN]; omega)
  simp only [List.range_zero, List.map_nil, List.replicate_zero, List.append_nil, List.length_map] at e1
  have e0 : H ++ List.replicate cs.length (MO.lst []) = tabH H (List.replicate cs.length []) := by
    unfold tabH; simp
  obtain ⟨o4, o5, e2, hl⟩ := ev_loop hci hsi rk hstr hin hss NN 0 (List.replicate cs.length []) E' 0 cs.length none none none (by simp) (by simp [NN]; omega) (by simp) (fun evs hm => by simp [List.mem_replicate] at hm; simp [hm.2]) (by simpa using hr)
  have cit : (tabH H E')[ci]? = some (.lst (cs.map Rc.u)) := by
    unfold tabH
    rw [List.getElem?_append_left (List.getElem?_eq_some_iff.mp hci).1]; exact hci
  have sit : (tabH H (List.replicate cs.length []))[si]? = some (.lst (ss.map stepU)) := by
    unfold tabH
    rw [List.getElem?_append_left (List.getElem?_eq_some_iff.mp hsi).1]; exact hsi
  have e : runB 7 (m_law_events (sem k)) [.obj ci, .obj si] H = .ok (.seq .lst (obs H.length cs.length)) (tabH H E') := by
    simp [m_law_events, asSeq, hci, wipeU, e1]
    rw [e0]
    simp [sit]
    simp only [evB] at e2
    simp only [obs] at e2 ⊢
    have ez : ((0 : Nat) : Int) = 0 := rfl
    rw [ez] at e2
    rw [e2]
    simp [bLen, asSeq, cit, sNe_int]
  rw [runC_ap, e]
  refine clean_of ?_ (by unfold tabH; exact List.take_left) ok
  have := frz_obs (H := H) (E := E') E' 0 rfl
  rw [hl] at this
  simp only [frz, obs, List.range_eq_range', this, Option.map_some, tabU]
end Wk
set_option maxRecDepth 100000
set_option maxHeartbeats 400000
/-! P20: the steps in their order. -/
namespace Wk
open PySem PySem.Spec PyProof.Rows L2

def ordB (k : Nat) : MS := (sIf (tst (eCall (bIsi .tuple) (aCons (eVar 5) aNil))) (sSeq (sExpr (eCall (arity 4 (sem k .law_in_order)) (aCons (eVar 0) (aCons (eVar 1) (aCons (eOp sIx (eOp sIx (eVar 1) (eVar 2)) (eVar 4)) (aCons (eVar 3) (aNil))))))) (sSet 4 (eOp sAdd (eVar 4) (eC (.int 1))))) (sExpr (eMt mtAppend (eVar 3) (aCons (eTup (aCons (eVar 2) (aCons (eVar 5) (aNil)))) (aNil)))))
def natU (n : Nat) : U := .int n
structure TabAt (E : List (List Evt)) (G : AH) (base L fo : Nat) (nd : Nd) : Prop where
  ev : E[nd.b]? = some nd.es.evs
  bn : G[base + nd.b]? = some (.lst ((nd.es.chs (nd.b + 1)).map natU))
  lt : nd.b < L
  ne : base + nd.b ≠ fo
def ordG (G : AH) (fo : Nat) (x : List (Nat × Str)) : AH := G.set fo (.lst (x.map stepU))
theorem ordG_len {G : AH} {fo : Nat} {x : List (Nat × Str)} : (ordG G fo x).length = G.length := by simp [ordG]
theorem ordG_ok {G : AH} {fo : Nat} {x : List (Nat × Str)} (ok : Okh G) : Okh (ordG G fo x) := ok.set (belows_pure _ (steps_pure x))
theorem ordG_at {G : AH} {fo i : Nat} {x : List (Nat × Str)} (h : i ≠ fo) : (ordG G fo x)[i]? = G[i]? := List.getElem?_set_ne (Ne.symm h)
theorem ordG_fo {G : AH} {fo : Nat} {x : List (Nat × Str)} (h : fo < G.length) : (ordG G fo x)[fo]? = some (.lst (x.map stepU)) := List.getElem?_set_self h
theorem ordG_set {G : AH} {fo : Nat} {x : List (Nat × Str)} (s : Nat × Str) : (ordG G fo x).set fo (.lst (x.map stepU ++ [stepU s])) = ordG G fo (x ++ [s]) := by
  unfold ordG
  rw [List.set_set]; simp
theorem evs_lin : ∀ (es : CEs) (p b : Nat), es.evs.length ≤ (es.lin p b).length
  | .nil, p, b => by simp [CEs.evs]
  | .own k r, p, b => by have := evs_lin r p b; simp [CEs.evs, CEs.lin]; omega
  | .sub (.mk f vs es res) r, p, b => by
    have := evs_lin r p (b + (CT.mk f vs es res).size)
    simp only [CEs.evs, CEs.lin, CT.lin, List.length_append, List.length_cons]
    omega
theorem natU_at {l : List Nat} {i n : Nat} (h : l[i]? = some n) : atI (l.map natU) (i : Int) = some (.int n) := atI_ofNat (by rw [List.getElem?_map, h]; rfl)
mutual
theorem order_tree {E : List (List Evt)} {G : AH} {base L fo : Nat} (ok : Okh G) (hfo : fo < G.length) : ∀ (t : CT) (b : Nat) (up : Option Nat) (D k : Nat) (x : List (Nat × Str)), t.ht ≤ k → (∀ nd ∈ t.nodes b up D, TabAt E G base L fo nd) → x.length + (t.lin b).length ≤ 900 →
    sem k .law_in_order [tabU E, .seq .lst (obs base L), .int b, .obj fo] (ordG G fo x) = .ok .non (ordG G fo (x ++ t.lin b))
  | .mk f vs es res, b, up, D, k, x, hk, hn, hx => by
    simp only [CT.ht] at hk
    obtain ⟨k, rfl⟩ : ∃ j, k = j + 1 := ⟨k - 1, by omega⟩
    simp only [CT.lin, List.length_cons] at hx
    have h0 := hn ⟨⟨f, vs, up, res⟩, es, b, D⟩ (by simp [CT.nodes])
    obtain ⟨o4, o5, e1⟩ := order_evs ok hfo es b (b + 1) (D + 1) k (x ++ [(b, ("call" : Str))]) [] none (by omega) (fun nd h => hn nd (by simp [CT.nodes, h])) (by simpa using h0.bn) h0.lt h0.ne (by simp; omega)
    have hev : atI (E.map fun evs => U.seq .lst (evs.map Evt.u)) (b : Int) = some (.seq .lst (es.evs.map Evt.u)) := atI_ofNat (by rw [List.getElem?_map, h0.ev]; rfl)
    have hl := evs_lin es b (b + 1)
    have hs := ordG_set (G := G) (fo := fo) (x := x) (b, "call")
    simp only [stepU] at hs
    have hx9 : x.length ≤ 999 := by omega
    have e2 := forL_of (b := ordB k) (T := tgN 5) (hit_seq (k := .lst) (us := es.evs.map Evt.u)) NN 0 [some (tabU E), some (.seq .lst (obs base L)), some (.int b), some (.obj fo), some (.int 0), none] (ordG G fo (x ++ [(b, ("call" : Str))])) (by simp) (by simp [NN]; omega)
    rw [List.drop_zero] at e2
    simp only [List.length_nil, show ((0 : Nat) : Int) = 0 from rfl] at e1
    rw [e1] at e2
    have e : runB 6 (m_law_in_order (sem k)) [tabU E, .seq .lst (obs base L), .int b, .obj fo] (ordG G fo x) = .ok .non (ordG G fo (x ++ (b, ("call" : Str)) :: es.lin b (b + 1))) := by
      simp [m_law_in_order, isLo, ordG_fo hfo, mtAppend, hx9, hs]
      simp only [tabU] at e2 ⊢
      simp [hev, asSeq]
      simp only [ordB] at e2
      rw [e2]
      simp
    show Wk.runC 6 (m_law_in_order (sem k)) _ _ = _
    rw [runC_ap, e]
    exact clean_same (by simp [ordG_len]) (ordG_ok ok) rfl
theorem order_evs {E : List (List Evt)} {G : AH} {base L fo : Nat} (ok : Okh G) (hfo : fo < G.length) : ∀ (es : CEs) (p b D k : Nat) (x : List (Nat × Str)) (pre : List Nat) (o5 : Option U), es.ht ≤ k → (∀ nd ∈ es.nodes p b D, TabAt E G base L fo nd) → G[base + p]? = some (.lst ((pre ++ es.chs b).map natU)) → p < L → base + p ≠ fo → x.length + (es.lin p b).length ≤ 900 →
    ∃ o4 o5', loopF (bodyT (tgN 5) (ordB k)) (es.evs.map Evt.u) [some (tabU E), some (.seq .lst (obs base L)), some (.int p), some (.obj fo), some (.int pre.length), o5] (ordG G fo x) = .nx [some (tabU E), some (.seq .lst (obs base L)), some (.int p), some (.obj fo), o4, o5'] (ordG G fo (x ++ es.lin p b))
  | .nil, p, b, D, k, x, pre, o5, hk, hn, hg, hp, hne, hx => ⟨_, _, by simp [CEs.evs, loopF, CEs.lin]; exact ⟨rfl, rfl⟩⟩
  | .own s r, p, b, D, k, x, pre, o5, hk, hn, hg, hp, hne, hx => by
    simp only [CEs.lin, List.length_cons] at hx
    obtain ⟨o4, o5', ih⟩ := order_evs ok hfo r p b D k (x ++ [(p, s)]) pre (some (.str s)) hk hn hg hp hne (by simp; omega)
    refine ⟨o4, o5', ?_⟩
    have hs := ordG_set (G := G) (fo := fo) (x := x) (p, s)
    simp only [stepU] at hs
    have hx9 : x.length ≤ 999 := by omega
    rw [CEs.lin, show x ++ (p, s) :: r.lin p b = x ++ [(p, s)] ++ r.lin p b by simp, ← ih]
    simp [CEs.evs, loopF, bodyT, tgN, ordB, bIsi, isA, Evt.u, isLo, ordG_fo hfo, mtAppend, hx9, hs]
  | .sub t r, p, b, D, k, x, pre, o5, hk, hn, hg, hp, hne, hx => by
    simp only [CEs.lin, List.length_append] at hx
    simp only [CEs.ht] at hk
    have h1 := order_tree ok hfo t b (some p) D k x (by omega) (fun nd h => hn nd (by simp [CEs.nodes, h])) (by omega)
    obtain ⟨o4, o5', ih⟩ := order_evs ok hfo r p (b + t.size) D k (x ++ t.lin b) (pre ++ [b]) (some (Evt.cl t.f t.vs).u) (by omega) (fun nd h => hn nd (by simp [CEs.nodes, h])) (by simpa [CEs.chs] using hg) hp hne (by simp; omega)
    refine ⟨o4, o5', ?_⟩
    rw [CEs.lin, show x ++ (t.lin b ++ r.lin p (b + t.size)) = x ++ t.lin b ++ r.lin p (b + t.size) by simp, ← ih]
    have hob := obs_at (n := base) (L := L) (a := p) hp
    have hc : atI ((pre ++ b :: r.chs (b + t.size)).map natU) (pre.length : Int) = some (.int b) := natU_at (by simp)
    have hgo : (ordG G fo x)[base + p]? = some (.lst ((pre ++ b :: r.chs (b + t.size)).map natU)) := by rw [ordG_at hne, hg]; simp [CEs.chs]
    generalize (pre ++ b :: r.chs (b + t.size)).map natU = cu at hc hgo
    simp [CEs.evs, loopF, bodyT, tgN, ordB, bIsi, isA, Evt.u, asSeq, hob, hgo, hc, h1]
end
end Wk
set_option maxRecDepth 100000
set_option maxHeartbeats 400000
/-! P21: each call holds. -/
namespace Wk
open PySem PySem.Spec PyProof.Rows L2

theorem f_law_one {k : Nat} {h : AH} {P : Pg} {f : Str} (hP : PgOk P) (ok : Okh h) (hf : PyData.strOk f = true) :
    sem (k + 1) .law_one [P.u, .str f] h = .ok (match P.at f with | some d => d.u | none => .non) h := by
  show Wk.runC 3 (m_law_one (sem k)) _ h = _
  have e : runB 3 (m_law_one (sem k)) [P.u, .str f] h = .ok (match P.at f with | some d => d.u | none => .non) h := by
    have := loop_fun (h := h) hf P P.u none fun d hd => (hP.ok d hd).str
    simp only [m_law_one, runB_ap, sSeq_ap, sFor_ap, iSeq_ap, eVar_ap]
    simp [Pg.u, asSeq]
    have hfew := hP.few
    rw [forL_of hit_seq NN 0 _ _ (by simp) (by simp [NN]; omega)]
    simp only [Pg.u] at this
    simp only [List.drop_zero, this]
    unfold Pg.at
    cases P.find? (fun d => decide (d.name = f)) with
    | some d => rfl
    | none => simp
  rw [runC_ap, e]
  refine clean_same rfl ok ?_
  cases P.at f with
  | some d => exact below_pure _ d.pure
  | none => rfl
/-- a told event may be compared -/
def EvtOk (P : Pg) : Evt → Prop
  | .kd s => PyData.strOk s = true
  | .cl f vs => ∃ ts s, P.sig f = some (ts, s) ∧ HasVs vs ts
theorem WR.evok {P : Pg} {ch : List Rc} {α : Type} {Q : α → Prop} : ∀ {t : IT α} {o o' : List Evt} {n n' : Nat} {r : Option α}, Good P.sig Q t → WR P.sig ch t o n r o' n' → (∀ e ∈ o, EvtOk P e) → ∀ e ∈ o', EvtOk P e
  | .ret a, o, o', n, n', r, g, h, ho => by cases h; exact ho
  | .stp k t, o, o', n, n', r, g, h, ho => by
    cases h with
    | stp h =>
      refine WR.evok (t := t) g h fun e he => ?_
      simp only [List.mem_append, List.mem_singleton] at he
      rcases he with he | rfl
      · exact ho e he
      · cases k <;> simp [EvtOk, Kd.s]
  | .ask f vs t, o, o', n, n', r, g, h, ho => by
    obtain ⟨ts, s, h1, h2, h3⟩ := g
    have hcl : ∀ e ∈ o ++ [Evt.cl f vs], EvtOk P e := fun e he => by
      simp only [List.mem_append, List.mem_singleton] at he
      rcases he with he | rfl
      · exact ho e he
      · exact ⟨ts, s, h1, h2⟩
    cases h with
    | @go _ _ _ _ _ _ _ _ c v ts' s' a1 a2 a3 a4 a5 a6 h =>
      rw [h1] at a5
      cases a5
      exact WR.evok (t := t v) (h3 v a6) h hcl
    | stop a1 a2 a3 a4 => exact hcl
    | last a1 => exact hcl
  | .great, o, o', n, n', r, g, h, ho => by
    cases h
    intro e he
    simp only [List.mem_append, List.mem_singleton] at he
    rcases he with he | rfl
    · exact ho e he
    · simp [EvtOk]
theorem evt_cmp {P : Pg} (hP : PgOk P) {e : Evt} (h : EvtOk P e) : Cmp e.u := by
  cases e with
  | kd s => exact cmp_str h
  | cl f vs =>
    obtain ⟨ts, s, h1, h2⟩ := h
    have c := cmp_vas h2
    have hf := hP.sg.str f ts s h1
    have hd := vas_dep h2
    refine ⟨by simp [Evt.u, pureU, pureUs, vas_pure], ?_, ?_⟩
    · have := c.str
      simp [Evt.u, strsOk, strsOks, hf]
      exact vas_strs vs
    · simp only [Evt.u, toP, toPs, PyData.depth, PyData.depthAll]
      omega
theorem evts_cmp {P : Pg} (hP : PgOk P) : ∀ {es : List Evt}, (∀ e ∈ es, EvtOk P e) → Cmp (.seq .lst (es.map Evt.u))
  | [], _ => ⟨rfl, by simp [strsOk, strsOks], by simp [toP, toPs, PyData.depth, PyData.depthAll]⟩
  | e :: es, h => by
    have h1 := evt_cmp hP (h e (by simp))
    have h2 := evts_cmp hP (es := es) fun x hx => h x (by simp [hx])
    have s2 := h2.str
    have d1 := h1.dep
    have d2 := h2.dep
    refine ⟨by simp [pureU, pureUs, h1.pure, evts_pure], ?_, ?_⟩
    · simp only [strsOk, strsOks, List.map_cons] at s2 ⊢
      simp [h1.str, s2]
    · have hd : (toP e.u).depth ≤ 103 := by
        cases e with
        | kd s => simp [Evt.u, toP, PyData.depth]
        | cl f vs =>
          obtain ⟨ts, s, a1, a2⟩ := h (.cl f vs) (by simp)
          have hd := vas_dep a2
          simp only [Evt.u, toP, toPs, PyData.depth, PyData.depthAll]
          omega
      simp only [List.map_cons, toP, toPs, PyData.depth, PyData.depthAll] at d2 ⊢
      omega
theorem Cmp.sub {P : Pg} {a b : List Evt} (h : ∀ e ∈ a ++ b, EvtOk P e) : ∀ e ∈ a, EvtOk P e := fun e he => h e (by simp [he])
theorem va_cmp {v : Va} {t : Ty} (h : HasV v t) : Cmp v.u := ⟨v.pure, v.strs, by have := Va.dep h.sm; omega⟩
theorem loop_bindC {h : AH} {x0 x1 x2 x3 x4 x5 x6 x7 : Option U} {q : Nat} {rest : Loc} : ∀ (ps : List (Str × Ty)) (vs : List Va) (kvs : List (Str × U)) (o9 o10 : Option U), q = h.length → ps.length = vs.length → kvs.length + ps.length ≤ 900 →
    ∃ o9' o10', loopF (bodyT (tgT [9, 10]) (sSto stD (eVar 8) (eOp sIx (eVar 9) (eC (.int 0))) (eVar 10))) (zipU (ps.map prmU) (vs.map Va.u)) (x0 :: x1 :: x2 :: x3 :: x4 :: x5 :: x6 :: x7 :: some (.obj q) :: o9 :: o10 :: rest) (h ++ [.dct kvs]) =
      .nx (x0 :: x1 :: x2 :: x3 :: x4 :: x5 :: x6 :: x7 :: some (.obj q) :: o9' :: o10' :: rest) (h ++ [.dct (bindD kvs ps vs)])
  | [], [], kvs, o9, o10, _, _, _ => ⟨o9, o10, rfl⟩
  | (x, t) :: ps, v :: vs, kvs, o9, o10, hq, hl, hn => by
    subst hq
    simp only [List.length_cons, Nat.add_right_cancel_iff] at hl
    simp only [List.length_cons] at hn
    have h1 : kvs.length ≤ 1000 := by omega
    have h2 := (putD_len (k := x) (u := v.u) (kvs := kvs)).1
    obtain ⟨o9', o10', e⟩ := loop_bindC (h := h) (x0 := x0) (x1 := x1) (x2 := x2) (x3 := x3) (x4 := x4) (x5 := x5) (x6 := x6) (x7 := x7) (rest := rest) ps vs (putD kvs x v.u) (some (prmU (x, t))) (some v.u) rfl hl (by omega)
    refine ⟨o9', o10', ?_⟩
    simp only [bindD]
    rw [← e]
    simp [loopF, zipU, bodyT, tgT, asT, setMany, prmU, stD, h1]
theorem bb5 {n : Nat} (h : n ≤ 5) : bb n ≤ 148 := bb_mono h
theorem openC_true : ∀ {ch : List Rc}, openC ch = true → ∃ pre c, ch = pre ++ [c] ∧ c.res = none
  | [c], h => ⟨[], c, rfl, by simpa [openC] using h⟩
  | a :: b :: r, h => by
    obtain ⟨pre, c, e, hc⟩ := openC_true (ch := b :: r) h
    exact ⟨a :: pre, c, by rw [e]; rfl, hc⟩
theorem openC_false : ∀ {ch : List Rc}, openC ch = false → ch = [] ∨ ∃ pre c, ch = pre ++ [c] ∧ c.res.isSome = true
  | [], h => .inl rfl
  | [c], h => .inr ⟨[], c, rfl, by cases hc : c.res <;> simp [openC, hc] at h ⊢⟩
  | a :: b :: r, h => by
    rcases openC_false (ch := b :: r) h with e | ⟨pre, c, e, hc⟩
    · cases e
    · exact .inr ⟨a :: pre, c, by rw [e]; rfl, hc⟩
theorem res_wa {H : AH} {ch : List Rc} {o : List Evt} {n : Nat} {st : Bool} {kvs : List (Str × U)} : res (wh H ch o n st kvs) (.obj H.length) = some (.seq .lst (o.map Evt.u)) := by
  simp [res, evts_pure]
theorem res_evs {h : AH} {o : List Evt} : res h (.seq .lst (o.map Evt.u)) = some (.seq .lst (o.map Evt.u)) := res_pure _ (by simp [pureU, evts_pure])
end Wk
set_option maxRecDepth 100000
set_option maxHeartbeats 400000
/-! P22: each call holds, joined. -/
namespace Wk
open PySem PySem.Spec PyProof.Rows L2

/-- the end of the check -/
def holdE : MS := (sSeq (sIf (tst (eOp sIx (eVar 1) (eC (.int 3)))) (sRet (eAnd (eNot (eOp sIx (eVar 7) (eC (.int 3)))) (eAnd (eOp sEq (eOp sIx (eVar 7) (eC (.int 0))) (eVar 3)) (eOp sEq (eVar 11) (eOp sIx (eVar 1) (eC (.int 4))))))) (sNil)) (sSeq (sIf (tAndM (tst (eOp sGt (eCall bLen (aCons (eVar 2) (aNil))) (eC (.int 0)))) (tNotM (tst (eOp sIx (eOp sIx (eVar 2) (eUn sNeg (eC (.int 1)))) (eC (.int 3)))))) (sRet (eAnd (eOp sIx (eVar 7) (eC (.int 3))) (eOp sEq (eOp sIx (eVar 7) (eC (.int 0))) (eVar 3)))) (sNil)) (sSeq (sIf (tOrM (tst (eOp sLe (eCall bLen (aCons (eOp sIx (eVar 7) (eC (.int 0))) (aNil))) (eCall bLen (aCons (eVar 3) (aNil))))) (tst (eOp sNe (eSl (eOp sIx (eVar 7) (eC (.int 0))) (oNone) (oSome (eCall bLen (aCons (eVar 3) (aNil))))) (eVar 3)))) (sRet (eC (.bl false))) (sNil)) (sSeq (sSet 12 (eOp sIx (eOp sIx (eVar 7) (eC (.int 0))) (eCall bLen (aCons (eVar 3) (aNil))))) (sRet (eOr (eVar 4) (eOr (eOp sEq (eVar 12) (eC (.str ("great" : Str)))) (eAnd (eCall (bIsi .tuple) (aCons (eVar 12) aNil)) (eOp sEq (eVar 5) (eC (.int 20)))))))))))
theorem hold_end {P : Pg} (hP : PgOk P) {H : AH} {c : Rc} {ch : List Rc} {evs more : List Evt} {fb : Bool} {d n : Nat} {r : Option Va} {kvs : List (Str × U)} {x0 x6 x8 x9 x10 : Option U} {t : Ty}
    (hd : d ≤ 20) (hres : ∀ v, c.res = some v → HasV v t) (hev : ∀ e ∈ evs ++ more, EvtOk P e)
    (h1 : ∀ v, c.res = some v → r = some v ∧ more = []) (h2 : c.res = none → openC ch = true → r = none ∧ more = []) (h3 : c.res = none → openC ch = false → ∃ e m, more = e :: m ∧ (fb = true ∨ e = .kd "great" ∨ ((∃ f vs, e = .cl f vs) ∧ 20 - d = 0))) :
    holdE [x0, some c.u, some (.seq .lst (ch.map Rc.u)), some (.seq .lst (evs.map Evt.u)), some (.bl fb), some (.int d), x6, some (.obj (H.length + 1)), x8, x9, x10, some (optU r), none] (wh H ch (evs ++ more) n r.isNone kvs) = .rt (.bl true) (wh H ch (evs ++ more) n r.isNone kvs) := by
  have hce : Cmp (.seq .lst (evs.map Evt.u)) := evts_cmp hP (Cmp.sub hev)
  cases hr : c.res with
  | some v =>
    obtain ⟨rfl, rfl⟩ := h1 v hr
    have hcu : c.u = .seq .tup [.str c.name, .seq .tup (c.args.map Va.u), opU c.up, .bl true, v.u] := by simp [Rc.u, hr, valU]
    have e1 : sEq (.obj H.length) (.seq .lst (evs.map Evt.u)) (wh H ch evs n false kvs) = .ok (.bl true) (wh H ch evs n false kvs) := by
      unfold sEq
      rw [eqB_same res_wa res_evs hce]
    have e2 : sEq v.u v.u (wh H ch evs n false kvs) = .ok (.bl true) (wh H ch evs n false kvs) := sEq_same (va_cmp (hres v hr))
    rw [hcu]
    simp only [List.append_nil, Option.isNone_some, optU]
    simp [holdE, asSeq, e1, e2]
  | none =>
    have hcu : c.u = .seq .tup [.str c.name, .seq .tup (c.args.map Va.u), opU c.up, .bl false, .non] := by simp [Rc.u, hr, valU]
    cases ho : openC ch with
    | true =>
      obtain ⟨rfl, rfl⟩ := h2 hr ho
      obtain ⟨pre, l, rfl, hl⟩ := openC_true ho
      have e1 : ∀ ch, sEq (.obj H.length) (.seq .lst (evs.map Evt.u)) (wh H ch evs n true kvs) = .ok (.bl true) (wh H ch evs n true kvs) := fun ch => by
        unfold sEq
        rw [eqB_same res_wa res_evs hce]
      have e2 : atI (pre.map Rc.u ++ [l.u]) (-1) = some l.u := atI_neg1
      have hlu : l.u = .seq .tup [.str l.name, .seq .tup (l.args.map Va.u), opU l.up, .bl false, .non] := by simp [Rc.u, hl, valU]
      have hpos : (0 : Int) < (pre.length : Int) + 1 := by omega
      rw [hcu]
      simp only [List.append_nil, Option.isNone_none, optU, List.map_append, List.map_cons, List.map_nil]
      rw [hlu] at e2 ⊢
      have eb := wh_b (H := H) (ch := pre ++ [l]) (o := evs) (n := n) (st := true) (kvs := kvs)
      simp [holdE, asSeq, e1, e2, bLen, hpos, eb]
    | false =>
      obtain ⟨e, m, rfl, hcase⟩ := h3 hr ho
      have ec : (tAndM (tst (eOp sGt (eCall bLen (aCons (eVar 2) (aNil))) (eC (.int 0)))) (tNotM (tst (eOp sIx (eOp sIx (eVar 2) (eUn sNeg (eC (.int 1)))) (eC (.int 3))))))
          [x0, some c.u, some (.seq .lst (ch.map Rc.u)), some (.seq .lst (evs.map Evt.u)), some (.bl fb), some (.int d), x6, some (.obj (H.length + 1)), x8, x9, x10, some (optU r), none] (wh H ch (evs ++ e :: m) n r.isNone kvs) = .ok false (wh H ch (evs ++ e :: m) n r.isNone kvs) := by
        rcases openC_false ho with rfl | ⟨pre, l, rfl, hl⟩
        · simp [bLen, asSeq]
        · have e2 : atI (pre.map Rc.u ++ [l.u]) (-1) = some l.u := atI_neg1
          have hlu : l.u = .seq .tup [.str l.name, .seq .tup (l.args.map Va.u), opU l.up, .bl true, valU l.res] := by simp [Rc.u, hl]
          have hpos : (0 : Int) < (pre.length : Int) + 1 := by omega
          simp only [List.map_append, List.map_cons, List.map_nil]
          rw [hlu] at e2 ⊢
          simp [bLen, asSeq, e2, hpos]
      have ecut : sSl (.obj H.length) none (some ((evs.length : Nat) : Int)) (wh H ch (evs ++ e :: m) n r.isNone kvs) = .ok (.seq .lst (evs.map Evt.u)) (wh H ch (evs ++ e :: m) n r.isNone kvs) := by
        have h1 : HT.sIx (evs.length + (m.length + 1)) 0 none = 0 := HT.sIx_none _ _
        have h2 : HT.sIx (evs.length + (m.length + 1)) (evs.length + (m.length + 1)) (some ((evs.length : Nat) : Int)) = evs.length := by rw [HT.sIx_nat]; omega
        simp [sSl, asL, cutU, h1, h2]
      have e1 : sNe (.seq .lst (evs.map Evt.u)) (.seq .lst (evs.map Evt.u)) (wh H ch (evs ++ e :: m) n r.isNone kvs) = .ok (.bl false) (wh H ch (evs ++ e :: m) n r.isNone kvs) := by
        unfold sNe
        rw [eqB_same res_evs res_evs hce]
        rfl
      have e2 : atI (evs.map Evt.u ++ e.u :: m.map Evt.u) ((evs.length : Nat) : Int) = some e.u := atI_ofNat (by simp)
      have hle : ¬ ((evs.length : Int) + ((m.length : Int) + 1) ≤ (evs.length : Int)) := by omega
      have eb := wh_b (H := H) (ch := ch) (o := evs ++ e :: m) (n := n) (st := r.isNone) (kvs := kvs)
      have ea := wh_a (H := H) (ch := ch) (o := evs ++ e :: m) (n := n) (st := r.isNone) (kvs := kvs)
      have eo : (eOr (eVar 4) (eOr (eOp sEq (eVar 12) (eC (.str ("great" : Str)))) (eAnd (eCall (bIsi .tuple) (aCons (eVar 12) aNil)) (eOp sEq (eVar 5) (eC (.int 20))))))
          [x0, some c.u, some (.seq .lst (ch.map Rc.u)), some (.seq .lst (evs.map Evt.u)), some (.bl fb), some (.int d), x6, some (.obj (H.length + 1)), x8, x9, x10, some (optU r), some e.u] (wh H ch (evs ++ e :: m) n r.isNone kvs) = .ok (.bl true) (wh H ch (evs ++ e :: m) n r.isNone kvs) := by
        cases fb with
        | true => simp
        | false =>
          rcases hcase with h | rfl | ⟨⟨f, vs, rfl⟩, h⟩
          · cases h
          · simp (decide := true) [Evt.u, sEq_str]
          · have hd20 : d = 20 := by omega
            subst hd20
            have e3 : sEq (Evt.cl f vs).u (.str ("great" : Str)) (wh H ch (evs ++ .cl f vs :: m) n r.isNone kvs) = .ok (.bl false) (wh H ch (evs ++ .cl f vs :: m) n r.isNone kvs) := by
              have hc := evt_cmp hP (hev (.cl f vs) (by simp))
              unfold sEq
              rw [eqB_of (res_pure _ hc.pure) (res_pure _ (cmp_str ok_great).pure) hc (cmp_str ok_great).str]
              simp [Evt.u, toP, PyData.eqv]
            simp [e3]
            simp [Evt.u, bIsi, isA, sEq_int]
      unfold holdE
      generalize (eOr (eVar 4) (eOr (eOp sEq (eVar 12) (eC (.str ("great" : Str)))) (eAnd (eCall (bIsi .tuple) (aCons (eVar 12) aNil)) (eOp sEq (eVar 5) (eC (.int 20)))))) = E at eo ⊢
      generalize (tAndM (tst (eOp sGt (eCall bLen (aCons (eVar 2) (aNil))) (eC (.int 0)))) (tNotM (tst (eOp sIx (eOp sIx (eVar 2) (eUn sNeg (eC (.int 1)))) (eC (.int 3)))))) = T at ec ⊢
      rw [hcu] at eo ec ⊢
      simp [ec, asSeq, bLen, hle, ecut, e1, e2, eo]
theorem m_holds_is (S : SemT) : m_law_call_holds S = sSeq (sSet 6 (eCall (arity 2 (S .law_one)) (aCons (eVar 0) (aCons (eOp sIx (eVar 1) (eC (.int 0))) (aNil))))) (sSeq (sSet 7 (eNew (aCons (eNew (aNil)) (aCons (eVar 2) (aCons (eC (.int 0)) (aCons (eC (.bl false)) (aNil))))))) (sSeq (sSet 8 (eDict)) (sSeq (sFor NN (iZip2 (eOp sIx (eVar 6) (eC (.int 1))) (eOp sIx (eVar 1) (eC (.int 1)))) (tgT [9, 10]) (sSto stD (eVar 8) (eOp sIx (eVar 9) (eC (.int 0))) (eVar 10))) (sSeq (sSet 11 (eCall (arity 3 (S .law_given)) (aCons (eVar 7) (aCons (eOp sIx (eVar 6) (eC (.int 3))) (aCons (eVar 8) (aNil)))))) holdE)))) := rfl
theorem f_call_holds {P : Pg} (hP : PgOk P) {k : Nat} (hk : 12 ≤ k) {H : AH} (ok : Okh H) {nd : Nd} {fb : Bool} (hn : NOK P (fb = true) nd) :
    sem k .law_call_holds [P.u, nd.rc.u, .seq .lst ((nd.es.crs nd.b).map Rc.u), .seq .lst (nd.es.evs.map Evt.u), .bl fb, .int nd.d] H = .ok (.bl true) H := by
  obtain ⟨k, rfl⟩ : ∃ j, k = j + 2 := ⟨k - 2, by omega⟩
  obtain ⟨ts, s, hsig, hv, hres⟩ := hn.sig
  obtain ⟨dd, hd, hts, hgs⟩ := sig_at hsig
  obtain ⟨fo, hname⟩ := hP.at_ok hd
  have hstr : PyData.strOk nd.rc.name = true := hname ▸ fo.str
  have hlen : dd.params.length = nd.rc.args.length := by rw [hv.len, ← hts]; simp
  have hfew := fo.few
  have hdep := fo.dep
  have efn := f_law_one (k := k) (h := H) (f := nd.rc.name) hP ok hstr
  rw [hd] at efn
  simp only at efn
  have hv' : HasVs nd.rc.args (dd.params.map (·.2)) := by rw [hts]; exact hv
  have hg := good_F hP hsig hv
  obtain ⟨r, more, n', w, fd⟩ := node_walk (denF P nd.rc.name nd.rc.args) nd.b s [] [] hg hn.ok
  simp only [List.nil_append, List.length_nil] at w
  have hden : denF P nd.rc.name nd.rc.args = denB (ev0 dd.params nd.rc.args) dd.body := by unfold denF; rw [hd]
  have hb : (nd.es.evs ++ more).length ≤ 900 := by
    have b1 : Bnd 148 (denF P nd.rc.name nd.rc.args) := by
      rw [hden]
      exact (bnd_B hP.sg.few dd.body fo.body).mono (bb5 hdep)
    have := w.bnd b1
    simp at this
    simp; omega
  have hevs := WR.evok hg w (fun e he => by simp at he)
  rw [hden] at w
  have dk := bindD_dk (ps := dd.params) (vs := nd.rc.args) (kvs := []) (n := 0) fo.nd (by simp) rfl
  obtain ⟨kvs', hp, eg⟩ := f_given (H := H) (ch := nd.es.crs nd.b) hP.sg ok (k := k + 1) (by omega) fo.body (ev0_ok hv') dk (by simp; omega) w hb (by omega)
  have hun : dd.u = .seq .tup [.str dd.name, .seq .tup (dd.params.map prmU), .seq .tup [dd.gives.u, .seq .tup (dd.sz.map U.int)], dd.body.u] := rfl
  obtain ⟨o9, o10, el⟩ := loop_bindC (h := H ++ [.lst []] ++ [.lst [.obj H.length, .seq .lst ((nd.es.crs nd.b).map Rc.u), .int 0, .bl false]]) (q := H.length + 2) (x0 := some P.u) (x1 := some nd.rc.u) (x2 := some (.seq .lst ((nd.es.crs nd.b).map Rc.u))) (x3 := some (.seq .lst (nd.es.evs.map Evt.u))) (x4 := some (.bl fb)) (x5 := some (.int nd.d)) (x6 := some dd.u) (x7 := some (.obj (H.length + 1))) (rest := [none, none]) dd.params nd.rc.args [] none none (by simp) hlen (by simp; omega)
  have ew : ∀ kvs, H ++ [.lst []] ++ [.lst [.obj H.length, .seq .lst ((nd.es.crs nd.b).map Rc.u), .int 0, .bl false]] ++ [.dct kvs] = wh H (nd.es.crs nd.b) [] 0 false kvs := fun kvs => by simp [wh]
  have eh := hold_end hP (H := H) (c := nd.rc) (ch := nd.es.crs nd.b) (evs := nd.es.evs) (more := more) (fb := fb) (d := nd.d) (n := n') (r := r) (kvs := kvs') (x0 := some P.u) (x6 := some dd.u) (x8 := some (.obj (H.length + 2))) (x9 := o9) (x10 := o10) (t := s) hn.d2 hres hevs fd.done fd.inn (fun a b => fd.cut a b)
  rw [ew, ew] at el
  have hcu : nd.rc.u = .seq .tup [.str nd.rc.name, .seq .tup (nd.rc.args.map Va.u), opU nd.rc.up, .bl nd.rc.res.isSome, valU nd.rc.res] := rfl
  have e : runB 13 (m_law_call_holds (sem (k + 1))) [P.u, nd.rc.u, .seq .lst ((nd.es.crs nd.b).map Rc.u), .seq .lst (nd.es.evs.map Evt.u), .bl fb, .int nd.d] H = .ok (.bl true) (wh H (nd.es.crs nd.b) (nd.es.evs ++ more) n' r.isNone kvs') := by
    rw [m_holds_is]
    have ew0 := ew []
    rw [hcu] at eh el ⊢
    rw [hun] at eh el efn
    generalize holdE = HE at eh
    simp [efn]
    simp at ew0
    rw [ew0]
    simp [asSeq]
    rw [forL_of (hit_zip (by simpa using hlen)) NN 0 _ _ (by simp) (by rw [zipU_len (by simpa using hlen)]; simp [NN]; omega)]
    rw [List.drop_zero, el]
    simp [eg, eh]
  show Wk.runC 13 (m_law_call_holds (sem (k + 1))) _ _ = _
  rw [runC_ap, e]
  unfold wh
  exact clean_app rfl ok rfl
end Wk
set_option maxRecDepth 100000
set_option maxHeartbeats 400000
/-! P23: the walk over all calls: its parts. -/
namespace Wk
open PySem PySem.Spec PyProof.Rows L2

mutual
theorem node_b : ∀ (t : CT) (b : Nat) (up : Option Nat) (D i : Nat) (nd : Nd), (t.nodes b up D)[i]? = some nd → nd.b = b + i
  | .mk f vs es res, b, up, D, i, nd, h => by
    cases i with
    | zero => simp [CT.nodes] at h; subst h; rfl
    | succ i =>
      have := node_bs es b (b + 1) (D + 1) i nd (by simpa [CT.nodes] using h)
      omega
theorem node_bs : ∀ (es : CEs) (p b D i : Nat) (nd : Nd), (es.nodes p b D)[i]? = some nd → nd.b = b + i
  | .nil, p, b, D, i, nd, h => by simp [CEs.nodes] at h
  | .own k r, p, b, D, i, nd, h => node_bs r p b D i nd (by simpa [CEs.nodes] using h)
  | .sub t r, p, b, D, i, nd, h => by
    simp only [CEs.nodes] at h
    by_cases hi : i < (t.nodes b (some p) D).length
    · rw [List.getElem?_append_left hi] at h
      exact node_b t b (some p) D i nd h
    · rw [List.getElem?_append_right (by omega)] at h
      have := node_bs r p (b + t.size) D _ nd h
      rw [CT.nodes_len] at this hi
      omega
end
mutual
theorem node_up : ∀ (t : CT) (b p D i : Nat) (nd : Nd), p < b → (t.nodes b (some p) D)[i]? = some nd → ∃ u, nd.rc.up = some u ∧ u < b + i
  | .mk f vs es res, b, p, D, i, nd, hp, h => by
    cases i with
    | zero => simp [CT.nodes] at h; subst h; exact ⟨p, rfl, by omega⟩
    | succ i =>
      obtain ⟨u, h1, h2⟩ := node_ups es b (b + 1) (D + 1) i nd (by omega) (by simpa [CT.nodes] using h)
      exact ⟨u, h1, by omega⟩
theorem node_ups : ∀ (es : CEs) (p b D i : Nat) (nd : Nd), p < b → (es.nodes p b D)[i]? = some nd → ∃ u, nd.rc.up = some u ∧ u < b + i
  | .nil, p, b, D, i, nd, hp, h => by simp [CEs.nodes] at h
  | .own k r, p, b, D, i, nd, hp, h => node_ups r p b D i nd hp (by simpa [CEs.nodes] using h)
  | .sub t r, p, b, D, i, nd, hp, h => by
    simp only [CEs.nodes] at h
    by_cases hi : i < (t.nodes b (some p) D).length
    · rw [List.getElem?_append_left hi] at h
      exact node_up t b p D i nd hp h
    · rw [List.getElem?_append_right (by omega)] at h
      obtain ⟨u, h1, h2⟩ := node_ups r p (b + t.size) D _ nd (by omega) h
      rw [CT.nodes_len] at h2 hi
      exact ⟨u, h1, by omega⟩
end
theorem rcs_ok (t : CT) : RcsOk ((t.nodes 0 none 1).map (·.rc)) := by
  cases t with
  | mk f vs es res =>
    refine ⟨fun c h => ?_, fun a c h ha => ?_⟩
    · simp [CT.nodes] at h; subst h; rfl
    · obtain ⟨a, rfl⟩ : ∃ j, a = j + 1 := ⟨a - 1, by omega⟩
      rw [List.getElem?_map] at h
      obtain ⟨nd, h1, rfl⟩ := Option.map_eq_some_iff.mp h
      obtain ⟨u, e1, e2⟩ := node_ups es 0 1 2 a nd (by omega) (by simpa [CT.nodes] using h1)
      exact ⟨u, e1, by omega⟩
mutual
theorem lin_ok {P : Pg} {full : Prop} : ∀ (t : CT) (d b : Nat), TOK P full d t → ∀ s ∈ t.lin b, PyData.strOk s.2 = true ∧ b ≤ s.1 ∧ s.1 < b + t.size
  | .mk f vs es res, d, b, h, s, hs => by
    cases h with
    | mk _ _ _ w =>
      simp only [CT.lin, List.mem_cons] at hs
      simp only [CT.size]
      rcases hs with rfl | hs
      · exact ⟨ok_call, Nat.le_refl _, by simp⟩
      · obtain ⟨h1, h2⟩ := lin_oks es _ b (b + 1) _ _ w s hs
        exact ⟨h1, by omega, by omega⟩
theorem lin_oks {P : Pg} {full : Prop} : ∀ (es : CEs) (d p b : Nat) (t : IT Va) (res : Option Va), WOK P full d t es res → ∀ s ∈ es.lin p b, PyData.strOk s.2 = true ∧ (s.1 = p ∨ (b ≤ s.1 ∧ s.1 < b + es.size))
  | .nil, d, p, b, t, res, h, s, hs => by simp [CEs.lin] at hs
  | .own k r, d, p, b, t, res, h, s, hs => by
    cases h with
    | @stp _ kd _ _ _ w =>
      simp only [CEs.lin, List.mem_cons] at hs
      simp only [CEs.size]
      rcases hs with rfl | hs
      · exact ⟨by cases kd <;> simp [Kd.s], .inl rfl⟩
      · exact lin_oks r _ p b _ _ w s hs
  | .sub c r, d, p, b, t, res, h, s, hs => by
    simp only [CEs.lin, List.mem_append] at hs
    simp only [CEs.size]
    cases h with
    | call tk w =>
      rcases hs with hs | hs
      · obtain ⟨h1, h2, h3⟩ := lin_ok _ _ b tk s hs
        exact ⟨h1, .inr ⟨by omega, by omega⟩⟩
      · obtain ⟨h1, h2⟩ := lin_oks r _ p _ _ _ w s hs
        exact ⟨h1, by omega⟩
    | within tk =>
      rcases hs with hs | hs
      · obtain ⟨h1, h2, h3⟩ := lin_ok _ _ b tk s hs
        exact ⟨h1, .inr ⟨by omega, by omega⟩⟩
      · simp [CEs.lin] at hs
end
mutual
theorem size_lin : ∀ (t : CT) (b : Nat), t.size ≤ (t.lin b).length
  | .mk f vs es res, b => by have := size_lins es b (b + 1); simp [CT.size, CT.lin]; omega
theorem size_lins : ∀ (es : CEs) (p b : Nat), es.size ≤ (es.lin p b).length
  | .nil, p, b => by simp [CEs.size]
  | .own k r, p, b => by have := size_lins r p b; simp [CEs.size, CEs.lin]; omega
  | .sub t r, p, b => by have h1 := size_lin t b; have h2 := size_lins r p (b + t.size); simp [CEs.size, CEs.lin]; omega
end
theorem steps_cmp : ∀ {ss : List (Nat × Str)}, (∀ s ∈ ss, PyData.strOk s.2 = true) → Cmp (.seq .lst (ss.map stepU))
  | [], _ => ⟨rfl, by simp [strsOk, strsOks], by simp [toP, toPs, PyData.depth, PyData.depthAll]⟩
  | s :: ss, h => by
    have h2 := steps_cmp (ss := ss) fun x hx => h x (by simp [hx])
    have s2 := h2.str
    have d2 := h2.dep
    refine ⟨by simp [pureU, pureUs, stepU, steps_pure], ?_, ?_⟩
    · simp only [strsOk, strsOks, List.map_cons, stepU] at s2 ⊢
      simp [h s (by simp), s2]
    · simp only [List.map_cons, stepU, toP, toPs, PyData.depth, PyData.depthAll] at d2 ⊢
      omega
/-! ### the loop that finds who stands beneath -/
def bH (H : AH) (A : List (List Nat)) (dp : List Nat) : AH := H ++ (A.map fun l => MO.lst (l.map natU)) ++ [.lst (dp.map natU)]
section
variable {H : AH} {A : List (List Nat)} {dp : List Nat}
theorem bH_H {i : Nat} {o : MO} (h : H[i]? = some o) : (bH H A dp)[i]? = some o := by
  have := (List.getElem?_eq_some_iff.mp h).1
  unfold bH
  rw [List.append_assoc, List.getElem?_append_left this, h]
theorem bH_A {i : Nat} {l : List Nat} (h : A[i]? = some l) : (bH H A dp)[H.length + i]? = some (.lst (l.map natU)) := by
  have := (List.getElem?_eq_some_iff.mp h).1
  unfold bH
  rw [List.append_assoc, List.getElem?_append_right (by omega), List.getElem?_append_left (by simp; omega)]
  simp [h]
theorem bH_d : (bH H A dp)[H.length + A.length]? = some (.lst (dp.map natU)) := by
  unfold bH
  rw [List.getElem?_append_right (by simp)]
  simp
theorem bH_sd (dp' : List Nat) : (bH H A dp).set (H.length + A.length) (.lst (dp'.map natU)) = bH H A dp' := by
  unfold bH
  rw [List.set_append_right _ _ (by simp)]
  simp
theorem bH_sA {i : Nat} {l : List Nat} (h : A[i]? = some l) (x : Nat) : (bH H A dp).set (H.length + i) (.lst (l.map natU ++ [natU x])) = bH H (A.modify i (· ++ [x])) dp := by
  have hl := (List.getElem?_eq_some_iff.mp h).1
  unfold bH
  rw [List.append_assoc, List.append_assoc, List.set_append_right _ _ (by omega), List.set_append_left _ _ (by simp; omega)]
  congr 2
  simp only [Nat.add_sub_cancel_left]
  refine List.ext_getElem? fun j => ?_
  rw [List.getElem?_map, List.getElem?_modify]
  by_cases hj : i = j
  · subst hj
    rw [List.getElem?_set_self (by simpa using hl), h]
    simp
  · rw [List.getElem?_set_ne hj, List.getElem?_map]
    simp [hj]
theorem bH_len : (bH H A dp).length = H.length + A.length + 1 := by simp [bH]; omega
end
theorem bn_none {A : List (List Nat)} {dp : List Nat} {c : Rc} (h : c.up = none) : bnStep (A, dp) c = (A, dp ++ [1]) := by simp [bnStep, h]
theorem bn_some {A : List (List Nat)} {dp : List Nat} {c : Rc} {u : Nat} (h : c.up = some u) : bnStep (A, dp) c = (A.modify u (· ++ [dp.length]), dp ++ [dp.getD u 0 + 1]) := by simp [bnStep, h]
theorem bn_cons {st : List (List Nat) × List Nat} {c : Rc} {cs : List Rc} : bnRun st (c :: cs) = bnRun (bnStep st c) cs := rfl
theorem bn_pre : ∀ (cs : List Rc) (A : List (List Nat)) (dp : List Nat), ∃ m, (bnRun (A, dp) cs).2 = dp ++ m
  | [], A, dp => ⟨[], by simp [bnRun]⟩
  | c :: cs, A, dp => by
    rw [bn_cons]
    cases hu : c.up with
    | none =>
      obtain ⟨m, e⟩ := bn_pre cs A (dp ++ [1])
      rw [bn_none hu, e]
      exact ⟨1 :: m, by simp⟩
    | some u =>
      obtain ⟨m, e⟩ := bn_pre cs (A.modify u (· ++ [dp.length])) (dp ++ [dp.getD u 0 + 1])
      rw [bn_some hu, e]
      exact ⟨(dp.getD u 0 + 1) :: m, by simp⟩
def bnB : MS := (sSeq (sExpr (eMt mtAppend (eVar 6) (aCons (eC (.int 1)) (aNil)))) (sSeq (sIf (tst (eOp sGt (eVar 7) (eC (.int 0)))) (sSeq (sExpr (eMt mtAppend (eOp sIx (eVar 5) (eOp sIx (eOp sIx (eVar 1) (eVar 7)) (eC (.int 2)))) (aCons (eVar 7) (aNil)))) (sSto stL (eVar 6) (eVar 7) (eOp sAdd (eOp sIx (eVar 6) (eOp sIx (eOp sIx (eVar 1) (eVar 7)) (eC (.int 2)))) (eC (.int 1))))) (sNil)) (sIf (tst (eOp sGt (eOp sIx (eVar 6) (eVar 7)) (eC (.int 20)))) (sRet (eC (.bl false))) (sNil))))
theorem bn_loop {H : AH} {ci : Nat} {cs : List Rc} (hci : H[ci]? = some (.lst (cs.map Rc.u))) (rk : RcsOk cs) (hcs : cs.length ≤ 900) {A' : List (List Nat)} {dp' : List Nat} (h20 : ∀ d ∈ dp', d ≤ 20) {x0 x2 x3 x4 x8 x9 x10 x11 : Option U} :
    ∀ (m i : Nat) (A : List (List Nat)) (dp : List Nat) (o7 : Option U), i + m = cs.length → dp.length = i → A.length = cs.length → (∀ l ∈ A, l.length ≤ i) → bnRun (A, dp) (cs.drop i) = (A', dp') →
      ∃ o7', loopF (bodyT (tgN 7) bnB) ((List.range' i m).map fun (j : Nat) => U.int j) [x0, some (.obj ci), x2, x3, x4, some (.seq .lst (obs H.length cs.length)), some (.obj (H.length + cs.length)), o7, x8, x9, x10, x11] (bH H A dp) =
        .nx [x0, some (.obj ci), x2, x3, x4, some (.seq .lst (obs H.length cs.length)), some (.obj (H.length + cs.length)), o7', x8, x9, x10, x11] (bH H A' dp')
  | 0, i, A, dp, o7, h1, h2, h3, h4, h5 => by
    rw [List.drop_eq_nil_of_le (by omega)] at h5
    simp only [bnRun, List.foldl_nil, Prod.mk.injEq] at h5
    obtain ⟨rfl, rfl⟩ := h5
    exact ⟨o7, rfl⟩
  | m + 1, i, A, dp, o7, h1, h2, h3, h4, h5 => by
    have hi : i < cs.length := by omega
    rw [List.drop_eq_getElem_cons hi, bn_cons] at h5
    generalize hc : cs[i] = c at h5
    have hcg : cs[i]? = some c := by rw [List.getElem?_eq_getElem hi, hc]
    have cit : ∀ A dp, (bH H A dp)[ci]? = some (.lst (cs.map Rc.u)) := fun A dp => bH_H hci
    have hcu : atI (cs.map Rc.u) (i : Int) = some c.u := atI_ofNat (by rw [List.getElem?_map, hcg]; rfl)
    have gd : ∀ dp : List Nat, (bH H A dp)[H.length + cs.length]? = some (.lst (dp.map natU)) := fun dp => by rw [← h3]; exact bH_d
    have sd : ∀ dp dp' : List Nat, (bH H A dp).set (H.length + cs.length) (.lst (dp'.map natU)) = bH H A dp' := fun dp dp' => by rw [← h3]; exact bH_sd dp'
    have s1 := sd dp (dp ++ [1])
    simp only [List.map_append, List.map_cons, List.map_nil] at s1
    have hn1 : natU 1 = .int 1 := rfl
    have hdl : dp.length ≤ 999 := by omega
    have hrange : List.range' i (m + 1) = i :: List.range' (i + 1) m := List.range'_succ
    rw [hrange, List.map_cons]
    by_cases h0 : i = 0
    · subst h0
      have hup := rk.root c hcg
      rw [bn_none hup] at h5
      obtain ⟨o7', ih⟩ := bn_loop hci rk hcs h20 (x0 := x0) (x2 := x2) (x3 := x3) (x4 := x4) (x8 := x8) (x9 := x9) (x10 := x10) (x11 := x11) m 1 A (dp ++ [1]) (some (.int 0)) (by omega) (by simp [h2]) h3 (fun l hl => by have := h4 l hl; omega) h5
      refine ⟨o7', ?_⟩
      rw [← ih]
      have hdp : dp = [] := List.length_eq_zero_iff.mp h2
      subst hdp
      rw [hn1] at s1
      simp [loopF, bodyT, tgN, bnB, isLo, gd, mtAppend, asSeq, natU]
      simp at s1
      simp [s1, gd, natU]
    · obtain ⟨u, hu, hul⟩ := rk.up i c hcg (by omega)
      rw [bn_some hu] at h5
      have huA : u < A.length := by omega
      obtain ⟨l, hl⟩ : ∃ l, A[u]? = some l := ⟨_, List.getElem?_eq_getElem huA⟩
      have hll := h4 l (List.mem_of_getElem? hl)
      have hll9 : l.length ≤ 999 := by omega
      obtain ⟨du, hdu⟩ : ∃ x, dp[u]? = some x := ⟨_, List.getElem?_eq_getElem (by omega)⟩
      have hgd : dp.getD u 0 = du := by rw [List.getD_eq_getElem?_getD, hdu]; rfl
      rw [hgd, h2] at h5
      obtain ⟨o7', ih⟩ := bn_loop hci rk hcs h20 (x0 := x0) (x2 := x2) (x3 := x3) (x4 := x4) (x8 := x8) (x9 := x9) (x10 := x10) (x11 := x11) m (i + 1) (A.modify u (· ++ [i])) (dp ++ [du + 1]) (some (.int i)) (by omega) (by simp [h2]) (by simpa using h3) (fun l' hl' => by
        obtain ⟨j, hj⟩ := List.mem_iff_getElem?.mp hl'
        rw [List.getElem?_modify] at hj
        cases hE : A[j]? with
        | none => rw [hE] at hj; simp at hj
        | some e0 =>
          have := h4 e0 (List.mem_of_getElem? hE)
          rw [hE] at hj
          by_cases hu : u = j
          · simp [hu] at hj; subst hj; simp; omega
          · simp [hu] at hj; subst hj; omega) h5
      refine ⟨o7', ?_⟩
      rw [← ih]
      have hd20 : du + 1 ≤ 20 := by
        obtain ⟨m2, e⟩ := bn_pre (cs.drop (i + 1)) (A.modify u (· ++ [i])) (dp ++ [du + 1])
        rw [h5] at e
        exact h20 _ (by rw [show dp' = dp ++ [du + 1] ++ m2 from e]; simp)
      have hob := obs_at (n := H.length) (L := cs.length) (a := u) (by omega)
      have hgA : (bH H A (dp ++ [1]))[H.length + u]? = some (.lst (l.map natU)) := bH_A hl
      have hsA := bH_sA (H := H) (dp := dp ++ [1]) hl i
      have gd2 : ∀ dp : List Nat, (bH H (A.modify u (· ++ [i])) dp)[H.length + cs.length]? = some (.lst (dp.map natU)) := fun dp => by
        have := bH_d (H := H) (A := A.modify u (· ++ [i])) (dp := dp)
        rw [List.length_modify, h3] at this; exact this
      have sd2 : ∀ dp dp' : List Nat, (bH H (A.modify u (· ++ [i])) dp).set (H.length + cs.length) (.lst (dp'.map natU)) = bH H (A.modify u (· ++ [i])) dp' := fun dp dp' => by
        have := bH_sd (H := H) (A := A.modify u (· ++ [i])) (dp := dp) dp'
        rw [List.length_modify, h3] at this; exact this
      have hcun : c.u = .seq .tup [.str c.name, .seq .tup (c.args.map Va.u), .int u, .bl c.res.isSome, valU c.res] := by simp [Rc.u, hu, opU]
      rw [hcun] at hcu
      have hpos : 0 < i := by omega
      have e1 : atI ((dp ++ [1]).map natU) (u : Int) = some (.int du) := natU_at (by rw [List.getElem?_append_left (by omega)]; exact hdu)
      have e2 : ixN ((dp ++ [1]).map natU).length (i : Int) = some i := by
        unfold ixN
        rw [if_pos (by omega), if_pos (by simp; omega)]
        simp
      have e3 : ((dp ++ [1]).map natU).set i (.int ((du : Int) + 1)) = (dp ++ [du + 1]).map natU := by
        subst h2
        simp [natU]
      have e4 : atI ((dp ++ [du + 1]).map natU) (i : Int) = some (.int ((du + 1 : Nat) : Int)) := natU_at (by subst h2; simp)
      have hle : ¬ (20 : Int) < (du : Int) + 1 := by omega
      have hin : natU i = .int i := rfl
      rw [hn1] at s1
      rw [hin] at hsA
      have s1' : (bH H A dp).set (H.length + cs.length) (.lst (dp.map natU ++ [.int 1])) = bH H A (dp ++ [1]) := s1
      have g1 := gd (dp ++ [1])
      have g2 := gd2 (dp ++ [1])
      have g3 := gd2 (dp ++ [du + 1])
      have s3 := sd2 (dp ++ [1]) (dp ++ [du + 1])
      generalize (dp ++ [1]).map natU = D1 at e1 e2 e3 g1 g2
      rw [← e3] at s3 g3 e4
      generalize hD2 : D1.set i (.int ((du : Int) + 1)) = D2 at e3 e4 g3 s3
      simp [loopF, bodyT, tgN, bnB, isLo, gd, mtAppend, asSeq, hdl, s1', cit, hcu, hpos, hob, hgA, hll9, hsA, g2, e1, stL, e2, hD2, s3, g3, e4, hle]
end Wk
set_option maxRecDepth 100000
set_option maxHeartbeats 400000
/-! P24: the walk over all calls. -/
namespace Wk
open PySem PySem.Spec PyProof.Rows L2

theorem lcL_map {it : Itm} {T : Tg} {me : ME} {ls0 : Loc} {us : List U} {L : U → Loc} {h : AH} {f : U → U} (hit : ∀ i, i ≤ us.length → it i h = some us[i]?) (hT : ∀ u ∈ us, T u h ls0 = some (L u)) (hme : ∀ u ∈ us, me (L u) h = .ok (f u) h) (hu : us.length ≤ 900) :
    ∀ (n i : Nat) (acc : List U), i ≤ us.length → us.length < n + i → acc.length = i → lcL it T cYes me ls0 n i acc h = .ok (acc ++ (us.drop i).map f) h
  | 0, i, acc, h1, h2, h3 => by omega
  | n + 1, i, acc, h1, h2, h3 => by
    unfold lcL
    rw [hit i h1]
    by_cases hi : i < us.length
    · rw [List.getElem?_eq_getElem hi, List.drop_eq_getElem_cons hi]
      simp only [hT _ (List.getElem_mem hi), cYes_ap, Out.bind_ok, if_true, hme _ (List.getElem_mem hi)]
      rw [if_pos (by omega), lcL_map hit hT hme hu n (i + 1) _ (by omega) (by omega) (by simp [h3])]
      simp only [List.map_cons, List.append_assoc, List.singleton_append]
    · rw [List.getElem?_eq_none (by omega), List.drop_eq_nil_of_le (by omega)]
      simp
theorem chs_size : ∀ (es : CEs) (b : Nat), (es.chs b).length ≤ es.size
  | .nil, b => by simp [CEs.chs]
  | .own k r, b => chs_size r b
  | .sub (.mk f vs es res) r, b => by have := chs_size r (b + (CT.mk f vs es res).size); simp [CEs.chs, CEs.size, CT.size] at this ⊢; omega
mutual
theorem node_size : ∀ (t : CT) (b : Nat) (up : Option Nat) (D : Nat), ∀ nd ∈ t.nodes b up D, nd.es.size < t.size
  | .mk f vs es res, b, up, D, nd, h => by
    simp only [CT.nodes, List.mem_cons] at h
    simp only [CT.size]
    rcases h with rfl | h
    · simp
    · have := node_sizes es b (b + 1) (D + 1) nd h; omega
theorem node_sizes : ∀ (es : CEs) (p b D : Nat), ∀ nd ∈ es.nodes p b D, nd.es.size < es.size
  | .nil, p, b, D, nd, h => by simp [CEs.nodes] at h
  | .own k r, p, b, D, nd, h => node_sizes r p b D nd h
  | .sub t r, p, b, D, nd, h => by
    simp only [CEs.nodes, List.mem_append] at h
    simp only [CEs.size]
    rcases h with h | h
    · have := node_size t b (some p) D nd h; omega
    · have := node_sizes r p _ D nd h; omega
end
theorem okh_lists {H X : AH} (ok : Okh H) (hX : ∀ o ∈ X, ∃ us, o = .lst us ∧ pureUs us = true) : Okh (H ++ X) := by
  unfold Okh at ok ⊢
  rw [List.all_append]
  refine Bool.and_eq_true_iff.mpr ⟨List.all_eq_true.mpr fun o ho => belowM_mono (by simp) o (List.all_eq_true.mp ok o ho), List.all_eq_true.mpr fun o ho => ?_⟩
  obtain ⟨us, rfl, hp⟩ := hX o ho
  exact belows_pure _ hp
theorem nats_pure : ∀ l : List Nat, pureUs (l.map natU) = true
  | [] => rfl
  | x :: l => by simp [pureUs, natU, pureU, nats_pure l]
theorem bH_ok {H : AH} {A : List (List Nat)} {dp : List Nat} (ok : Okh H) : Okh (bH H A dp) := by
  unfold bH
  rw [List.append_assoc]
  refine okh_lists ok fun o ho => ?_
  simp only [List.mem_append, List.mem_map, List.mem_singleton] at ho
  rcases ho with ⟨l, _, rfl⟩ | rfl
  · exact ⟨_, rfl, nats_pure l⟩
  · exact ⟨_, rfl, nats_pure dp⟩
def holdB (S : SemT) : MS := (sSeq (sSet 9 (eLc NN (iSeq (eOp sIx (eVar 5) (eVar 7))) (tgN 11) [11] (cYes) (eOp sIx (eVar 1) (eVar 11)))) (sIf (tNotM (tst (eCall (arity 6 (S .law_call_holds)) (aCons (eVar 0) (aCons (eOp sIx (eVar 1) (eVar 7)) (aCons (eVar 9) (aCons (eOp sIx (eVar 4) (eVar 7)) (aCons (eOp sEq (eCall bLen (aCons (eVar 2) (aNil))) (eVar 3)) (aCons (eOp sIx (eVar 6) (eVar 7)) (aNil)))))))))) (sRet (eC (.bl false))) (sNil)))
/-- what the last loop needs -/
structure HoldH (P : Pg) (t : CT) (most : Nat) (H G : AH) (ci si : Nat) : Prop where
  ok : Okh G
  ci : G[ci]? = some (.lst (((t.nodes 0 none 1).map (·.rc)).map Rc.u))
  si : G[si]? = some (.lst ((t.lin 0).map stepU))
  bn : ∀ (i : Nat) (nd : Nd), (t.nodes 0 none 1)[i]? = some nd → G[H.length + i]? = some (.lst ((nd.es.chs (nd.b + 1)).map natU))
  dp : G[H.length + t.size]? = some (.lst (((t.nodes 0 none 1).map (·.d)).map natU))
theorem hold_loop {P : Pg} (hP : PgOk P) {k most : Nat} (hk : 12 ≤ k) {t : CT} {H G : AH} {ci si : Nat} (hh : HoldH P t most H G ci si) (ht : TOK P (decide ((t.lin 0).length = most) = true) 20 t) (hl : (t.lin 0).length ≤ 900) {x8 x10 x11 : Option U} :
    ∀ (m i : Nat) (o7 o9 : Option U), i + m = t.size → ∃ o7' o9', loopF (bodyT (tgN 7) (holdB (sem k))) ((List.range' i m).map fun (j : Nat) => U.int j) [some P.u, some (.obj ci), some (.obj si), some (.int most), some (tabU ((t.nodes 0 none 1).map (fun nd => nd.es.evs))), some (.seq .lst (obs H.length t.size)), some (.obj (H.length + t.size)), o7, x8, o9, x10, x11] G =
      .nx [some P.u, some (.obj ci), some (.obj si), some (.int most), some (tabU ((t.nodes 0 none 1).map (fun nd => nd.es.evs))), some (.seq .lst (obs H.length t.size)), some (.obj (H.length + t.size)), o7', x8, o9', x10, x11] G
  | 0, i, o7, o9, h => ⟨o7, o9, rfl⟩
  | m + 1, i, o7, o9, h => by
    have hlen := CT.nodes_len t 0 none 1
    obtain ⟨nd, hnd⟩ : ∃ nd, (t.nodes 0 none 1)[i]? = some nd := ⟨_, List.getElem?_eq_getElem (by omega)⟩
    have hmem := List.mem_of_getElem? hnd
    have hno := nodes_ok t 0 none 1 (by omega) ht nd hmem
    have hch := ch_tree (cs := (t.nodes 0 none 1).map (·.rc)) t 0 none 1 (fun j n hj => by simp [hj]) nd hmem
    have hbn := hh.bn i nd hnd
    have hsz := node_size t 0 none 1 nd hmem
    have hcl := chs_size nd.es (nd.b + 1)
    have hsl := size_lin t 0
    obtain ⟨o7', o9', ih⟩ := hold_loop hP hk hh ht hl (x8 := x8) (x10 := x10) (x11 := x11) m (i + 1) (some (.int i)) (some (.seq .lst ((nd.es.crs nd.b).map Rc.u))) (by omega)
    refine ⟨o7', o9', ?_⟩
    rw [List.range'_succ, List.map_cons, ← ih]
    generalize hcs : (t.nodes 0 none 1).map (·.rc) = cs at hch
    have hci := hh.ci
    rw [hcs] at hci
    have hcx : ∀ j ∈ nd.es.chs (nd.b + 1), ∃ c, cs[j]? = some c := fun j hj => by
      have : cs[j]? ∈ (nd.es.chs (nd.b + 1)).map (fun i => cs[i]?) := List.mem_map.mpr ⟨j, hj, rfl⟩
      rw [hch] at this
      obtain ⟨c, _, e⟩ := List.mem_map.mp this
      exact ⟨c, e.symm⟩
    have ecomp : lcL (itSeq (.obj (H.length + i))) (tgN 11) cYes (eOp sIx (eVar 1) (eVar 11)) [some P.u, some (.obj ci), some (.obj si), some (.int most), some (tabU ((t.nodes 0 none 1).map (fun nd => nd.es.evs))), some (.seq .lst (obs H.length t.size)), some (.obj (H.length + t.size)), some (.int i), x8, o9, x10, none] NN 0 [] G = .ok ((nd.es.crs nd.b).map Rc.u) G := by
      have := lcL_map (it := itSeq (.obj (H.length + i))) (T := tgN 11) (me := eOp sIx (eVar 1) (eVar 11)) (ls0 := [some P.u, some (.obj ci), some (.obj si), some (.int most), some (tabU ((t.nodes 0 none 1).map (fun nd => nd.es.evs))), some (.seq .lst (obs H.length t.size)), some (.obj (H.length + t.size)), some (.int i), x8, o9, x10, none]) (us := (nd.es.chs (nd.b + 1)).map natU) (h := G)
        (L := fun u => [some P.u, some (.obj ci), some (.obj si), some (.int most), some (tabU ((t.nodes 0 none 1).map (fun nd => nd.es.evs))), some (.seq .lst (obs H.length t.size)), some (.obj (H.length + t.size)), some (.int i), x8, o9, x10, some u])
        (f := fun u => match u with
          | .int j => (atI (cs.map Rc.u) j).getD .non
          | _ => .non) (fun j hj => by simp [itSeq, asSeq, hbn]) (fun u _ => rfl) (fun u hu => by
            obtain ⟨j, hj, rfl⟩ := List.mem_map.mp hu
            obtain ⟨c, hc⟩ := hcx j hj
            have : atI (cs.map Rc.u) (j : Int) = some c.u := atI_ofNat (by rw [List.getElem?_map, hc]; rfl)
            simp [natU, asSeq, hci, this]) (by simp; omega) NN 0 [] (by simp) (by simp [NN]; omega) rfl
      rw [this]
      simp only [List.nil_append, List.drop_zero, List.map_map]
      congr 1
      have e2 : (nd.es.crs nd.b).map Rc.u = ((nd.es.crs nd.b).map some).map (fun o => (o.map Rc.u).getD .non) := by simp
      rw [e2, ← hch, List.map_map]
      refine List.map_congr_left fun j hj => ?_
      obtain ⟨c, hc⟩ := hcx j hj
      have : atI (cs.map Rc.u) (j : Int) = some c.u := atI_ofNat (by rw [List.getElem?_map, hc]; rfl)
      simp [natU, this, hc]
    have hob := obs_at (n := H.length) (L := t.size) (a := i) (by omega)
    have hcu : atI (cs.map Rc.u) (i : Int) = some nd.rc.u := atI_ofNat (by rw [← hcs]; simp [hnd])
    have hdu : atI (((t.nodes 0 none 1).map (·.d)).map natU) (i : Int) = some (.int nd.d) := natU_at (by simp [hnd])
    have heu : atI (((t.nodes 0 none 1).map (fun nd => nd.es.evs)).map fun evs => U.seq .lst (evs.map Evt.u)) (i : Int) = some (.seq .lst (nd.es.evs.map Evt.u)) := atI_ofNat (by simp [hnd])
    have hhold := f_call_holds hP hk hh.ok hno
    have hdp := hh.dp
    have hsi := hh.si
    have hfb : decide (((t.lin 0).length : Int) = (most : Int)) = decide ((t.lin 0).length = most) := by
      by_cases e : (t.lin 0).length = most
      · simp [e]
      · have : ¬ ((t.lin 0).length : Int) = (most : Int) := by omega
        simp [e, this]
    generalize decide ((t.lin 0).length = most) = fb at hhold hfb
    simp only [tabU] at ecomp ⊢
    generalize (((t.nodes 0 none 1).map (fun nd => nd.es.evs)).map fun evs => U.seq .lst (evs.map Evt.u)) = EU at heu ecomp ⊢
    generalize ((t.nodes 0 none 1).map (·.d)).map natU = DU at hdu hdp
    simp [loopF, bodyT, tgN, holdB, asSeq, hob, hbn, wipeU, ecomp, hci, hcu, heu, hsi, bLen, sEq_int, hdp, hdu, hfb, hhold]
def walkE (S : SemT) : MS := (sSeq (sSet 8 (eNew (aNil))) (sSeq (sExpr (eCall (arity 4 (S .law_in_order)) (aCons (eVar 4) (aCons (eVar 5) (aCons (eC (.int 0)) (aCons (eVar 8) (aNil))))))) (sSeq (sIf (tst (eOp sNe (eVar 8) (eVar 2))) (sRet (eC (.bl false))) (sNil)) (sSeq (sFor NN (iRange (eCall bLen (aCons (eVar 1) (aNil)))) (tgN 7) (holdB S)) (sRet (eC (.bl true)))))))
theorem m_walked_is (S : SemT) : m_law_walked S = sSeq (sSet 4 (eCall (arity 2 (S .law_events)) (aCons (eVar 1) (aCons (eVar 2) (aNil))))) (sSeq (sIf (tst (eOp sIsN (eVar 4) (eC .non))) (sRet (eC (.bl false))) (sNil)) (sSeq (sSet 5 (eLc NN (iSeq (eVar 1)) (tgN 10) [10] (cYes) (eNew (aNil)))) (sSeq (sSet 6 (eNew (aNil))) (sSeq (sFor NN (iRange (eCall bLen (aCons (eVar 1) (aNil)))) (tgN 7) bnB) (walkE S))))) := rfl
end Wk
set_option maxRecDepth 100000
set_option maxHeartbeats 400000
/-! P25: the walk over all calls, joined. -/
namespace Wk
open PySem PySem.Spec PyProof.Rows L2

theorem in62a {n : Nat} : -(2 ^ 62) ≤ (n : Int) := Int.le_trans (by decide : -(2 ^ 62 : Int) ≤ 0) (Int.natCast_nonneg n)
theorem in62b {n : Nat} (h : n ≤ 1000) : (n : Int) < 2 ^ 62 := Int.lt_of_le_of_lt (b := 1000) (by omega) (by decide)
theorem y1 {a b : Out Itm} {n : Int} (c : -(2 ^ 62) ≤ n ∧ n < 2 ^ 62) : (if -(2 ^ 62) ≤ n ∧ n < 2 ^ 62 then a else b) = a := if_pos c
theorem y2 {m : ME} {ls : Loc} {h : AH} {n : Int} (e : m ls h = .ok (.int n) h) : iRange m ls h = if -(2 ^ 62) ≤ n ∧ n < 2 ^ 62 then .ok (itRange n) h else .bad := by
  unfold iRange
  rw [e, Out.bind_ok]
theorem y3 {m : ME} {ls : Loc} {h : AH} {n : Nat} (h9 : n ≤ 1000) (e : m ls h = .ok (.int n) h) : iRange m ls h = .ok (itRange n) h := (y2 e).trans (y1 ⟨in62a, in62b h9⟩)
theorem iRange_len {v ci n : Nat} {CU : List U} (hn : CU.length = n) (h9 : n ≤ 1000) (ls : Loc) (h : AH) (h1 : ls[v]? = some (some (.obj ci))) (h2 : h[ci]? = some (.lst CU)) : iRange (eCall bLen (aCons (eVar v) aNil)) ls h = .ok (itRange n) h := by
  refine y3 h9 ?_
  subst hn
  simp [h1, bLen, asSeq, h2]
theorem f_walked {P : Pg} (hP : PgOk P) {k most : Nat} (hk : 40 ≤ k) {t : CT} {H : AH} {ci si : Nat} (ok : Okh H) (hci : H[ci]? = some (.lst (((t.nodes 0 none 1).map (·.rc)).map Rc.u))) (hsi : H[si]? = some (.lst ((t.lin 0).map stepU))) (ht : TOK P (decide ((t.lin 0).length = most) = true) 20 t) (hl : (t.lin 0).length ≤ 900) :
    sem k .law_walked [P.u, .obj ci, .obj si, .int most] H = .ok (.bl true) H := by
  obtain ⟨k, rfl⟩ : ∃ j, k = j + 2 := ⟨k - 2, by omega⟩
  have hlen := CT.nodes_len t 0 none 1
  have hsl := size_lin t 0
  have hlin := lin_ok t 20 0 ht
  -- the events
  have hcs : ((t.nodes 0 none 1).map (·.rc)).length = t.size := by simp [hlen]
  have ev := ev_tree (cs := (t.nodes 0 none 1).map (·.rc)) t 0 none 1 [] t.size ht.okk rfl (fun u e => by cases e) (Nat.le_refl _) (fun i nd h => by simp [h])
  simp only [List.nil_append, Nat.sub_self, List.replicate_zero, List.append_nil, Nat.zero_add] at ev
  have e4 := f_events (k := k) ok hci hsi (rcs_ok t) (fun s hs => (hlin s hs).1) (fun s hs => by rw [hcs]; have := (hlin s hs).2.2; omega) hl (by rw [hcs]; omega) (by rw [hcs]; exact ev)
  -- beneath
  have bn := bn_tree t 0 none 1 [] [] t.size rfl rfl (fun u e => by cases e) (fun _ => rfl) (Nat.le_refl _)
  simp only [List.nil_append, Nat.sub_self, List.replicate_zero, List.append_nil, upMod] at bn
  have e5 := new_lists (x := 10) (ls0 := [some P.u, some (.obj ci), some (.obj si), some (.int most), some (tabU ((t.nodes 0 none 1).map (fun nd => nd.es.evs))), none, none, none, none, none, none, none]) hci (by rw [List.length_map, hcs]; omega) NN 0 (by omega) (by rw [List.length_map, hcs]; simp [NN]; omega)
  simp only [List.range_zero, List.map_nil, List.replicate_zero, List.append_nil, List.length_map, hlen] at e5
  have e6 : H ++ List.replicate t.size (MO.lst []) ++ [.lst []] = bH H (List.replicate t.size []) [] := by simp [bH]
  obtain ⟨o7, el⟩ := bn_loop (H := H) hci (rcs_ok t) (by rw [hcs]; omega) (A' := (t.nodes 0 none 1).map (fun nd => nd.es.chs (nd.b + 1))) (dp' := (t.nodes 0 none 1).map (·.d)) (fun d hd => by
    obtain ⟨nd, h1, rfl⟩ := List.mem_map.mp hd
    exact (nodes_ok t 0 none 1 (by omega) ht nd h1).d2) (x0 := some P.u) (x2 := some (.obj si)) (x3 := some (.int most)) (x4 := some (tabU ((t.nodes 0 none 1).map (fun nd => nd.es.evs)))) (x8 := none) (x9 := none) (x10 := none) (x11 := none) t.size 0 (List.replicate t.size []) [] none (by rw [hcs]; omega) rfl (by rw [hcs]; simp) (fun l hl => by simp [List.mem_replicate] at hl; simp [hl.2]) (by rw [List.drop_zero]; exact bn)
  rw [hcs] at el
  -- the order
  generalize hG0 : bH H ((t.nodes 0 none 1).map (fun nd => nd.es.chs (nd.b + 1))) ((t.nodes 0 none 1).map (·.d)) = G0 at el
  have ok0 : Okh G0 := by rw [← hG0]; exact bH_ok ok
  have hl0 : G0.length = H.length + t.size + 1 := by rw [← hG0, bH_len]; simp [hlen]
  have ok1 : ∀ x : List (Nat × Str), Okh (G0 ++ [.lst (x.map stepU)]) := fun x => ok0.app (belows_pure _ (steps_pure x))
  have hoG : ∀ x, ordG (G0 ++ [.lst []]) G0.length x = G0 ++ [.lst (x.map stepU)] := fun x => by unfold ordG; rw [set_new]
  have hbn : ∀ (i : Nat) (nd : Nd) (x : List U), (t.nodes 0 none 1)[i]? = some nd → (G0 ++ [.lst x])[H.length + i]? = some (.lst ((nd.es.chs (nd.b + 1)).map natU)) := fun i nd x hi => by
    have := (List.getElem?_eq_some_iff.mp hi).1
    rw [List.getElem?_append_left (by omega), ← hG0]
    exact bH_A (by simp [hi])
  have ord := order_tree (E := (t.nodes 0 none 1).map (fun nd => nd.es.evs)) (G := G0 ++ [.lst []]) (base := H.length) (L := t.size) (fo := G0.length) (ok1 []) (by simp) t 0 none 1 (k + 1) [] (by have := ht.ht; omega) (fun nd hn => by
    obtain ⟨i, hi⟩ := List.mem_iff_getElem?.mp hn
    have hb := node_b t 0 none 1 i nd hi
    have hil := (List.getElem?_eq_some_iff.mp hi).1
    rw [Nat.zero_add] at hb
    exact ⟨by rw [hb]; simp [hi], by rw [hb, ← hb]; rw [show nd.b = i from hb]; rw [← hb]; rw [hb]; have := hbn i nd [] hi; rw [hb] at this; exact this, by omega, by omega⟩) (by simp; omega)
  rw [hoG, hoG, List.nil_append] at ord
  have hold : HoldH P t most H (G0 ++ [.lst ((t.lin 0).map stepU)]) ci si := by
    refine ⟨ok1 _, ?_, ?_, fun i nd hi => hbn i nd _ hi, ?_⟩
    · have := (List.getElem?_eq_some_iff.mp hci).1
      rw [List.getElem?_append_left (by omega), ← hG0]; exact bH_H hci
    · have := (List.getElem?_eq_some_iff.mp hsi).1
      rw [List.getElem?_append_left (by omega), ← hG0]; exact bH_H hsi
    · rw [List.getElem?_append_left (by omega), ← hG0]
      have := bH_d (H := H) (A := (t.nodes 0 none 1).map (fun nd => nd.es.chs (nd.b + 1))) (dp := (t.nodes 0 none 1).map (·.d))
      rw [List.length_map, hlen] at this
      exact this
  obtain ⟨o7', o9', eh⟩ := hold_loop hP (k := k + 1) (by omega) hold ht hl (x8 := some (.obj G0.length)) (x10 := none) (x11 := none) t.size 0 o7 none (by omega)
  have hne : sNe (.obj G0.length) (.obj si) (G0 ++ [.lst ((t.lin 0).map stepU)]) = .ok (.bl false) (G0 ++ [.lst ((t.lin 0).map stepU)]) := by
    unfold sNe
    rw [eqB_same (a := .seq .lst ((t.lin 0).map stepU)) (by simp [res, steps_pure]) (by simp [res, hold.si, steps_pure]) (steps_cmp fun s hs => (hlin s hs).1)]
    rfl
  have hX : ∃ X, G0 = H ++ X := ⟨_, by rw [← hG0]; unfold bH; rw [List.append_assoc]⟩
  obtain ⟨X, hX⟩ := hX
  have cih : ∀ x, (G0 ++ [MO.lst x])[ci]? = some (.lst (((t.nodes 0 none 1).map (·.rc)).map Rc.u)) := fun x => by
    have := (List.getElem?_eq_some_iff.mp hci).1
    rw [List.getElem?_append_left (by omega), ← hG0]; exact bH_H hci
  have er : ∀ ls, forL (itRange (t.size : Int)) (tgN 7) ls NN 0 = fun l h => loopF (bodyT (tgN 7) ls) ((List.range' 0 t.size).map fun (j : Nat) => U.int j) l h := fun ls => by
    funext l h
    rw [forL_of hit_range NN 0 l h (by simp) (by simp [NN]; omega), List.drop_zero, List.range_eq_range']
  have ewE : walkE (sem (k + 1)) [some P.u, some (.obj ci), some (.obj si), some (.int most), some (tabU ((t.nodes 0 none 1).map (fun nd => nd.es.evs))), some (.seq .lst (obs H.length t.size)), some (.obj (H.length + t.size)), o7, none, none, none, none] G0 = .rt (.bl true) (G0 ++ [.lst ((t.lin 0).map stepU)]) := by
    have cl : (((t.nodes 0 none 1).map (·.rc)).map Rc.u).length = t.size := by simp [hlen]
    generalize ((t.nodes 0 none 1).map (·.rc)).map Rc.u = CU at cih cl
    have er' := er (holdB (sem (k + 1)))
    unfold walkE
    generalize holdB (sem (k + 1)) = HB at eh er'
    simp only [show ((0 : Nat) : Int) = 0 from rfl, List.map_nil] at ord
    generalize tabU ((t.nodes 0 none 1).map (fun nd => nd.es.evs)) = TU at ord eh
    have hir := iRange_len (v := 1) (ci := ci) cl (by omega)
    simp [-iRange_ap, ord, hne, cih, hir]
    rw [er']
    simp [eh]
  have cl : (((t.nodes 0 none 1).map (·.rc)).map Rc.u).length = t.size := by simp [hlen]
  have e : runB 12 (m_law_walked (sem (k + 1))) [P.u, .obj ci, .obj si, .int most] H = .ok (.bl true) (G0 ++ [.lst ((t.lin 0).map stepU)]) := by
    rw [m_walked_is]
    have er' := er bnB
    generalize bnB = BB at el er'
    generalize walkE (sem (k + 1)) = WE at ewE
    have cih2 : (bH H (List.replicate t.size []) [])[ci]? = some (.lst (((t.nodes 0 none 1).map (·.rc)).map Rc.u)) := bH_H hci
    generalize ((t.nodes 0 none 1).map (·.rc)).map Rc.u = CU at cih cl hci cih2
    have hnt : sIsN (tabU ((t.nodes 0 none 1).map (fun nd => nd.es.evs))) .non H = .ok (.bl false) H := rfl
    generalize tabU ((t.nodes 0 none 1).map (fun nd => nd.es.evs)) = TU at ewE hnt e4 e5 el
    have hobs : (List.range t.size).map (fun j => U.obj (H.length + j)) = obs H.length t.size := rfl
    rw [hobs] at e5
    have hir := iRange_len (v := 1) (ci := ci) cl (by omega)
    simp [-iRange_ap, e4, hnt, asSeq, hci, wipeU, e5, e6, cih2, hir]
    rw [er']
    simp [el, ewE]
  show Wk.runC 12 (m_law_walked (sem (k + 1))) _ _ = _
  rw [runC_ap, e, hX, List.append_assoc]
  exact clean_app rfl ok rfl
end Wk
set_option maxRecDepth 100000
set_option maxHeartbeats 400000
/-! P26: what is told is of the right shapes. -/
namespace Wk
open PySem PySem.Spec PyProof.Rows L2

theorem mapM_ints : ∀ xs : List Int, (xs.map U.int).mapM intU = some xs
  | [] => rfl
  | x :: xs => by
    rw [List.map_cons, List.mapM_cons, mapM_ints xs]
    rfl
theorem min_ints {h : AH} {xs : List Int} (hne : xs ≠ []) : bMin [.seq .lst (xs.map U.int)] h = .ok (.int (leastI xs)) h := by
  unfold bMin
  simp only [asL, Option.bind_some, mapM_ints, if_neg hne]
theorem comp_sizes {k : Nat} {h : AH} (ok : Okh h) {x0 x1 x2 x3 : Option U} : ∀ (ps : List (Str × Ty)) (vs : List Va) (acc : List U), HasVs vs (ps.map (·.2)) → acc.length + ps.length ≤ 900 →
    ∃ is : List Int, is.length = ps.length ∧ (∀ i ∈ is, 0 ≤ i) ∧ compF (fun _ h => .ok true h) (fun u h => (eCall (arity 2 (sem (k + 2) .law_size)) (aCons (eOp sIx (eVar 4) (eC (.int 1))) (aCons (eVar 5) (aNil)))) (match u with | .seq .tup [a, b] => [x0, x1, x2, x3, some a, some b] | _ => []) h) (zipU (ps.map prmU) (vs.map Va.u)) acc h = .ok (acc ++ is.map U.int) h
  | [], vs, acc, hv, ha => by
    refine ⟨[], rfl, fun i hi => (by simp at hi), ?_⟩
    cases hv
    simp [zipU, compF]
  | (x, t) :: ps, vs, acc, hv, ha => by
    cases hv with
    | @cons v _ vs _ h1 h2 =>
      simp only [List.length_cons] at ha
      obtain ⟨i, hi, es⟩ := f_lsize (k := k) ok h1
      obtain ⟨is, e1, e2, e3⟩ := comp_sizes (k := k) ok (x0 := x0) (x1 := x1) (x2 := x2) (x3 := x3) ps vs (acc ++ [.int i]) h2 (by simp; omega)
      refine ⟨i :: is, by simp [e1], fun j hj => ?_, ?_⟩
      · rcases List.mem_cons.mp hj with rfl | hj
        · exact hi
        · exact e2 j hj
      · simp only [List.map_cons, zipU, compF, Out.bind_ok, if_true, prmU]
        have e4 : (eCall (arity 2 (sem (k + 2) .law_size)) (aCons (eOp sIx (eVar 4) (eC (.int 1))) (aCons (eVar 5) (aNil)))) [x0, x1, x2, x3, some (.seq .tup [.str x, t.u]), some v.u] h = .ok (.int i) h := by simp [es]
        simp only [e4, Out.bind_ok]
        rw [if_pos (by omega), e3]
        simp
/-- a record as it should be -/
structure RcOk (P : Pg) (k : Nat) (c : Rc) : Prop where
  sig : ∃ ts s, P.sig c.name = some (ts, s) ∧ HasVs c.args ts ∧ ∀ v, c.res = some v → HasV v s
  up : 0 < k → ∃ u, c.up = some u ∧ u < k
def ctU (S : SemT) : MT := (tAndM (tst (eOp sGt (eVar 1) (eC (.int 0)))) (tOrM (tNotM (tst (eCall (arity 1 (S .law_whole)) (aCons (eOp sIx (eVar 2) (eC (.int 2))) (aNil))))) (tOrM (tst (eOp sLt (eOp sIx (eVar 2) (eC (.int 2))) (eC (.int 0)))) (tst (eOp sGe (eOp sIx (eVar 2) (eC (.int 2))) (eVar 1))))))
def ctR (S : SemT) : MS := (sSeq (sIf (tNotM (tst (eOp sIx (eVar 2) (eC (.int 3))))) (sRet (eOp sIsN (eOp sIx (eVar 2) (eC (.int 4))) (eC .non))) (sNil)) (sRet (eOp sGe (eCall (arity 2 (S .law_size)) (aCons (eOp sIx (eOp sIx (eVar 3) (eC (.int 2))) (eC (.int 0))) (aCons (eOp sIx (eVar 2) (eC (.int 4))) (aNil)))) (eC (.int 0)))))
theorem m_call_told_is (S : SemT) : m_law_call_told S = sSeq (sIf (tOrM (tNotM (tst (eCall (bIsi .tuple) (aCons (eVar 2) aNil)))) (tOrM (tst (eOp sNe (eCall bLen (aCons (eVar 2) (aNil))) (eC (.int 5)))) (tNotM (tst (eCall (bIsi .bool) (aCons (eOp sIx (eVar 2) (eC (.int 3))) aNil)))))) (sRet (eC (.bl false))) (sNil)) (sSeq (sSet 3 (eCall (arity 2 (S .law_one)) (aCons (eVar 0) (aCons (eOp sIx (eVar 2) (eC (.int 0))) (aNil))))) (sSeq (sIf (tOrM (tst (eOp sIsN (eVar 3) (eC .non))) (tOrM (tNotM (tst (eCall (bIsi .tuple) (aCons (eOp sIx (eVar 2) (eC (.int 1))) aNil)))) (tst (eOp sNe (eCall bLen (aCons (eOp sIx (eVar 2) (eC (.int 1))) (aNil))) (eCall bLen (aCons (eOp sIx (eVar 3) (eC (.int 1))) (aNil))))))) (sRet (eC (.bl false))) (sNil)) (sSeq (sIf (tst (eOp sLt (eCall bMin (aCons (eLc NN (iZip2 (eOp sIx (eVar 3) (eC (.int 1))) (eOp sIx (eVar 2) (eC (.int 1)))) (tgT [4, 5]) [4, 5] (cYes) (eCall (arity 2 (S .law_size)) (aCons (eOp sIx (eVar 4) (eC (.int 1))) (aCons (eVar 5) (aNil))))) (aNil))) (eC (.int 0)))) (sRet (eC (.bl false))) (sNil)) (sSeq (sIf (ctU S) (sRet (eC (.bl false))) (sNil)) (ctR S))))) := rfl
theorem f_call_told {P : Pg} (hP : PgOk P) {k n : Nat} {H : AH} (ok : Okh H) {c : Rc} (hc : RcOk P n c) : sem (k + 3) .law_call_told [P.u, .int n, c.u] H = .ok (.bl true) H := by
  obtain ⟨⟨ts, s, hsig, hv, hres⟩, hup⟩ := hc
  obtain ⟨dd, hd, hts, hgs⟩ := sig_at hsig
  obtain ⟨fo, hname⟩ := hP.at_ok hd
  have hstr : PyData.strOk c.name = true := hname ▸ fo.str
  have hlen : dd.params.length = c.args.length := by rw [hv.len, ← hts]; simp
  have hfew := fo.few
  have efn := f_law_one (k := k + 1) (h := H) (f := c.name) hP ok hstr
  rw [hd] at efn
  simp only at efn
  have hv' : HasVs c.args (dd.params.map (·.2)) := by rw [hts]; exact hv
  have hun : dd.u = .seq .tup [.str dd.name, .seq .tup (dd.params.map prmU), .seq .tup [dd.gives.u, .seq .tup (dd.sz.map U.int)], dd.body.u] := rfl
  obtain ⟨is, i1, i2, i3⟩ := comp_sizes (k := k) ok (x0 := some P.u) (x1 := some (.int n)) (x2 := some c.u) (x3 := some dd.u) dd.params c.args [] hv' (by simp; omega)
  have hne : is ≠ [] := fun e => by rw [e] at i1; exact fo.some (List.length_eq_zero_iff.mp i1.symm)
  have hmin : 0 ≤ leastI is := i2 _ (leastI_mem hne)
  have ecomp := lcL_of (it := itZip (.seq .tup (dd.params.map prmU)) (.seq .tup (c.args.map Va.u))) (T := tgT [4, 5]) (ct := cYes) (me := eCall (arity 2 (sem (k + 2) .law_size)) (aCons (eOp sIx (eVar 4) (eC (.int 1))) (aCons (eVar 5) (aNil)))) (ls0 := [some P.u, some (.int n), some c.u, some dd.u, none, none]) (us := zipU (dd.params.map prmU) (c.args.map Va.u))
    (L := fun u => match u with | .seq .tup [a, b] => [some P.u, some (.int n), some c.u, some dd.u, some a, some b] | _ => []) (hit_zip (by simpa using hlen)) (fun u hu h => by
      have : ∀ {as bs : List U}, u ∈ zipU as bs → ∃ a b, u = .seq .tup [a, b] := fun {as} => by
        induction as with
        | nil => intro bs hm; simp [zipU] at hm
        | cons a as ih =>
          intro bs hm
          cases bs with
          | nil => simp [zipU] at hm
          | cons b bs =>
            simp only [zipU, List.mem_cons] at hm
            rcases hm with rfl | hm
            · exact ⟨a, b, rfl⟩
            · exact ih hm
      obtain ⟨a, b, rfl⟩ := this hu
      rfl) NN 0 [] H (by simp) (by rw [zipU_len (by simpa using hlen)]; simp [NN]; omega)
  simp only [cYes_ap] at ecomp
  rw [List.drop_zero, i3, List.nil_append] at ecomp
  have hcu : c.u = .seq .tup [.str c.name, .seq .tup (c.args.map Va.u), opU c.up, .bl c.res.isSome, valU c.res] := rfl
  have hpl : (dd.params.length : Int) = (c.args.length : Int) := by omega
  have hml : ¬ leastI is < 0 := by omega
  have e : runB 6 (m_law_call_told (sem (k + 2))) [P.u, .int n, c.u] H = .ok (.bl true) H := by
    have eup : ctU (sem (k + 2)) [some P.u, some (.int n), some c.u, some dd.u, none, none] H = .ok false H := by
      unfold ctU
      rw [hcu]
      by_cases hn : 0 < n
      · obtain ⟨u, hu, hul⟩ := hup hn
        have h2 : ¬ (n : Int) ≤ (u : Int) := by omega
        have h3 : ¬ (u : Int) < 0 := by omega
        simp [hu, opU, f_lwhole_int ok, h2, h3]
      · simp [hn]
    have eres : ctR (sem (k + 2)) [some P.u, some (.int n), some c.u, some dd.u, none, none] H = .rt (.bl true) H := by
      unfold ctR
      rw [hcu, hun]
      cases hr : c.res with
      | none => simp [valU, sIsN, isNon]
      | some v =>
        obtain ⟨i, hi, es⟩ := f_lsize (k := k) ok (hres v hr)
        rw [← hgs] at es
        have hi' : ¬ i < 0 := by omega
        simp [valU, es, hi]
    have hmn := min_ints (h := H) hne
    rw [m_call_told_is]
    generalize ctU (sem (k + 2)) = TU at eup
    generalize ctR (sem (k + 2)) = RE at eres
    rw [hcu] at eup eres ecomp ⊢
    rw [hun] at eup eres ecomp efn
    simp [bIsi, isA, bLen, asSeq, sNe_int, efn, sIsN, isNon, hlen, wipeU, ecomp, hmn, hml, eup, eres]
  show Wk.runC 6 (m_law_call_told (sem (k + 2))) _ _ = _
  rw [runC_ap, e]
  exact clean_same rfl ok rfl
theorem forL_const {it : Itm} {T : Tg} {b : MS} {us : List U} {h : AH} {R : Loc → Prop} (hit : ∀ i, i ≤ us.length → it i h = some us[i]?) (hb : ∀ u ∈ us, ∀ ls, R ls → ∃ ls', bodyT T b u ls h = .nx ls' h ∧ R ls') :
    ∀ (n i : Nat) (ls : Loc), R ls → i ≤ us.length → us.length < n + i → ∃ ls', forL it T b n i ls h = .nx ls' h ∧ R ls'
  | 0, i, ls, r, h1, h2 => by omega
  | n + 1, i, ls, r, h1, h2 => by
    unfold forL
    rw [hit i h1]
    by_cases hi : i < us.length
    · rw [List.getElem?_eq_getElem hi]
      obtain ⟨ls', e, r'⟩ := hb _ (List.getElem_mem hi) ls r
      unfold bodyT at e
      cases ht : T us[i] h ls with
      | none => rw [ht] at e; cases e
      | some l =>
        rw [ht] at e
        simp only at e
        simp only [ht, e]
        exact forL_const hit hb n (i + 1) ls' r' (by omega) (by omega)
    · rw [List.getElem?_eq_none (by omega)]
      exact ⟨ls, rfl, r⟩
def toldA (S : SemT) : MS := (sIf (tNotM (tst (eCall (arity 3 (S .law_call_told)) (aCons (eVar 0) (aCons (eVar 3) (aCons (eOp sIx (eOp sIx (eVar 1) (eC (.int 2))) (eVar 3)) (aNil))))))) (sRet (eC (.bl false))) (sNil))
def toldB (S : SemT) : MS := (sSeq (sIf (tOrM (tNotM (tst (eCall (bIsi .tuple) (aCons (eVar 4) aNil)))) (tOrM (tst (eOp sNe (eCall bLen (aCons (eVar 4) (aNil))) (eC (.int 2)))) (tNotM (tst (eCall (bIsi .str) (aCons (eOp sIx (eVar 4) (eC (.int 1))) aNil)))))) (sRet (eC (.bl false))) (sNil)) (sIf (tOrM (tNotM (tst (eCall (arity 1 (S .law_whole)) (aCons (eOp sIx (eVar 4) (eC (.int 0))) (aNil))))) (tOrM (tst (eOp sLt (eOp sIx (eVar 4) (eC (.int 0))) (eC (.int 0)))) (tst (eOp sGe (eOp sIx (eVar 4) (eC (.int 0))) (eCall bLen (aCons (eOp sIx (eVar 1) (eC (.int 2))) (aNil))))))) (sRet (eC (.bl false))) (sNil)))
theorem m_told_is (S : SemT) : m_law_told S = sSeq (sIf (tOrM (tNotM (tst (eCall (bIsi .tuple) (aCons (eVar 1) aNil)))) (tOrM (tst (eOp sNe (eCall bLen (aCons (eVar 1) (aNil))) (eC (.int 4)))) (tNotM (tst (eCall (bIsi .bool) (aCons (eOp sIx (eVar 1) (eC (.int 0))) aNil)))))) (sRet (eC (.bl false))) (sNil)) (sSeq (sIf (tOrM (tNotM (tst (eCall (bIsi .list) (aCons (eOp sIx (eVar 1) (eC (.int 2))) aNil)))) (tOrM (tNotM (tst (eCall (bIsi .list) (aCons (eOp sIx (eVar 1) (eC (.int 3))) aNil)))) (tst (eOp sGt (eCall bLen (aCons (eOp sIx (eVar 1) (eC (.int 3))) (aNil))) (eVar 2))))) (sRet (eC (.bl false))) (sNil)) (sSeq (sFor NN (iRange (eCall bLen (aCons (eOp sIx (eVar 1) (eC (.int 2))) (aNil)))) (tgN 3) (toldA S)) (sSeq (sFor NN (iSeq (eOp sIx (eVar 1) (eC (.int 3)))) (tgN 4) (toldB S)) (sRet (eC (.bl true)))))) := rfl
theorem f_told {P : Pg} (hP : PgOk P) {k most : Nat} {H : AH} (ok : Okh H) {b : Bool} {x : U} {bi mi : Nat} {cs : List Rc} {ss : List (Nat × Str)} (hb : H[bi]? = some (.lst (cs.map Rc.u))) (hm : H[mi]? = some (.lst (ss.map stepU))) (hcs : cs.length ≤ 900) (hss : ss.length ≤ 900) (hmost : ss.length ≤ most) (hc : ∀ i c, cs[i]? = some c → RcOk P i c) (hs : ∀ s ∈ ss, s.1 < cs.length) :
    sem (k + 4) .law_told [P.u, .seq .tup [.bl b, x, .obj bi, .obj mi], .int most] H = .ok (.bl true) H := by
  obtain ⟨l1, e1, o3, r1⟩ := forL_const (it := itRange (cs.length : Int)) (T := tgN 3) (b := toldA (sem (k + 3))) (us := (List.range cs.length).map fun (i : Nat) => U.int (i : Int)) (h := H)
    (R := fun ls => ∃ o3, ls = [some P.u, some (.seq .tup [.bl b, x, .obj bi, .obj mi]), some (.int most), o3, none]) (fun i hi => hit_range i H hi) (fun u hu ls hr => by
      obtain ⟨i, hi, rfl⟩ := List.mem_map.mp hu
      obtain ⟨o3, rfl⟩ := hr
      have hil : i < cs.length := List.mem_range.mp hi
      obtain ⟨c, hcg⟩ : ∃ c, cs[i]? = some c := ⟨_, List.getElem?_eq_getElem hil⟩
      have hcu : atI (cs.map Rc.u) (i : Int) = some c.u := atI_ofNat (by rw [List.getElem?_map, hcg]; rfl)
      have et := f_call_told (k := k) hP ok (hc i c hcg)
      refine ⟨_, ?_, some (.int i), rfl⟩
      simp [bodyT, tgN, toldA, asSeq, hb, hcu, et]) NN 0 [some P.u, some (.seq .tup [.bl b, x, .obj bi, .obj mi]), some (.int most), none, none] ⟨none, rfl⟩ (by simp) (by simp [NN]; omega)
  subst r1
  obtain ⟨l2, e2, r2⟩ := forL_const (it := itSeq (.obj mi)) (T := tgN 4) (b := toldB (sem (k + 3))) (us := ss.map stepU) (h := H)
    (R := fun ls => ∃ o4, ls = [some P.u, some (.seq .tup [.bl b, x, .obj bi, .obj mi]), some (.int most), o3, o4]) (fun i hi => by simp [itSeq, asSeq, hm]) (fun u hu ls hr => by
      obtain ⟨s, hsm, rfl⟩ := List.mem_map.mp hu
      obtain ⟨o4, rfl⟩ := hr
      have hil := hs s hsm
      have h2 : ¬ (cs.length : Int) ≤ (s.1 : Int) := by omega
      have h3 : ¬ (s.1 : Int) < 0 := by omega
      refine ⟨_, ?_, some (stepU s), rfl⟩
      simp [bodyT, tgN, toldB, bIsi, isA, stepU, bLen, asSeq, sNe_int, f_lwhole_int ok, hb, h2, h3]) NN 0 _ ⟨none, rfl⟩ (by simp) (by simp [NN]; omega)
  have e : runB 5 (m_law_told (sem (k + 3))) [P.u, .seq .tup [.bl b, x, .obj bi, .obj mi], .int most] H = .ok (.bl true) H := by
    rw [m_told_is]
    generalize toldA (sem (k + 3)) = TA at e1
    generalize toldB (sem (k + 3)) = TB at e2
    have hir : ∀ ls : Loc, ls[1]? = some (some (.seq .tup [.bl b, x, .obj bi, .obj mi])) → iRange (eCall bLen (aCons (eOp sIx (eVar 1) (eC (.int 2))) (aNil))) ls H = .ok (itRange (cs.length : Int)) H := fun ls hl => by
      refine y3 (by omega) ?_
      simp [hl, bLen, asSeq, hb]
    have hml : ¬ (most : Int) < (ss.length : Int) := by omega
    simp [-iRange_ap, bIsi, isA, hb, hm, bLen, asSeq, sNe_int, hml, hir, e1, e2]
  show Wk.runC 5 (m_law_told (sem (k + 3))) _ _ = _
  rw [runC_ap, e]
  exact clean_same rfl ok rfl
end Wk
set_option maxRecDepth 100000
set_option maxHeartbeats 400000
/-! P27: the drawn values. -/
namespace Wk
open PySem PySem.Spec PyProof.Rows L2

section
variable {h : AH}
theorem sMod_pos {i j : Int} (hj : 0 < j) : sMod (.int i) (.int j) h = .ok (.int (i % j)) h := by
  show (if cMod i j then _ else _) = _
  rw [if_pos (by simp [cMod, hj])]
theorem sDiv_pos {i j : Int} (hj : 0 < j) (h2 : j < 1073741824) : sDiv (.int i) (.int j) h = .ok (.int (i / j)) h := by
  show (if cDiv i j then _ else _) = _
  rw [if_pos (by simp [cDiv, hj, h2])]
theorem in64 {i : Int} (h1 : -100000 ≤ i) (h2 : i ≤ 100000) : -(2 ^ 64) < i ∧ i < 2 ^ 64 := ⟨Int.lt_of_lt_of_le (b := -100000) (by decide) h1, Int.lt_of_le_of_lt (b := 100000) h2 (by decide)⟩
theorem sMul_r {i j : Int} (h1 : -100000 ≤ j) (h2 : j ≤ 100000) : sMul (.int i) (.int j) h = .ok (.int (i * j)) h := by
  show (if cMul i j then _ else _) = _
  have : cMul i j = true := by
    unfold cMul
    rw [Bool.or_eq_true]
    exact .inr (decide_eq_true (in64 h1 h2))
  rw [if_pos this]
theorem sMul_l {i j : Int} (h1 : -100000 ≤ i) (h2 : i ≤ 100000) : sMul (.int i) (.int j) h = .ok (.int (i * j)) h := by
  show (if cMul i j then _ else _) = _
  have : cMul i j = true := by
    unfold cMul
    rw [Bool.or_eq_true]
    exact .inl (decide_eq_true (in64 h1 h2))
  rw [if_pos this]
theorem cPow10 {j : Int} (h1 : 0 ≤ j) (h2 : j ≤ 1000000) : cPow 10 j = true := by
  unfold cPow
  exact decide_eq_true ⟨h1, h2, by decide⟩
theorem sPow10 {j : Int} (h1 : 0 ≤ j) (h2 : j ≤ 1000000) : sPow (.int 10) (.int j) h = .ok (.int (10 ^ j.toNat)) h := by
  show (if cPow 10 j then _ else _) = _
  rw [if_pos (cPow10 h1 h2)]
theorem sSub_int {i j : Int} : sSub (.int i) (.int j) h = .ok (.int (i - j)) h := rfl
end
def M60 : Int := 10 ^ 60
def numI (c : Int) : Int := c % (2 * M60 - 1) - M60 + 1
theorem f_number {k : Nat} {c : Int} {h : AH} (ok : Okh h) : sem (k + 1) .law_number [.int c] h = .ok (.int (numI c)) h := by
  have e0 : sem (k + 1) .law_number [.int c] h = Wk.runC 1 (m_law_number (sem k)) [.int c] h := rfl
  rw [e0]
  have e : runB 1 (m_law_number (sem k)) [.int c] h = .ok (.int (numI c)) h := by
    have e1 : ∀ h : AH, sPow (.int 10) (.int 60) h = .ok (.int M60) h := fun h => sPow10 (by decide) (by decide)
    have e2 : ∀ h : AH, sMul (.int 2) (.int M60) h = .ok (.int (2 * M60)) h := fun h => sMul_l (by decide) (by decide)
    have e3 : ∀ h : AH, sMod (.int c) (.int (2 * M60 - 1)) h = .ok (.int (c % (2 * M60 - 1))) h := fun h => sMod_pos (by decide)
    have e4 : ∀ (a b : Int) (h : AH), sSub (.int a) (.int b) h = .ok (.int (a - b)) h := fun _ _ _ => rfl
    unfold m_law_number
    simp only [runB_ap, sRet_ap, eOp_ap, eC_ap, eVar_ap, Out.bind_ok, e1, e2, e3, e4, sAdd_int, List.map_cons, List.map_nil, List.cons_append, List.getElem?_cons_zero]
    rfl
  rw [runC_ap, e]
  exact clean_same rfl ok rfl
theorem f_cell_at {k : Nat} {ns : List Int} {i : Nat} {h : AH} (ok : Okh h) : sem (k + 1) .law_cell_at [.seq .ro (ns.map U.int), .int i] h = .ok (.int (ns.getD i 0)) h := by
  show Wk.runC 2 (m_law_cell_at (sem k)) _ _ = _
  have e : runB 2 (m_law_cell_at (sem k)) [.seq .ro (ns.map U.int), .int i] h = .ok (.int (ns.getD i 0)) h := by
    by_cases hi : i < ns.length
    · have h1 : (i : Int) < (ns.length : Int) := by omega
      have h2 : atI (ns.map U.int) (i : Int) = some (.int (ns[i])) := atI_ofNat (by simp [hi])
      simp [m_law_cell_at, bLen, asSeq, h2, hi]
    · have h1 : ¬ (i : Int) < (ns.length : Int) := by omega
      simp [m_law_cell_at, bLen, asSeq, hi]
  rw [runC_ap, e]
  exact clean_same rfl ok rfl
theorem mod3 (c : Int) : c % 3 = 0 ∨ c % 3 = 1 ∨ c % 3 = 2 := by omega
def treeB (S : SemT) : MS := (sSeq (sSet 3 (eCall (arity 1 (S .law_number)) (aCons (eOp sDiv (eVar 2) (eC (.int 3))) (aNil)))) (sSet 1 (eOp sIx (eLst (aCons (eTup (aCons (eVar 1) (aCons (eVar 3) (aCons (eC .non) (aNil))))) (aCons (eTup (aCons (eC .non) (aCons (eVar 3) (aCons (eVar 1) (aNil))))) (aCons (eTup (aCons (eVar 1) (aCons (eVar 3) (aCons (eTup (aCons (eC .non) (aCons (eVar 3) (aCons (eC .non) (aNil))))) (aNil))))) (aNil))))) (eOp sMod (eVar 2) (eC (.int 3))))))
theorem tree_loop {k : Nat} {h : AH} (ok : Okh h) {z : Option U} : ∀ (cs : List Int) (t : Tr) (o2 o3 : Option U), t.size + 2 * cs.length ≤ 40 → ∃ (t' : Tr) (o2' o3' : Option U), t'.size ≤ 40 ∧ loopF (bodyT (tgN 2) (treeB (sem (k + 1)))) (cs.map U.int) [z, some t.u, o2, o3] h = .nx [z, some t'.u, o2', o3'] h
  | [], t, o2, o3, hs => ⟨t, o2, o3, by simpa using hs, rfl⟩
  | c :: cs, t, o2, o3, hs => by
    simp only [List.length_cons] at hs
    have key : ∃ t1 : Tr, t1.size ≤ t.size + 2 ∧ bodyT (tgN 2) (treeB (sem (k + 1))) (.int c) [z, some t.u, o2, o3] h = .nx [z, some t1.u, some (.int c), some (.int (numI (c / 3)))] h := by
      have e1 : ∀ h : AH, sDiv (.int c) (.int 3) h = .ok (.int (c / 3)) h := fun h => sDiv_pos (by decide) (by decide)
      have e2 : ∀ h : AH, sMod (.int c) (.int 3) h = .ok (.int (c % 3)) h := fun h => sMod_pos (by decide)
      rcases mod3 c with h3 | h3 | h3
      · exact ⟨.node t (numI (c / 3)) .leaf, by simp [Tr.size], by simp [bodyT, tgN, treeB, -sIntC_int, e1, e2, h3, f_number ok, Tr.u]⟩
      · exact ⟨.node .leaf (numI (c / 3)) t, by simp [Tr.size], by simp [bodyT, tgN, treeB, -sIntC_int, e1, e2, h3, f_number ok, Tr.u]⟩
      · exact ⟨.node t (numI (c / 3)) (.node .leaf (numI (c / 3)) .leaf), by simp [Tr.size], by simp [bodyT, tgN, treeB, -sIntC_int, e1, e2, h3, f_number ok, Tr.u]⟩
    obtain ⟨t1, h1, e1⟩ := key
    obtain ⟨t', o2', o3', h2, e2⟩ := tree_loop (k := k) ok (z := z) cs t1 (some (.int c)) (some (.int (numI (c / 3)))) (by omega)
    refine ⟨t', o2', o3', h2, ?_⟩
    rw [List.map_cons, loopF, e1]
    exact e2
theorem sSl_take {k : SK} {us : List U} {n : Nat} {h : AH} (hk : k ≠ .tup) : sSl (.seq k us) none (some (n : Int)) h = .ok (.seq .lst (us.take n)) h := by
  have h1 : HT.sIx us.length 0 none = 0 := HT.sIx_none _ _
  have h2 : HT.sIx us.length us.length (some (n : Int)) = min n us.length := by rw [HT.sIx_nat]
  have : cutU us none (some (n : Int)) = us.take n := by
    unfold cutU
    rw [h1, h2, Nat.sub_zero, List.drop_zero]
    rw [List.take_eq_take_iff]
    omega
  cases k with
  | tup => exact absurd rfl hk
  | lst => simp only [sSl, asL, this]
  | ro => simp only [sSl, asL, this]
theorem f_tree {k : Nat} {cs : List Int} {h : AH} (ok : Okh h) (hc : cs.length ≤ 900) : ∃ t : Tr, t.size ≤ 40 ∧ sem (k + 2) .law_tree [.seq .lst (cs.map U.int)] h = .ok t.u h := by
  obtain ⟨t, o2, o3, ht, e1⟩ := tree_loop (k := k) ok (z := some (.seq .lst (cs.map U.int))) (cs.take 20) .leaf none none (by simp [Tr.size]; omega)
  refine ⟨t, ht, ?_⟩
  show Wk.runC 4 (m_law_tree (sem (k + 1))) _ _ = _
  have e : runB 4 (m_law_tree (sem (k + 1))) [.seq .lst (cs.map U.int)] h = .ok t.u h := by
    have e2 : sSl (.seq .lst (cs.map U.int)) none (some 20) h = .ok (.seq .lst ((cs.take 20).map U.int)) h := by
      have := sSl_take (k := .lst) (us := cs.map U.int) (n := 20) (h := h) (by decide)
      rw [List.map_take]
      exact this
    have e3 := forL_of (b := treeB (sem (k + 1))) (T := tgN 2) (hit_seq (k := .lst) (us := (cs.take 20).map U.int)) NN 0 [some (.seq .lst (cs.map U.int)), some .non, none, none] h (by simp) (by simp [NN]; omega)
    rw [List.drop_zero] at e3
    simp only [Tr.u] at e1
    rw [e1] at e3
    unfold treeB at e3
    simp [m_law_tree, e2, asSeq]
    simp only [List.map_take] at e3
    rw [e3]
    simp
  rw [runC_ap, e]
  exact clean_same rfl ok (below_pure _ t.pure)
theorem pick_map {α β : Type} {f : α → β} {xs : List α} {lo hi st : Option Int} : pickL (xs.map f) lo hi st = (pickL xs lo hi st).map f := by
  unfold pickL
  rw [List.length_map]
  generalize sliceRange (sliceBounds lo hi st xs.length).1 (sliceBounds lo hi st xs.length).2.1 (sliceBounds lo hi st xs.length).2.2 = js
  induction js with
  | nil => rfl
  | cons j js ih =>
    simp only [List.filterMap_cons, List.getElem?_map]
    cases xs[j]? with
    | none => simpa using ih
    | some x => simpa using ih
theorem sum_ints {h : AH} {xs : List Int} : bSum [.seq .lst (xs.map U.int)] h = .ok (.int xs.sum) h := by
  unfold bSum
  simp only [asL, Option.bind_some, mapM_ints]
def argsB (S : SemT) : MS := (sSeq (sSet 4 (eSl (eSl3 (eVar 1) (oSome (eVar 3)) (oNone) (oSome (eCall bLen (aCons (eOp sIx (eVar 0) (eC (.int 1))) (aNil))))) (oNone) (oSome (eC (.int 40))))) (sIf (tst (eOp sEq (eOp sIx (eOp sIx (eOp sIx (eVar 0) (eC (.int 1))) (eVar 3)) (eC (.int 1))) (eC (.str ("list" : Str))))) (sExpr (eMt mtAppend (eVar 2) (aCons (eCall bTuple (aCons (eLc NN (iSeq (eVar 4)) (tgN 5) [5] (cYes) (eCall (arity 1 (S .law_number)) (aCons (eVar 5) (aNil)))) (aNil))) (aNil)))) (sIf (tst (eOp sEq (eOp sIx (eOp sIx (eOp sIx (eVar 0) (eC (.int 1))) (eVar 3)) (eC (.int 1))) (eC (.str ("tree" : Str))))) (sExpr (eMt mtAppend (eVar 2) (aCons (eCall (arity 1 (S .law_tree)) (aCons (eVar 4) (aNil))) (aNil)))) (sExpr (eMt mtAppend (eVar 2) (aCons (eCall (arity 1 (S .law_number)) (aCons (eCall bSum (aCons (eVar 4) (aNil))) (aNil))) (aNil)))))))
theorem HasVs.snoc {vs : List Va} {ts : List Ty} (h : HasVs vs ts) {v : Va} {t : Ty} (hv : HasV v t) : HasVs (vs ++ [v]) (ts ++ [t]) := by
  induction h with
  | nil => exact .cons hv .nil
  | cons h1 _ ih => exact .cons h1 ih
theorem args_step {k : Nat} {h : AH} (ok : Okh h) {dd : Fd} {cs : List Int} {i : Nat} {x : Str} {t : Ty} (hp : dd.params[i]? = some (x, t)) (hn : dd.params.length ≤ 3) {vs : List Va} (hv : vs.length ≤ 900) {o3 o4 o5 : Option U} :
    ∃ v o4' o5', HasV v t ∧ bodyT (tgN 3) (argsB (sem (k + 2))) (.int i) [some dd.u, some (.seq .lst (cs.map U.int)), some (.obj h.length), o3, o4, o5] (h ++ [.lst (vs.map Va.u)]) =
      .nx [some dd.u, some (.seq .lst (cs.map U.int)), some (.obj h.length), some (.int i), o4', o5'] (h ++ [.lst ((vs ++ [v]).map Va.u)]) := by
  obtain ⟨gu, bu, hun⟩ : ∃ gu bu, dd.u = .seq .tup [.str dd.name, .seq .tup (dd.params.map prmU), gu, bu] := ⟨_, _, rfl⟩
  have hil := (List.getElem?_eq_some_iff.mp hp).1
  have okn : Okh (h ++ [.lst (vs.map Va.u)]) := ok.app (belows_pure _ (vas_pure vs))
  obtain ⟨own, hown, hol⟩ : ∃ own : List Int, (pickL cs (some (i : Int)) none (some (dd.params.length : Int))).take 40 = own ∧ own.length ≤ 40 := ⟨_, rfl, by simp; omega⟩
  have e3 : ∀ H : AH, sSl3 (.seq .lst (cs.map U.int)) (some (i : Int)) none (some (dd.params.length : Int)) H = .ok (.seq .lst ((pickL cs (some (i : Int)) none (some (dd.params.length : Int))).map U.int)) H := fun H => by
    unfold sSl3
    simp only [asL, pick_map]
    rw [if_neg (by intro e; simp only [Option.some.injEq] at e; omega)]
  have e4 : ∀ H : AH, sSl (.seq .lst ((pickL cs (some (i : Int)) none (some (dd.params.length : Int))).map U.int)) none (some 40) H = .ok (.seq .lst (own.map U.int)) H := fun H => by
    have := sSl_take (k := .lst) (us := (pickL cs (some (i : Int)) none (some (dd.params.length : Int))).map U.int) (n := 40) (h := H) (by decide)
    rw [← List.map_take, hown] at this
    exact this
  have hpa : atI (dd.params.map prmU) (i : Int) = some (.seq .tup [.str x, t.u]) := atI_ofNat (by rw [List.getElem?_map, hp]; rfl)
  have hv9 : vs.length ≤ 999 := by omega
  have ek : bodyT (tgN 3) (argsB (sem (k + 2))) (.int i) [some dd.u, some (.seq .lst (cs.map U.int)), some (.obj h.length), o3, o4, o5] (h ++ [.lst (vs.map Va.u)]) = argsB (sem (k + 2)) [some dd.u, some (.seq .lst (cs.map U.int)), some (.obj h.length), some (.int i), o4, o5] (h ++ [.lst (vs.map Va.u)]) := rfl
  rw [ek]
  have hset : ∀ v : Va, (h ++ [.lst (vs.map Va.u ++ [v.u])] : AH) = h ++ [.lst ((vs ++ [v]).map Va.u)] := fun v => by simp
  generalize pickL cs (some (i : Int)) none (some (dd.params.length : Int)) = pk at e3 e4
  cases t with
  | num =>
    refine ⟨.num (numI own.sum), some (.seq .lst (own.map U.int)), o5, ⟨rfl, trivial⟩, ?_⟩
    rw [← hset, hun]
    simp (decide := true) [argsB, bLen, asSeq, e3, e4, hpa, Ty.u, Ty.s, sEq_str, isLo, sum_ints, f_number okn, mtAppend, hv9, Va.u]
  | list =>
    refine ⟨.list (own.map numI), some (.seq .lst (own.map U.int)), o5, ⟨rfl, by show (own.map numI).length ≤ 100; simp; omega⟩, ?_⟩
    have ec : lcL (itSeq (.seq .lst (own.map U.int))) (tgN 5) cYes (eCall (arity 1 (sem (k + 2) .law_number)) (aCons (eVar 5) (aNil))) [some dd.u, some (.seq .lst (cs.map U.int)), some (.obj h.length), some (.int i), some (.seq .lst (own.map U.int)), none] NN 0 [] (h ++ [.lst (vs.map Va.u)]) = .ok ((own.map numI).map U.int) (h ++ [.lst (vs.map Va.u)]) := by
      have := lcL_map (it := itSeq (.seq .lst (own.map U.int))) (T := tgN 5) (me := eCall (arity 1 (sem (k + 2) .law_number)) (aCons (eVar 5) (aNil))) (ls0 := [some dd.u, some (.seq .lst (cs.map U.int)), some (.obj h.length), some (.int i), some (.seq .lst (own.map U.int)), none]) (us := own.map U.int) (h := h ++ [.lst (vs.map Va.u)])
        (L := fun u => [some dd.u, some (.seq .lst (cs.map U.int)), some (.obj h.length), some (.int i), some (.seq .lst (own.map U.int)), some u])
        (f := fun u => match u with
          | .int j => .int (numI j)
          | _ => .non) (fun j hj => hit_seq j _ hj) (fun u _ => rfl) (fun u hu => by
            obtain ⟨j, hj, rfl⟩ := List.mem_map.mp hu
            simp [f_number okn]) (by simp; omega) NN 0 [] (by simp) (by simp [NN]; omega) rfl
      rw [this]
      simp
    rw [← hset]
    rw [hun] at ec ⊢
    simp (decide := true) [argsB, bLen, asSeq, e3, e4, hpa, Ty.u, Ty.s, sEq_str, isLo, wipeU, -List.map_map, ec, bTuple, mtAppend, hv9, Va.u]
  | tree =>
    obtain ⟨tr, h1, h2⟩ := f_tree (k := k) okn (cs := own) (by omega)
    refine ⟨.tree tr, some (.seq .lst (own.map U.int)), o5, ⟨rfl, by show tr.size ≤ 100; omega⟩, ?_⟩
    rw [← hset, hun]
    simp (decide := true) [argsB, bLen, asSeq, e3, e4, hpa, Ty.u, Ty.s, sEq_str, isLo, h2, mtAppend, hv9, Va.u]
end Wk
set_option maxRecDepth 100000
set_option maxHeartbeats 400000
/-! P28: the drawn args; putting, take. -/
namespace Wk
open PySem PySem.Spec PyProof.Rows L2

theorem args_loop {k : Nat} {h : AH} (ok : Okh h) {dd : Fd} {cs : List Int} (hn : dd.params.length ≤ 3) : ∀ (m i : Nat) (vs : List Va) (o3 o4 o5 : Option U), i + m = dd.params.length → vs.length = i → HasVs vs ((dd.params.take i).map (·.2)) →
    ∃ vs' o3' o4' o5', HasVs vs' (dd.params.map (·.2)) ∧ loopF (bodyT (tgN 3) (argsB (sem (k + 2)))) ((List.range' i m).map fun (j : Nat) => U.int j) [some dd.u, some (.seq .lst (cs.map U.int)), some (.obj h.length), o3, o4, o5] (h ++ [.lst (vs.map Va.u)]) =
      .nx [some dd.u, some (.seq .lst (cs.map U.int)), some (.obj h.length), o3', o4', o5'] (h ++ [.lst (vs'.map Va.u)])
  | 0, i, vs, o3, o4, o5, h1, h2, h3 => by
    rw [List.take_of_length_le (by omega)] at h3
    exact ⟨vs, o3, o4, o5, h3, rfl⟩
  | m + 1, i, vs, o3, o4, o5, h1, h2, h3 => by
    have hil : i < dd.params.length := by omega
    obtain ⟨⟨x, t⟩, hp⟩ : ∃ p, dd.params[i]? = some p := ⟨_, List.getElem?_eq_getElem hil⟩
    obtain ⟨v, o4', o5', hv, e1⟩ := args_step (k := k) ok (cs := cs) hp hn (vs := vs) (by omega) (o3 := o3) (o4 := o4) (o5 := o5)
    obtain ⟨vs', a, b, c, hv', e2⟩ := args_loop (k := k) ok (cs := cs) hn m (i + 1) (vs ++ [v]) (some (.int i)) o4' o5' (by omega) (by simp [h2]) (by
      have : dd.params.take (i + 1) = dd.params.take i ++ [(x, t)] := by
        rw [List.take_add_one, hp]; rfl
      rw [this, List.map_append]
      exact h3.snoc hv)
    refine ⟨vs', a, b, c, hv', ?_⟩
    rw [List.range'_succ, List.map_cons, loopF, e1]
    exact e2
theorem frzs_pure {n : Nat} {h : AH} {us : List U} (hp : pureUs us = true) : frzs n h us = some us := frzs_below us (belows_pure _ hp)
theorem sSeq_nx {a b : MS} {ls l : Loc} {h k : AH} (e : a ls h = .nx l k) : sSeq a b ls h = b l k := by rw [sSeq_ap, e]
theorem m_args_is (S : SemT) : m_law_args S = sSeq (sSet 2 (eNew (aNil))) (sSeq (sFor NN (iRange (eCall bLen (aCons (eOp sIx (eVar 0) (eC (.int 1))) (aNil)))) (tgN 3) (argsB S)) (sRet (eVar 2))) := rfl
theorem f_args {k : Nat} {h : AH} (ok : Okh h) {dd : Fd} {cs : List Int} (hn : dd.params.length ≤ 3) : ∃ vs, HasVs vs (dd.params.map (·.2)) ∧ sem (k + 3) .law_args [dd.u, .seq .lst (cs.map U.int)] h = .ok (.seq .lst (vs.map Va.u)) h := by
  obtain ⟨vs, a, b, c, hv, e1⟩ := args_loop (k := k) ok (cs := cs) hn dd.params.length 0 [] none none none (by omega) rfl .nil
  refine ⟨vs, hv, ?_⟩
  have e : runB 6 (m_law_args (sem (k + 2))) [dd.u, .seq .lst (cs.map U.int)] h = .ok (.obj h.length) (h ++ [.lst (vs.map Va.u)]) := by
    have er : forL (itRange (dd.params.length : Int)) (tgN 3) (argsB (sem (k + 2))) NN 0 [some dd.u, some (.seq .lst (cs.map U.int)), some (.obj h.length), none, none, none] (h ++ [.lst []]) = .nx [some dd.u, some (.seq .lst (cs.map U.int)), some (.obj h.length), a, b, c] (h ++ [.lst (vs.map Va.u)]) := by
      rw [forL_of hit_range NN 0 _ _ (by simp) (by simp [NN]; omega), List.drop_zero, List.range_eq_range']
      exact e1
    obtain ⟨gu, bu, hun⟩ : ∃ gu bu, dd.u = .seq .tup [.str dd.name, .seq .tup (dd.params.map prmU), gu, bu] := ⟨_, _, rfl⟩
    have hir : ∀ (ls : Loc) (H : AH), ls[0]? = some (some dd.u) → iRange (eCall bLen (aCons (eOp sIx (eVar 0) (eC (.int 1))) (aNil))) ls H = .ok (itRange (dd.params.length : Int)) H := fun ls H hl => by
      rw [hun] at hl
      refine y3 (by omega) ?_
      simp [hl, bLen, asSeq]
    have s1 : sSet 2 (eNew (aNil)) [some dd.u, some (.seq .lst (cs.map U.int)), none, none, none, none] h = .nx [some dd.u, some (.seq .lst (cs.map U.int)), some (.obj h.length), none, none, none] (h ++ [.lst []]) := by simp
    have s2 : sFor NN (iRange (eCall bLen (aCons (eOp sIx (eVar 0) (eC (.int 1))) (aNil)))) (tgN 3) (argsB (sem (k + 2))) [some dd.u, some (.seq .lst (cs.map U.int)), some (.obj h.length), none, none, none] (h ++ [.lst []]) = .nx [some dd.u, some (.seq .lst (cs.map U.int)), some (.obj h.length), a, b, c] (h ++ [.lst (vs.map Va.u)]) := by
      rw [sFor_ap, hir _ _ rfl]
      exact er
    rw [m_args_is, runB_ap]
    have e9 : ([dd.u, U.seq .lst (cs.map U.int)].map some ++ List.replicate (6 - [dd.u, U.seq .lst (cs.map U.int)].length) none : Loc) = [some dd.u, some (.seq .lst (cs.map U.int)), none, none, none, none] := rfl
    rw [e9, sSeq_nx s1, sSeq_nx s2]
    rfl
  have e0 : ∀ us H, sem (k + 2 + 1) .law_args us H = Wk.runC 6 (m_law_args (sem (k + 2))) us H := fun us H => by
    rw [sem_suc]; rfl
  rw [e0, runC_ap, e]
  refine clean_of (n := h.length) (u := .obj h.length) (u' := .seq .lst (vs.map Va.u)) (h := h ++ [.lst (vs.map Va.u)]) (h' := h) ?_ (List.take_left) ok
  have hg : (h ++ [MO.lst (vs.map Va.u)])[h.length]? = some (.lst (vs.map Va.u)) := get_new ..
  unfold frz
  rw [if_neg (Nat.lt_irrefl _), hg]
  have hb : belowUs h.length (vs.map Va.u) = true := belows_pure _ (vas_pure vs)
  simp only [hb, if_true, frzs_pure (vas_pure vs), Option.map_some]
end Wk
set_option maxRecDepth 100000
set_option maxHeartbeats 400000
/-! P29: putting by hand; the draw's state. -/
namespace Wk
open PySem PySem.Spec PyProof.Rows L2

def putBody (f n x hd tl : Str) : Bd := .olist x (.give (.cons (.var n) .nil)) hd tl (.less (.var n) (.var hd) (.give (.cons (.var n) (.var x))) (.give (.cons (.var hd) (.call f [.var n, .var tl]))))
def putFd (f n x hd tl : Str) : Fd := ⟨f, [(n, .num), (x, .list)], .list, [1, 0, 1], putBody f n x hd tl⟩
theorem f_putting {k : Nat} {f n x hd tl : Str} {rest : List U} {h : AH} (ok : Okh h) : sem (k + 1) .law_putting [.str f, .seq .lst (.str n :: .str x :: .str hd :: .str tl :: rest)] h = .ok (putFd f n x hd tl).u h := by
  have e : runB 10 (m_law_putting (sem k)) [.str f, .seq .lst (.str n :: .str x :: .str hd :: .str tl :: rest)] h = .ok (putFd f n x hd tl).u h := by
    have e1 : sSl (.seq .lst (.str n :: .str x :: .str hd :: .str tl :: rest)) none (some 4) h = .ok (.seq .lst [.str n, .str x, .str hd, .str tl]) h := sSl_take (k := .lst) (n := 4) (by decide)
    simp [m_law_putting, e1, tgL, asL, setMany]
    simp [putFd, Fd.u, Fd.head, prmU, Ty.u, Ty.s, putBody, Bd.u, Ex.u, Ex.us]
  have e0 : ∀ us H, sem (k + 1) .law_putting us H = Wk.runC 10 (m_law_putting (sem k)) us H := fun us H => rfl
  rw [e0, runC_ap, e]
  exact clean_same rfl ok (below_pure _ (putFd f n x hd tl).pure)
theorem put_ok {F : Sig} {f n x hd tl : Str} (hf : F f = some ([.num, .list], .list)) (hs : PyData.strOk f = true) (hnd : [n, x, hd, tl].Nodup) : FdOk F (putFd f n x hd tl) := by
  simp only [List.nodup_cons, List.mem_cons, List.not_mem_nil, or_false, not_or, List.nodup_nil, and_true] at hnd
  obtain ⟨⟨h1, h2, h3⟩, ⟨h4, h5⟩, h6, _⟩ := hnd
  have n1 := Ne.symm h1
  have n2 := Ne.symm h2
  have n3 := Ne.symm h3
  have n4 := Ne.symm h4
  have n5 := Ne.symm h5
  refine ⟨hs, by simp [putFd, h1], by simp [putFd], by simp [putFd], ?_, by simp [putFd, putBody, Bd.dep]⟩
  simp [putFd, putBody, tyB, tyE, tyEs, gam0, Gam.put, Ex.dep, Ex.deps, hf, h1, h2, h3, h4, h5, h6, n1, n2, n3, n4, n5]
/-! ### the draw's state -/
def stG (G : AH) (p : Nat) (cells : List Int) (nm hd : U) (pos : Nat) : AH := G.set p (.lst [.seq .lst (cells.map U.int), .int pos, nm, hd])
section
variable {G : AH} {p : Nat} {cells : List Int} {nm hd : U} {pos : Nat}
theorem stG_at (hp : p < G.length) : (stG G p cells nm hd pos)[p]? = some (.lst [.seq .lst (cells.map U.int), .int pos, nm, hd]) := List.getElem?_set_self hp
theorem stG_set (us : List U) : (stG G p cells nm hd pos).set p (.lst us) = G.set p (.lst us) := by unfold stG; rw [List.set_set]
theorem stG_len : (stG G p cells nm hd pos).length = G.length := by simp [stG]
theorem stG_ok (ok : Okh G) (h1 : pureU nm = true) (h2 : pureU hd = true) : Okh (stG G p cells nm hd pos) := by
  refine ok.set ?_
  refine belows_pure _ ?_
  simp [pureUs, pureU, ints_pure, h1, h2]
theorem f_take {k : Nat} (ok : Okh G) (hp : p < G.length) (h1 : pureU nm = true) (h2 : pureU hd = true) : ∃ c : Int, 0 ≤ c ∧ sem (k + 1) .law_take [.obj p] (stG G p cells nm hd pos) = .ok (.int c) (stG G p cells nm hd (pos + 1)) := by
  have hs : (stG G p cells nm hd pos).set p (.lst [.seq .lst (cells.map U.int), .int ((pos : Int) + 1), nm, hd]) = stG G p cells nm hd (pos + 1) := by
    rw [stG_set]; unfold stG; simp
  have g1 : (stG G p cells nm hd (pos + 1))[p]? = some (.lst [.seq .lst (cells.map U.int), .int ((pos : Int) + 1), nm, hd]) := by
    rw [stG_at hp]; simp
  have g0 := stG_at (cells := cells) (nm := nm) (hd := hd) (pos := pos) hp
  have i1 : ixN 4 1 = some 1 := rfl
  have e6 : ∀ h : AH, sPow (.int 10) (.int 60) h = .ok (.int M60) h := fun h => sPow10 (by decide) (by decide)
  by_cases hl : pos < cells.length
  · refine ⟨cells[pos] % M60, Int.emod_nonneg _ (by decide), ?_⟩
    have e7 : ∀ (c : Int) (h : AH), sMod (.int c) (.int M60) h = .ok (.int (c % M60)) h := fun c h => sMod_pos (by decide)
    have e8 : atI (cells.map U.int) (pos : Int) = some (.int cells[pos]) := atI_ofNat (by simp [hl])
    have h3 : ¬ (cells.length : Int) < (pos : Int) + 1 := by omega
    have h4 : (pos : Int) + 1 - 1 = pos := by omega
    have e : runB 1 (m_law_take (sem k)) [.obj p] (stG G p cells nm hd pos) = .ok (.int (cells[pos] % M60)) (stG G p cells nm hd (pos + 1)) := by
      simp [m_law_take, -sIntC_int, asSeq, g0, stL, i1, hs, g1, bLen, h3, h4, e8, e6, e7]
    have e0 : sem (k + 1) .law_take [.obj p] (stG G p cells nm hd pos) = Wk.runC 1 (m_law_take (sem k)) [.obj p] (stG G p cells nm hd pos) := rfl
    rw [e0, runC_ap, e]
    exact clean_same (by simp [stG_len]) (stG_ok ok h1 h2) rfl
  · refine ⟨0, by omega, ?_⟩
    have h3 : (cells.length : Int) < (pos : Int) + 1 := by omega
    have e : runB 1 (m_law_take (sem k)) [.obj p] (stG G p cells nm hd pos) = .ok (.int 0) (stG G p cells nm hd (pos + 1)) := by
      simp [m_law_take, -sIntC_int, asSeq, g0, stL, i1, hs, g1, bLen, h3]
    have e0 : sem (k + 1) .law_take [.obj p] (stG G p cells nm hd pos) = Wk.runC 1 (m_law_take (sem k)) [.obj p] (stG G p cells nm hd pos) := rfl
    rw [e0, runC_ap, e]
    exact clean_same (by simp [stG_len]) (stG_ok ok h1 h2) rfl
end
end Wk
set_option maxRecDepth 100000
set_option maxHeartbeats 400000
/-! P30: the drawn names. -/
namespace Wk
open PySem PySem.Spec PyProof.Rows L2

def letL : List Nat := [97, 98, 99, 100, 102, 103, 104, 106, 107, 109, 110, 111, 112, 113, 114, 115, 116, 117, 118, 119, 120, 121, 122]
def ltr (i : Nat) : Nat := letL.getD i 0
def letS : Str := "abcdfghjkmnopqrstuvwxyz"
theorem letS_list : letS.cps.toList = letL := by decide +kernel
theorem letS_len : letS.length = 23 := by
  show letS.cps.size = 23
  rw [← Array.length_toList, letS_list]; rfl
def wordS (w : List Nat) : Str := ⟨(w.map ltr).toArray⟩
def nameAt (w : List Nat) (a k : Nat) : Str := wordS (w.set a ((w.getD a 0 + k) % 23))
theorem ltr_le (i : Nat) : ltr i ≤ 122 := by
  unfold ltr
  rw [List.getD_eq_getElem?_getD]
  by_cases h : i < letL.length
  · rw [List.getElem?_eq_getElem h]
    have : ∀ x ∈ letL, x ≤ 122 := by decide
    exact this _ (List.getElem_mem h)
  · rw [List.getElem?_eq_none (by omega)]
    exact Nat.zero_le _
theorem wordS_ok (w : List Nat) : PyData.strOk (wordS w) = true := by
  unfold PyData.strOk wordS
  rw [← Array.all_toList]
  simp only [List.all_eq_true, List.mem_map]
  rintro x ⟨i, _, rfl⟩
  have := ltr_le i
  exact decide_eq_true (by omega)
theorem ltr_inj {i j : Nat} (hi : i < 23) (hj : j < 23) (h : ltr i = ltr j) : i = j := by
  have : ∀ a : Fin 23, ∀ b : Fin 23, ltr a.1 = ltr b.1 → a = b := by decide +kernel
  have := this ⟨i, hi⟩ ⟨j, hj⟩ h
  exact congrArg Fin.val this
theorem nameAt_inj {w : List Nat} {a j k : Nat} (ha : a < w.length) (hj : j < 20) (hk : k < 20) (h : nameAt w a j = nameAt w a k) : j = k := by
  unfold nameAt wordS at h
  have h1 := congrArg (fun s : Str => s.cps.toList[a]?) h
  simp only [List.toList_toArray, List.getElem?_map] at h1
  rw [List.getElem?_set_self (by simpa using ha), List.getElem?_set_self (by simpa using ha)] at h1
  simp only [Option.map_some, Option.some.injEq] at h1
  have := ltr_inj (Nat.mod_lt _ (by decide)) (Nat.mod_lt _ (by decide)) h1
  omega
theorem join_chars (cs : List Nat) : Txt.join ("" : Str) (cs.map fun c => (⟨#[c]⟩ : Str)) = ⟨cs.toArray⟩ := by
  show Builtin.Str.glued ("" : Str) _ = _
  unfold Builtin.Str.glued
  have z : ("" : Str).cps = #[] := by decide +kernel
  have f : ∀ (l : List Nat) (acc : Array Nat), (l.map fun c => (⟨#[c]⟩ : Str)).foldl (fun acc p => acc ++ ("" : Str).cps ++ p.cps) acc = acc ++ l.toArray := by
    intro l
    induction l with
    | nil => intro acc; simp
    | cons c l ih =>
      intro acc
      rw [List.map_cons, List.foldl_cons, ih, z]
      simp
  cases cs with
  | nil => simp [Str.empty]
  | cons c cs =>
    simp only [List.map_cons, List.drop_one, List.tail_cons, List.headD_cons, f]
    simp
theorem mapM_strs : ∀ xs : List Str, (xs.map U.str).mapM strU = some xs
  | [] => rfl
  | x :: xs => by
    rw [List.map_cons, List.mapM_cons, mapM_strs xs]
    rfl
theorem join_word {h : AH} {w : List Nat} (hw : w.length ≤ 900) : sJoin (.str ("" : Str)) (.seq .lst (w.map fun i => U.str ⟨#[ltr i]⟩)) h = .ok (.str (wordS w)) h := by
  have e1 : (w.map fun i => U.str ⟨#[ltr i]⟩) = ((w.map ltr).map fun c => (⟨#[c]⟩ : Str)).map U.str := by simp
  rw [e1]
  unfold sJoin
  simp only [asL, Option.bind_some, mapM_strs]
  have z : ("" : Str).length = 0 := by decide +kernel
  have s : ∀ l : List Nat, ((l.map fun c => (⟨#[c]⟩ : Str)).map (·.length)).sum = l.length := by
    intro l
    induction l with
    | nil => rfl
    | cons c l ih =>
      simp only [List.map_cons, List.sum_cons, ih, List.length_cons]
      show 1 + l.length = _
      omega
  rw [s, z, if_pos (by simp; omega), join_chars]
  rfl
/-! ### the heap while they are made -/
def nmH (h : AH) (ns : List Str) (J : AH) : AH := h ++ (.lst (ns.map U.str) :: J)
section
variable {h J : AH} {ns : List Str}
theorem nm_get : (nmH h ns J)[h.length]? = some (.lst (ns.map U.str)) := by simp [nmH]
theorem nm_set (ns' : List Str) : (nmH h ns J).set h.length (.lst (ns'.map U.str)) = nmH h ns' J := by simp [nmH, List.set_append]
theorem nm_app (x : MO) : nmH h ns J ++ [x] = nmH h ns (J ++ [x]) := by simp [nmH]
theorem nm_last (x : MO) : (nmH h ns (J ++ [x]))[(nmH h ns J).length]? = some x := by rw [← nm_app]; simp
theorem nm_setl (x y : MO) : (nmH h ns (J ++ [x])).set (nmH h ns J).length y = nmH h ns (J ++ [y]) := by rw [← nm_app, ← nm_app]; simp [List.set_append]
end
end Wk
set_option maxRecDepth 100000
set_option maxHeartbeats 400000
/-! P31: the drawn names, joined. -/
namespace Wk
open PySem PySem.Spec PyProof.Rows L2

def namB : MS := (sSeq (sSet 7 (eCall bListN (aCons (eVar 3) (aNil)))) (sSeq (sSto stL (eVar 7) (eVar 4) (eOp sMod (eOp sAdd (eOp sIx (eVar 3) (eVar 4)) (eVar 6)) (eC (.int 23)))) (sExpr (eMt mtAppend (eVar 5) (aCons (eJoin (eC (.str ("" : Str))) (eLc NN (iSeq (eVar 7)) (tgN 8) [8] (cYes) (eOp sIx (eVar 2) (eVar 8)))) (aNil))))))
theorem nam_step {h J : AH} {ns : List Str} {w : List Nat} {a k : Nat} {x0 x1 o6 o7 o8 : Option U} (hw : w.length ≤ 900) (ha : a < w.length) (hl : ∀ x ∈ w, x < 23) (hns : ns.length ≤ 900) :
    ∃ J' o7', bodyT (tgN 6) namB (.int k) [x0, x1, some (.str letS), some (.seq .lst (w.map natU)), some (.int a), some (.obj h.length), o6, o7, o8] (nmH h ns J) =
      .nx [x0, x1, some (.str letS), some (.seq .lst (w.map natU)), some (.int a), some (.obj h.length), some (.int k), o7', o8] (nmH h (ns ++ [nameAt w a k]) J') := by
  have hwa : w[a]? = some (w.getD a 0) := by rw [List.getD_eq_getElem?_getD, List.getElem?_eq_getElem ha]; rfl
  generalize hx : w.getD a 0 = x at hwa
  have e1 : atI (w.map natU) (a : Int) = some (.int x) := natU_at hwa
  have e2 : sMod (.int ((x : Int) + k)) (.int 23) (nmH h ns (J ++ [.lst (w.map natU)])) = .ok (.int (((x : Int) + k) % 23)) (nmH h ns (J ++ [.lst (w.map natU)])) := sMod_pos (by decide)
  have e3 : ixN w.length (a : Int) = some a := by
    unfold ixN
    rw [if_pos (by omega), if_pos (by omega)]
    simp
  have e4 : (w.map natU).set a (.int (((x : Int) + k) % 23)) = (w.set a ((x + k) % 23)).map natU := by
    rw [List.map_set]
    simp [natU]
  generalize hw2 : w.set a ((x + k) % 23) = w2 at e4
  have hw2l : w2.length = w.length := by rw [← hw2]; simp
  have hl2 : ∀ y ∈ w2, y < 23 := fun y hy => by
    rw [← hw2] at hy
    rcases List.mem_or_eq_of_mem_set hy with h1 | h1
    · exact hl y h1
    · rw [h1]; exact Nat.mod_lt _ (by decide)
  have hnm : wordS w2 = nameAt w a k := by unfold nameAt; rw [hx, hw2]
  have ls9 : ∀ H : AH, ∀ j, j < 23 → sIx (.str letS) (.int (j : Nat)) H = .ok (.str ⟨#[ltr j]⟩) H := fun H j hj => by
    have : atI letS.cps.toList (j : Int) = some (ltr j) := by
      rw [letS_list]
      refine atI_ofNat ?_
      unfold ltr
      rw [List.getD_eq_getElem?_getD, List.getElem?_eq_getElem (show j < letL.length from hj)]
      rfl
    simp only [sIx, letS_len, this]
    rfl
  generalize hq : (nmH h ns J).length = q
  have g1 : (nmH h ns (J ++ [.lst (w2.map natU)]))[q]? = some (.lst (w2.map natU)) := by rw [← hq]; exact nm_last _
  have g0 : (nmH h ns (J ++ [.lst (w.map natU)]))[q]? = some (.lst (w.map natU)) := by rw [← hq]; exact nm_last _
  have s1 : (nmH h ns (J ++ [.lst (w.map natU)])).set q (.lst (w2.map natU)) = nmH h ns (J ++ [.lst (w2.map natU)]) := by rw [← hq]; exact nm_setl _ _
  have ec : lcL (itSeq (.obj q)) (tgN 8) cYes (eOp sIx (eVar 2) (eVar 8)) [x0, x1, some (.str letS), some (.seq .lst (w.map natU)), some (.int a), some (.obj h.length), some (.int k), some (.obj q), none] NN 0 [] (nmH h ns (J ++ [.lst (w2.map natU)])) = .ok (w2.map fun i => U.str ⟨#[ltr i]⟩) (nmH h ns (J ++ [.lst (w2.map natU)])) := by
    have := lcL_map (it := itSeq (.obj q)) (T := tgN 8) (me := eOp sIx (eVar 2) (eVar 8)) (ls0 := [x0, x1, some (.str letS), some (.seq .lst (w.map natU)), some (.int a), some (.obj h.length), some (.int k), some (.obj q), none]) (us := w2.map natU) (h := nmH h ns (J ++ [.lst (w2.map natU)]))
      (L := fun u => [x0, x1, some (.str letS), some (.seq .lst (w.map natU)), some (.int a), some (.obj h.length), some (.int k), some (.obj q), some u])
      (f := fun u => match u with
        | .int j => .str ⟨#[ltr j.toNat]⟩
        | _ => .non) (fun j hj => by simp [itSeq, asSeq, g1]) (fun u _ => rfl) (fun u hu => by
          obtain ⟨j, hj, rfl⟩ := List.mem_map.mp hu
          have := ls9 (nmH h ns (J ++ [.lst (w2.map natU)])) j (hl2 j hj)
          simp [natU, this]) (by simp; omega) NN 0 [] (by simp) (by simp [NN]; omega) rfl
    rw [this]
    simp [natU]
  have ej := join_word (h := nmH h ns (J ++ [.lst (w2.map natU)])) (w := w2) (by omega)
  have g5 : (nmH h ns (J ++ [.lst (w2.map natU)]))[h.length]? = some (.lst (ns.map U.str)) := nm_get
  have hn9 : ns.length ≤ 999 := by omega
  have s5 : (nmH h ns (J ++ [.lst (w2.map natU)])).set h.length (.lst (ns.map U.str ++ [.str (wordS w2)])) = nmH h (ns ++ [nameAt w a k]) (J ++ [.lst (w2.map natU)]) := by
    have := nm_set (h := h) (ns := ns) (J := J ++ [.lst (w2.map natU)]) (ns ++ [wordS w2])
    rw [hnm] at this ⊢
    simpa using this
  have a1 := nm_app (h := h) (ns := ns) (J := J) (.lst (w.map natU))
  refine ⟨J ++ [.lst (w2.map natU)], some (.obj q), ?_⟩
  have eb : bodyT (tgN 6) namB (.int k) [x0, x1, some (.str letS), some (.seq .lst (w.map natU)), some (.int a), some (.obj h.length), o6, o7, o8] (nmH h ns J) = namB [x0, x1, some (.str letS), some (.seq .lst (w.map natU)), some (.int a), some (.obj h.length), some (.int k), o7, o8] (nmH h ns J) := rfl
  rw [eb]
  unfold namB
  have t1 : sSet 7 (eCall bListN (aCons (eVar 3) (aNil))) [x0, x1, some (.str letS), some (.seq .lst (w.map natU)), some (.int a), some (.obj h.length), some (.int k), o7, o8] (nmH h ns J) = .nx [x0, x1, some (.str letS), some (.seq .lst (w.map natU)), some (.int a), some (.obj h.length), some (.int k), some (.obj q), o8] (nmH h ns (J ++ [.lst (w.map natU)])) := by
    simp [bListN, asSeq, a1, hq]
  have t2 : sSto stL (eVar 7) (eVar 4) (eOp sMod (eOp sAdd (eOp sIx (eVar 3) (eVar 4)) (eVar 6)) (eC (.int 23))) [x0, x1, some (.str letS), some (.seq .lst (w.map natU)), some (.int a), some (.obj h.length), some (.int k), some (.obj q), o8] (nmH h ns (J ++ [.lst (w.map natU)])) = .nx [x0, x1, some (.str letS), some (.seq .lst (w.map natU)), some (.int a), some (.obj h.length), some (.int k), some (.obj q), o8] (nmH h ns (J ++ [.lst (w2.map natU)])) := by
    simp [-sIntC_int, e1, e2, stL, g0, e3, e4, s1]
  have t3 : sExpr (eMt mtAppend (eVar 5) (aCons (eJoin (eC (.str ("" : Str))) (eLc NN (iSeq (eVar 7)) (tgN 8) [8] (cYes) (eOp sIx (eVar 2) (eVar 8)))) (aNil))) [x0, x1, some (.str letS), some (.seq .lst (w.map natU)), some (.int a), some (.obj h.length), some (.int k), some (.obj q), o8] (nmH h ns (J ++ [.lst (w2.map natU)])) = .nx [x0, x1, some (.str letS), some (.seq .lst (w.map natU)), some (.int a), some (.obj h.length), some (.int k), some (.obj q), o8] (nmH h (ns ++ [nameAt w a k]) (J ++ [.lst (w2.map natU)])) := by
    simp [isLo, g5, isStrU, asSeq, g1, wipeU, ec, ej, mtAppend, hn9, s5]
  rw [sSeq_nx t1, sSeq_nx t2, t3]
theorem nam_loop {h : AH} {w : List Nat} {a : Nat} {x0 x1 : Option U} (hw : w.length ≤ 900) (ha : a < w.length) (hl : ∀ x ∈ w, x < 23) : ∀ (m i : Nat) (J : AH) (o6 o7 o8 : Option U), i + m = 20 →
    ∃ J' o6' o7', loopF (bodyT (tgN 6) namB) ((List.range' i m).map fun (j : Nat) => U.int j) [x0, x1, some (.str letS), some (.seq .lst (w.map natU)), some (.int a), some (.obj h.length), o6, o7, o8] (nmH h ((List.range i).map (nameAt w a)) J) =
      .nx [x0, x1, some (.str letS), some (.seq .lst (w.map natU)), some (.int a), some (.obj h.length), o6', o7', o8] (nmH h ((List.range 20).map (nameAt w a)) J')
  | 0, i, J, o6, o7, o8, hi => by
    have : i = 20 := by omega
    subst this
    exact ⟨J, o6, o7, rfl⟩
  | m + 1, i, J, o6, o7, o8, hi => by
    obtain ⟨J1, o71, e1⟩ := nam_step (h := h) (J := J) (ns := (List.range i).map (nameAt w a)) (k := i) (x0 := x0) (x1 := x1) (o6 := o6) (o7 := o7) (o8 := o8) hw ha hl (by simp; omega)
    obtain ⟨J', o6', o7', e2⟩ := nam_loop (h := h) (x0 := x0) (x1 := x1) hw ha hl m (i + 1) J1 (some (.int i)) o71 o8 (by omega)
    refine ⟨J', o6', o7', ?_⟩
    have er : (List.range (i + 1)).map (nameAt w a) = (List.range i).map (nameAt w a) ++ [nameAt w a i] := by rw [List.range_succ]; simp
    rw [er] at e2
    rw [List.range'_succ, List.map_cons, loopF, e1]
    exact e2
end Wk
set_option maxRecDepth 100000
set_option maxHeartbeats 400000
/-! P33: the drawn heads. -/
namespace Wk
open PySem PySem.Spec PyProof.Rows L2

def M9 : Int := 10 ^ 9
def headU (d : Fd) : U := .seq .tup d.head
theorem params_pure (ps : List (Str × Ty)) : pureUs (ps.map prmU) = true := by
  induction ps with
  | nil => rfl
  | cons p ps ih => simp [pureUs, pureU, prmU, Ty.u, ih]
theorem headU_pure (d : Fd) : pureU (headU d) = true := by
  simp [headU, Fd.head, pureU, pureUs, params_pure, Ty.u, ints_pure]
def tyOf (r : Int) : Ty := if r = 0 then .num else if r = 1 then .list else .tree
theorem ty_at (r : Int) (h : r = 0 ∨ r = 1 ∨ r = 2) : atI [U.str "num", U.str "list", U.str "tree"] r = some (tyOf r).u := by
  rcases h with rfl | rfl | rfl <;> rfl
def headB : MS := (sSeq (sSet 7 (eOp sIx (eLst (aCons (eC (.str ("num" : Str))) (aCons (eC (.str ("list" : Str))) (aCons (eC (.str ("tree" : Str))) (aNil))))) (eOp sMod (eOp sDiv (eVar 2) (eOp sIx (eLst (aCons (eC (.int 3)) (aCons (eC (.int 9)) (aCons (eC (.int 27)) (aNil))))) (eVar 5))) (eC (.int 3))))) (sSeq (sExpr (eMt mtAppend (eVar 3) (aCons (eTup (aCons (eOp sIx (eVar 1) (eVar 5)) (aCons (eVar 7) (aNil)))) (aNil)))) (sExpr (eMt mtAppend (eVar 4) (aCons (eOp sMul (eCall bInt (aCons (eOp sNe (eVar 7) (eC (.str ("num" : Str)))) (aNil))) (eOp sMod (eOp sDiv (eVar 2) (eOp sIx (eLst (aCons (eC (.int 324)) (aCons (eC (.int 972)) (aCons (eC (.int 2916)) (aNil))))) (eVar 5))) (eC (.int 3)))) (aNil))))))
def hdH (h : AH) (ps : List (Str × Ty)) (sz : List Int) : AH := h ++ [.lst (ps.map prmU), .lst (sz.map U.int)]
section
variable {h : AH} {ps : List (Str × Ty)} {sz : List Int}
theorem hd_0 : (hdH h ps sz)[h.length]? = some (.lst (ps.map prmU)) := by simp [hdH]
theorem hd_1 : (hdH h ps sz)[h.length + 1]? = some (.lst (sz.map U.int)) := by
  unfold hdH
  rw [List.getElem?_append_right (by omega)]
  simp
theorem hd_s0 (q : Str × Ty) : (hdH h ps sz).set h.length (.lst (ps.map prmU ++ [prmU q])) = hdH h (ps ++ [q]) sz := by simp [hdH, List.set_append]
theorem hd_s1 (i : Int) : (hdH h ps sz).set (h.length + 1) (.lst (sz.map U.int ++ [.int i])) = hdH h ps (sz ++ [i]) := by simp [hdH, List.set_append]
end
theorem sNe_num {t : Ty} {H : AH} : sNe t.u (.str ("num" : Str)) H = .ok (.bl (decide (t ≠ .num))) H := by
  cases t with
  | num => unfold Ty.u Ty.s; rw [sNe_str ok_num ok_num]; rfl
  | list => unfold Ty.u Ty.s; rw [sNe_str ok_list ok_num]; rfl
  | tree => unfold Ty.u Ty.s; rw [sNe_str ok_tree ok_num]; rfl
theorem head_step {h : AH} {c : Int} {ns : List Str} {i : Nat} (hi : i < 3) {x : Str} (hx : ns[i]? = some x) {ps : List (Str × Ty)} {sz : List Int} (h1 : ps.length ≤ 900) (h2 : sz.length ≤ 900) {x0 o5 o6 o7 o8 : Option U} :
    ∃ t z o7', bodyT (tgN 5) headB (.int i) [x0, some (.seq .lst (ns.map U.str)), some (.int c), some (.obj h.length), some (.obj (h.length + 1)), o5, o6, o7, o8] (hdH h ps sz) =
      .nx [x0, some (.seq .lst (ns.map U.str)), some (.int c), some (.obj h.length), some (.obj (h.length + 1)), some (.int i), o6, o7', o8] (hdH h (ps ++ [(x, t)]) (sz ++ [z])) := by
  obtain ⟨q, hq, hq0, hq1⟩ : ∃ q : Int, atI [U.int 3, U.int 9, U.int 27] (i : Int) = some (.int q) ∧ 0 < q ∧ q < 1073741824 := by
    match i, hi with
    | 0, _ => exact ⟨3, rfl, by decide, by decide⟩
    | 1, _ => exact ⟨9, rfl, by decide, by decide⟩
    | 2, _ => exact ⟨27, rfl, by decide, by decide⟩
  obtain ⟨r, hr, hr0, hr1⟩ : ∃ r : Int, atI [U.int 324, U.int 972, U.int 2916] (i : Int) = some (.int r) ∧ 0 < r ∧ r < 1073741824 := by
    match i, hi with
    | 0, _ => exact ⟨324, rfl, by decide, by decide⟩
    | 1, _ => exact ⟨972, rfl, by decide, by decide⟩
    | 2, _ => exact ⟨2916, rfl, by decide, by decide⟩
  have e1 : ∀ H : AH, sDiv (.int c) (.int q) H = .ok (.int (c / q)) H := fun H => sDiv_pos hq0 hq1
  have e2 : ∀ H : AH, sMod (.int (c / q)) (.int 3) H = .ok (.int (c / q % 3)) H := fun H => sMod_pos (by decide)
  have e3 : ∀ H : AH, sDiv (.int c) (.int r) H = .ok (.int (c / r)) H := fun H => sDiv_pos hr0 hr1
  have e4 : ∀ H : AH, sMod (.int (c / r)) (.int 3) H = .ok (.int (c / r % 3)) H := fun H => sMod_pos (by decide)
  have e5 := ty_at (c / q % 3) (mod3 (c / q))
  generalize tyOf (c / q % 3) = t at e5
  have e6 : atI (ns.map U.str) (i : Int) = some (.str x) := atI_ofNat (by rw [List.getElem?_map, hx]; rfl)
  obtain ⟨b, hb⟩ : ∃ b : Bool, ∀ H : AH, sNe t.u (.str ("num" : Str)) H = .ok (.bl b) H := ⟨_, fun H => sNe_num⟩
  obtain ⟨y, hy⟩ : ∃ y : Int, bInt [.bl b] = (fun H => .ok (.int y) H) ∧ -100000 ≤ y ∧ y ≤ 100000 := by
    cases b with
    | true => exact ⟨1, rfl, by decide, by decide⟩
    | false => exact ⟨0, rfl, by decide, by decide⟩
  obtain ⟨hy, hy0, hy1⟩ := hy
  have e7 : ∀ H : AH, sMul (.int y) (.int (c / r % 3)) H = .ok (.int (y * (c / r % 3))) H := fun H => sMul_l hy0 hy1
  refine ⟨t, y * (c / r % 3), some t.u, ?_⟩
  have eb : bodyT (tgN 5) headB (.int i) [x0, some (.seq .lst (ns.map U.str)), some (.int c), some (.obj h.length), some (.obj (h.length + 1)), o5, o6, o7, o8] (hdH h ps sz) = headB [x0, some (.seq .lst (ns.map U.str)), some (.int c), some (.obj h.length), some (.obj (h.length + 1)), some (.int i), o6, o7, o8] (hdH h ps sz) := rfl
  rw [eb]
  unfold headB
  have t1 : sSet 7 (eOp sIx (eLst (aCons (eC (.str ("num" : Str))) (aCons (eC (.str ("list" : Str))) (aCons (eC (.str ("tree" : Str))) (aNil))))) (eOp sMod (eOp sDiv (eVar 2) (eOp sIx (eLst (aCons (eC (.int 3)) (aCons (eC (.int 9)) (aCons (eC (.int 27)) (aNil))))) (eVar 5))) (eC (.int 3)))) [x0, some (.seq .lst (ns.map U.str)), some (.int c), some (.obj h.length), some (.obj (h.length + 1)), some (.int i), o6, o7, o8] (hdH h ps sz) = .nx [x0, some (.seq .lst (ns.map U.str)), some (.int c), some (.obj h.length), some (.obj (h.length + 1)), some (.int i), o6, some t.u, o8] (hdH h ps sz) := by
    simp [-sIntC_int, hq, e1, e2, e5]
  have hp9 : ps.length ≤ 999 := by omega
  have hz9 : sz.length ≤ 999 := by omega
  have s0 : (hdH h ps sz).set h.length (.lst (ps.map prmU ++ [.seq .tup [.str x, t.u]])) = hdH h (ps ++ [(x, t)]) sz := hd_s0 (x, t)
  have t2 : sExpr (eMt mtAppend (eVar 3) (aCons (eTup (aCons (eOp sIx (eVar 1) (eVar 5)) (aCons (eVar 7) (aNil)))) (aNil))) [x0, some (.seq .lst (ns.map U.str)), some (.int c), some (.obj h.length), some (.obj (h.length + 1)), some (.int i), o6, some t.u, o8] (hdH h ps sz) = .nx [x0, some (.seq .lst (ns.map U.str)), some (.int c), some (.obj h.length), some (.obj (h.length + 1)), some (.int i), o6, some t.u, o8] (hdH h (ps ++ [(x, t)]) sz) := by
    simp [isLo, hd_0, e6, mtAppend, hp9, s0]
  have s1 : ∀ z : Int, (hdH h (ps ++ [(x, t)]) sz).set (h.length + 1) (.lst (sz.map U.int ++ [.int z])) = hdH h (ps ++ [(x, t)]) (sz ++ [z]) := fun z => hd_s1 z
  have t3 : sExpr (eMt mtAppend (eVar 4) (aCons (eOp sMul (eCall bInt (aCons (eOp sNe (eVar 7) (eC (.str ("num" : Str)))) (aNil))) (eOp sMod (eOp sDiv (eVar 2) (eOp sIx (eLst (aCons (eC (.int 324)) (aCons (eC (.int 972)) (aCons (eC (.int 2916)) (aNil))))) (eVar 5))) (eC (.int 3)))) (aNil))) [x0, some (.seq .lst (ns.map U.str)), some (.int c), some (.obj h.length), some (.obj (h.length + 1)), some (.int i), o6, some t.u, o8] (hdH h (ps ++ [(x, t)]) sz) = .nx [x0, some (.seq .lst (ns.map U.str)), some (.int c), some (.obj h.length), some (.obj (h.length + 1)), some (.int i), o6, some t.u, o8] (hdH h (ps ++ [(x, t)]) (sz ++ [y * (c / r % 3)])) := by
    simp [-sIntC_int, isLo, hd_1, hb, hy, hr, e3, e4, e7, mtAppend, hz9, s1]
  rw [sSeq_nx t1, sSeq_nx t2, t3]
theorem head_loop {h : AH} {c : Int} {ns : List Str} (hn : 3 ≤ ns.length) {x0 o6 o8 : Option U} : ∀ (m i : Nat) (ps : List (Str × Ty)) (sz : List Int) (o5 o7 : Option U), i + m ≤ 3 → ps.length = i → ps.map (·.1) = ns.take i → sz.length ≤ i + 1 →
    ∃ ps' sz' o5' o7', ps'.length = i + m ∧ ps'.map (·.1) = ns.take (i + m) ∧ sz'.length ≤ i + m + 1 ∧ loopF (bodyT (tgN 5) headB) ((List.range' i m).map fun (j : Nat) => U.int j) [x0, some (.seq .lst (ns.map U.str)), some (.int c), some (.obj h.length), some (.obj (h.length + 1)), o5, o6, o7, o8] (hdH h ps sz) =
      .nx [x0, some (.seq .lst (ns.map U.str)), some (.int c), some (.obj h.length), some (.obj (h.length + 1)), o5', o6, o7', o8] (hdH h ps' sz')
  | 0, i, ps, sz, o5, o7, h1, h2, h3, h4 => ⟨ps, sz, o5, o7, h2, h3, h4, rfl⟩
  | m + 1, i, ps, sz, o5, o7, h1, h2, h3, h4 => by
    have hil : i < ns.length := by omega
    have hx : ns[i]? = some ns[i] := List.getElem?_eq_getElem hil
    obtain ⟨t, z, o7a, e1⟩ := head_step (h := h) (c := c) (ns := ns) (i := i) (by omega) hx (ps := ps) (sz := sz) (by omega) (by omega) (x0 := x0) (o5 := o5) (o6 := o6) (o7 := o7) (o8 := o8)
    obtain ⟨ps', sz', o5', o7', a1, a2, a3, e2⟩ := head_loop (h := h) (c := c) hn (x0 := x0) (o6 := o6) (o8 := o8) m (i + 1) (ps ++ [(ns[i], t)]) (sz ++ [z]) (some (.int i)) o7a (by omega) (by simp [h2]) (by
      rw [List.take_add_one, hx, List.map_append, h3]; rfl) (by simp; omega)
    refine ⟨ps', sz', o5', o7', by omega, by rw [a2]; congr 1; omega, by omega, ?_⟩
    rw [List.range'_succ, List.map_cons, loopF, e1]
    exact e2
theorem sFor_ok {N : Nat} {mi : MI} {T : Tg} {b : MS} {ls : Loc} {h h1 : AH} {it : Itm} {r : OutS} (e : mi ls h = .ok it h1) (k : forL it T b N 0 ls h1 = r) : sFor N mi T b ls h = r := by
  rw [sFor_ap, e]; exact k
theorem eLc_ok {N : Nat} {mi : MI} {T : Tg} {vs : List Nat} {ct : MT} {me : ME} {ls l2 : Loc} {h h1 h2 : AH} {it : Itm} {us : List U} (e : mi ls h = .ok it h1) (el : wipeU ls vs = l2) (k : lcL it T ct me l2 N 0 [] h1 = .ok us h2) : eLc N mi T vs ct me ls h = .ok (.seq .lst us) h2 := by
  subst el
  rw [eLc_ap, e, Out.bind_ok, k, Out.bind_ok]
theorem sSet_ok {i : Nat} {m : ME} {ls l : Loc} {h h1 : AH} {u : U} (e : m ls h = .ok u h1) (el : ls.set i (some u) = l) : sSet i m ls h = .nx l h1 := by
  subst el
  rw [sSet_ap, e]; rfl
theorem m_head_is (S : SemT) : m_law_head S = sSeq (sSet 2 (eOp sMod (eVar 2) (eOp sPow (eC (.int 10)) (eC (.int 9))))) (sSeq (sSet 3 (eNew (aNil))) (sSeq (sSet 4 (eNew (aCons (eOp sMod (eOp sDiv (eVar 2) (eC (.int 81))) (eC (.int 4))) (aNil)))) (sSeq (sFor NN (iRange (eOp sAdd (eC (.int 1)) (eOp sMod (eOp sDiv (eVar 2) (eC (.int 7))) (eC (.int 3))))) (tgN 5) headB) (sSeq (sSet 6 (eOp sIx (eLst (aCons (eC (.str ("num" : Str))) (aCons (eC (.str ("list" : Str))) (aCons (eC (.str ("tree" : Str))) (aNil))))) (eOp sMod (eVar 2) (eC (.int 3))))) (sSeq (sIf (tst (eOp sEq (eVar 6) (eC (.str ("num" : Str))))) (sSet 4 (eLc NN (iSeq (eVar 4)) (tgN 8) [8] (cYes) (eC (.int 0)))) (sNil)) (sRet (eTup (aCons (eVar 0) (aCons (eCall bTuple (aCons (eVar 3) (aNil))) (aCons (eTup (aCons (eVar 6) (aCons (eCall bTuple (aCons (eVar 4) (aNil))) (aNil)))) (aNil))))))))))) := rfl
theorem f_head {k : Nat} {c : Int} {nm : Str} {ns : List Str} {h : AH} (ok : Okh h) (hn : 3 ≤ ns.length) : ∃ d : Fd, d.name = nm ∧ d.params ≠ [] ∧ d.params.length ≤ 3 ∧ d.params.map (·.1) = ns.take d.params.length ∧ sem (k + 1) .law_head [.str nm, .seq .lst (ns.map U.str), .int c] h = .ok (headU d) h := by
  have ep : ∀ H : AH, sPow (.int 10) (.int 9) H = .ok (.int M9) H := fun H => sPow10 (by decide) (by decide)
  have em : ∀ H : AH, sMod (.int c) (.int M9) H = .ok (.int (c % M9)) H := fun H => sMod_pos (by decide)
  generalize c % M9 = d at em
  have em81 : ∀ H : AH, sDiv (.int d) (.int 81) H = .ok (.int (d / 81)) H := fun H => sDiv_pos (by decide) (by decide)
  have em4 : ∀ H : AH, sMod (.int (d / 81)) (.int 4) H = .ok (.int (d / 81 % 4)) H := fun H => sMod_pos (by decide)
  have em7 : ∀ H : AH, sDiv (.int d) (.int 7) H = .ok (.int (d / 7)) H := fun H => sDiv_pos (by decide) (by decide)
  have em3 : ∀ H : AH, sMod (.int (d / 7)) (.int 3) H = .ok (.int (d / 7 % 3)) H := fun H => sMod_pos (by decide)
  have emg : ∀ H : AH, sMod (.int d) (.int 3) H = .ok (.int (d % 3)) H := fun H => sMod_pos (by decide)
  obtain ⟨m, hm, hm1, hm3⟩ : ∃ m : Nat, 1 + d / 7 % 3 = (m : Int) ∧ 1 ≤ m ∧ m ≤ 3 := ⟨(1 + d / 7 % 3).toNat, by omega, by omega, by omega⟩
  obtain ⟨g, hg⟩ : ∃ g : Ty, atI [U.str "num", U.str "list", U.str "tree"] (d % 3) = some g.u := ⟨_, ty_at _ (mod3 d)⟩
  obtain ⟨ps, sz, o5', o7', a1, a2, a3, el⟩ := head_loop (h := h) (c := d) hn (x0 := some (.str nm)) (o6 := none) (o8 := none) m 0 [] [d / 81 % 4] none none (by omega) rfl rfl (by simp)
  rw [Nat.zero_add] at a1 a2 a3
  have t0 : sSet 2 (eOp sMod (eVar 2) (eOp sPow (eC (.int 10)) (eC (.int 9)))) [some (.str nm), some (.seq .lst (ns.map U.str)), some (.int c), none, none, none, none, none, none] h = .nx [some (.str nm), some (.seq .lst (ns.map U.str)), some (.int d), none, none, none, none, none, none] h := by
    simp [-sIntC_int, ep, em]
  have t1 : sSet 3 (eNew (aNil)) [some (.str nm), some (.seq .lst (ns.map U.str)), some (.int d), none, none, none, none, none, none] h = .nx [some (.str nm), some (.seq .lst (ns.map U.str)), some (.int d), some (.obj h.length), none, none, none, none, none] (h ++ [.lst []]) := by simp
  have t2 : sSet 4 (eNew (aCons (eOp sMod (eOp sDiv (eVar 2) (eC (.int 81))) (eC (.int 4))) (aNil))) [some (.str nm), some (.seq .lst (ns.map U.str)), some (.int d), some (.obj h.length), none, none, none, none, none] (h ++ [.lst []]) = .nx [some (.str nm), some (.seq .lst (ns.map U.str)), some (.int d), some (.obj h.length), some (.obj (h.length + 1)), none, none, none, none] (hdH h [] [d / 81 % 4]) := by
    simp [-sIntC_int, em81, em4, hdH]
  have hir : iRange (eOp sAdd (eC (.int 1)) (eOp sMod (eOp sDiv (eVar 2) (eC (.int 7))) (eC (.int 3)))) [some (.str nm), some (.seq .lst (ns.map U.str)), some (.int d), some (.obj h.length), some (.obj (h.length + 1)), none, none, none, none] (hdH h [] [d / 81 % 4]) = .ok (itRange (m : Int)) (hdH h [] [d / 81 % 4]) := by
    refine y3 (by omega) ?_
    simp [-sIntC_int, em7, em3, hm]
  have t3 : sFor NN (iRange (eOp sAdd (eC (.int 1)) (eOp sMod (eOp sDiv (eVar 2) (eC (.int 7))) (eC (.int 3))))) (tgN 5) headB [some (.str nm), some (.seq .lst (ns.map U.str)), some (.int d), some (.obj h.length), some (.obj (h.length + 1)), none, none, none, none] (hdH h [] [d / 81 % 4]) = .nx [some (.str nm), some (.seq .lst (ns.map U.str)), some (.int d), some (.obj h.length), some (.obj (h.length + 1)), o5', none, o7', none] (hdH h ps sz) := by
    refine sFor_ok hir ?_
    rw [forL_of hit_range NN 0 _ _ (by simp) (by simp [NN]; omega), List.drop_zero, List.range_eq_range']
    exact el
  have t4 : sSet 6 (eOp sIx (eLst (aCons (eC (.str ("num" : Str))) (aCons (eC (.str ("list" : Str))) (aCons (eC (.str ("tree" : Str))) (aNil))))) (eOp sMod (eVar 2) (eC (.int 3)))) [some (.str nm), some (.seq .lst (ns.map U.str)), some (.int d), some (.obj h.length), some (.obj (h.length + 1)), o5', none, o7', none] (hdH h ps sz) = .nx [some (.str nm), some (.seq .lst (ns.map U.str)), some (.int d), some (.obj h.length), some (.obj (h.length + 1)), o5', some g.u, o7', none] (hdH h ps sz) := by
    simp [-sIntC_int, emg, hg]
  obtain ⟨w, sz', hw, t5⟩ : ∃ (w : U) (sz' : List Int), asSeq (hdH h ps sz) w = some (sz'.map U.int) ∧ sIf (tst (eOp sEq (eVar 6) (eC (.str ("num" : Str))))) (sSet 4 (eLc NN (iSeq (eVar 4)) (tgN 8) [8] (cYes) (eC (.int 0)))) (sNil) [some (.str nm), some (.seq .lst (ns.map U.str)), some (.int d), some (.obj h.length), some (.obj (h.length + 1)), o5', some g.u, o7', none] (hdH h ps sz) = .nx [some (.str nm), some (.seq .lst (ns.map U.str)), some (.int d), some (.obj h.length), some w, o5', some g.u, o7', none] (hdH h ps sz) := by
    by_cases hgn : g = .num
    · subst hgn
      refine ⟨.seq .lst (sz.map fun _ => .int 0), sz.map fun _ => 0, by simp [asSeq], ?_⟩
      have := lcL_map (it := itSeq (.obj (h.length + 1))) (T := tgN 8) (me := eC (.int 0)) (ls0 := [some (.str nm), some (.seq .lst (ns.map U.str)), some (.int d), some (.obj h.length), some (.obj (h.length + 1)), o5', some Ty.num.u, o7', none]) (us := sz.map U.int) (h := hdH h ps sz)
        (L := fun u => [some (.str nm), some (.seq .lst (ns.map U.str)), some (.int d), some (.obj h.length), some (.obj (h.length + 1)), o5', some Ty.num.u, o7', some u])
        (f := fun _ => .int 0) (fun j hj => by simp [itSeq, asSeq, hd_1]) (fun u _ => rfl) (fun u hu => rfl) (by simp; omega) NN 0 [] (by simp) (by simp [NN]; omega) rfl
      have e2 : eLc NN (iSeq (eVar 4)) (tgN 8) [8] (cYes) (eC (.int 0)) [some (.str nm), some (.seq .lst (ns.map U.str)), some (.int d), some (.obj h.length), some (.obj (h.length + 1)), o5', some Ty.num.u, o7', none] (hdH h ps sz) = .ok (.seq .lst (sz.map fun _ => .int 0)) (hdH h ps sz) := by
        refine eLc_ok (h1 := hdH h ps sz) (l2 := [some (.str nm), some (.seq .lst (ns.map U.str)), some (.int d), some (.obj h.length), some (.obj (h.length + 1)), o5', some Ty.num.u, o7', none]) (it := itSeq (.obj (h.length + 1))) (by simp [asSeq, hd_1]) rfl ?_
        rw [this]
        simp
      have e3 : ∀ H : AH, sEq Ty.num.u (.str ("num" : Str)) H = .ok (.bl true) H := fun H => by unfold Ty.u Ty.s; rw [sEq_str ok_num ok_num]; rfl
      simp [-eLc_ap, e3, e2]
    · refine ⟨.obj (h.length + 1), sz, by simp [asSeq, hd_1], ?_⟩
      have e3 : ∀ H : AH, sEq g.u (.str ("num" : Str)) H = .ok (.bl false) H := fun H => by
        cases g with
        | num => exact absurd rfl hgn
        | list => unfold Ty.u Ty.s; rw [sEq_str ok_list ok_num]; rfl
        | tree => unfold Ty.u Ty.s; rw [sEq_str ok_tree ok_num]; rfl
      simp [-eLc_ap, e3]
  refine ⟨⟨nm, ps, g, sz', .give .nil⟩, rfl, fun e => ?_, by show ps.length ≤ 3; omega, by show ps.map (·.1) = ns.take ps.length; rw [a2, a1], ?_⟩
  · have e : ps = [] := e
    rw [e] at a1; simp at a1; omega
  have t6 : sRet (eTup (aCons (eVar 0) (aCons (eCall bTuple (aCons (eVar 3) (aNil))) (aCons (eTup (aCons (eVar 6) (aCons (eCall bTuple (aCons (eVar 4) (aNil))) (aNil)))) (aNil))))) [some (.str nm), some (.seq .lst (ns.map U.str)), some (.int d), some (.obj h.length), some w, o5', some g.u, o7', none] (hdH h ps sz) = .rt (headU ⟨nm, ps, g, sz', .give .nil⟩) (hdH h ps sz) := by
    have b0 : bTuple [.obj h.length] (hdH h ps sz) = .ok (.seq .tup (ps.map prmU)) (hdH h ps sz) := by simp [bTuple, asSeq, hd_0]
    have b1 : bTuple [w] (hdH h ps sz) = .ok (.seq .tup (sz'.map U.int)) (hdH h ps sz) := by simp [bTuple, hw]
    simp [b0, b1, headU, Fd.head]
  have e : runB 9 (m_law_head (sem k)) [.str nm, .seq .lst (ns.map U.str), .int c] h = .ok (headU ⟨nm, ps, g, sz', .give .nil⟩) (hdH h ps sz) := by
    rw [m_head_is, runB_ap]
    have e9 : ([U.str nm, U.seq .lst (ns.map U.str), U.int c].map some ++ List.replicate (9 - [U.str nm, U.seq .lst (ns.map U.str), U.int c].length) none : Loc) = [some (.str nm), some (.seq .lst (ns.map U.str)), some (.int c), none, none, none, none, none, none] := rfl
    rw [e9, sSeq_nx t0, sSeq_nx t1, sSeq_nx t2, sSeq_nx t3, sSeq_nx t4, sSeq_nx t5, t6]
    rfl
  have e0 : ∀ us H, sem (k + 1) .law_head us H = Wk.runC 9 (m_law_head (sem k)) us H := fun us H => rfl
  rw [e0, runC_ap, e]
  exact clean_app rfl ok (below_pure _ (headU_pure _))
end Wk
set_option maxRecDepth 100000
set_option maxHeartbeats 400000
/-! P34: the drawn expressions. -/
namespace Wk
open PySem PySem.Spec PyProof.Rows L2

/-- what stands there -/
structure ScOk (sc : List (Str × Ty)) (G : Gam) : Prop where
  at_ : ∀ q ∈ sc, G q.1 = some q.2
  no : ∀ x, x ∉ sc.map (·.1) → G x = none
def SigOk (hs : List Fd) (F : Sig) : Prop := ∀ d ∈ hs, F d.name = some (d.params.map (·.2), d.gives)
def ETy (hs : List Fd) (sc : List (Str × Ty)) (e : Ex) (t : Ty) : Prop := ∀ F G, SigOk hs F → ScOk sc G → tyE F G e t
def ETys (hs : List Fd) (sc : List (Str × Ty)) (es : List Ex) (ts : List Ty) : Prop := ∀ F G, SigOk hs F → ScOk sc G → tyEs F G es ts
theorem compF_filter {X : Type} {φ : X → U} {c : U → AH → Out Bool} {f : U → AH → Out U} {h : AH} {p : X → Bool} {g : X → U} (hc : ∀ x, c (φ x) h = .ok (p x) h) (hf : ∀ x, f (φ x) h = .ok (g x) h) : ∀ (xs : List X) (acc : List U), acc.length + xs.length ≤ 999 → compF c f (xs.map φ) acc h = .ok (acc ++ (xs.filter p).map g) h
  | [], acc, _ => by simp [compF]
  | x :: xs, acc, hl => by
    rw [List.length_cons] at hl
    rw [List.map_cons, compF, hc, Out.bind_ok]
    cases hp : p x with
    | false =>
      rw [if_neg (by simp), compF_filter hc hf xs acc (by omega), List.filter_cons_of_neg (by simp [hp])]
    | true =>
      rw [if_pos rfl, hf, Out.bind_ok, if_pos (by omega), compF_filter hc hf xs (acc ++ [g x]) (by simp; omega), List.filter_cons_of_pos hp, List.map_cons, List.append_assoc]
      rfl
theorem compF_chain {X : Type} {φ : X → U} {τ : X → Ty} {c : U → AH → Out Bool} {f : U → AH → Out U} {H : Nat → AH} {hs : List Fd} {sc : List (Str × Ty)} {n : Nat} (hc : ∀ u h, c u h = .ok true h) (hf : ∀ x pos, ∃ e pos', ETy hs sc e (τ x) ∧ e.dep ≤ n ∧ f (φ x) (H pos) = .ok e.u (H pos')) :
    ∀ (xs : List X) (acc : List U) (pos : Nat), acc.length + xs.length ≤ 999 → ∃ es pos', es.length = xs.length ∧ ETys hs sc es (xs.map τ) ∧ Ex.deps es ≤ n ∧ compF c f (xs.map φ) acc (H pos) = .ok (acc ++ Ex.us es) (H pos')
  | [], acc, pos, _ => ⟨[], pos, rfl, fun F G _ _ => by simp [tyEs], by simp [Ex.deps], by simp [compF, Ex.us]⟩
  | x :: xs, acc, pos, hl => by
    rw [List.length_cons] at hl
    obtain ⟨e, p1, h1, h2, h3⟩ := hf x pos
    obtain ⟨es, p2, h4, h5, h6, h7⟩ := compF_chain hc hf xs (acc ++ [e.u]) p1 (by simp; omega)
    refine ⟨e :: es, p2, by simp [h4], fun F G a b => ?_, by simp [Ex.deps]; omega, ?_⟩
    · simp only [List.map_cons, tyEs]
      exact ⟨_, _, rfl, h1 F G a b, h5 F G a b⟩
    · rw [List.map_cons, compF, hc, Out.bind_ok, if_pos rfl, h3, Out.bind_ok, if_pos (by omega), h7, List.append_assoc]
      rfl
theorem compF_congr {c c' : U → AH → Out Bool} {f f' : U → AH → Out U} : ∀ {us acc : List U} {h : AH}, (∀ u ∈ us, ∀ h, c u h = c' u h) → (∀ u ∈ us, ∀ h, f u h = f' u h) → compF c f us acc h = compF c' f' us acc h
  | [], acc, h, _, _ => rfl
  | u :: us, acc, h, hc, hf => by
    have ih := fun acc h => compF_congr (us := us) (acc := acc) (h := h) (fun u hu => hc u (by simp [hu])) (fun u hu => hf u (by simp [hu]))
    simp only [compF, hc u (by simp), hf u (by simp), ih]
theorem pick_at {X : Type} {φ : X → U} {xs : List X} {c : Int} (hx : xs ≠ []) : ∃ x ∈ xs, atI (xs.map φ) (c % (xs.length : Int)) = some (φ x) := by
  have hl : 0 < xs.length := (List.length_pos_iff.mpr hx)
  have h0 := Int.emod_nonneg c (show (xs.length : Int) ≠ 0 by omega)
  have h1 := Int.emod_lt_of_pos c (show (0 : Int) < xs.length by omega)
  obtain ⟨n, hn⟩ : ∃ n : Nat, c % (xs.length : Int) = n := ⟨(c % (xs.length : Int)).toNat, by omega⟩
  rw [hn] at h1 ⊢
  have hnl : n < xs.length := by omega
  exact ⟨xs[n], List.getElem_mem hnl, atI_ofNat (by rw [List.getElem?_map, List.getElem?_eq_getElem hnl]; rfl)⟩
theorem sEq_ty {a b : Ty} {H : AH} : sEq a.u b.u H = .ok (.bl (decide (a = b))) H := by
  have hs : ∀ t : Ty, PyData.strOk t.s = true := fun t => by cases t <;> simp [Ty.s]
  unfold Ty.u
  rw [sEq_str (hs a) (hs b)]
  congr 2
  cases a <;> cases b <;> rfl
theorem sSeq_rt {a b : MS} {ls : Loc} {h k : AH} {u : U} (e : a ls h = .rt u k) : sSeq a b ls h = .rt u k := by rw [sSeq_ap, e]
def pick3 (t : Ty) (a b c : U) : U := match t with
  | .num => a
  | .list => b
  | .tree => c
theorem disp3 {t : Ty} {ma mb mc mk : ME} {ls : Loc} {h : AH} {ua ub uc : U} (ha : ma ls h = .ok ua h) (hb : mb ls h = .ok ub h) (hc : mc ls h = .ok uc h) (hk : mk ls h = .ok t.u h) :
    eDispGet [(("num" : Str), ma), (("list" : Str), mb), (("tree" : Str), mc)] mk ls h = .ok (pick3 t ua ub uc) h := by
  unfold eDispGet
  simp only [dispL, ha, hb, hc, hk, Out.bind_ok]
  cases t <;> rfl
theorem disp2 {t : Ty} {mb mc mk : ME} {ls : Loc} {h : AH} {ub uc : U} (hn : t ≠ .num) (hb : mb ls h = .ok ub h) (hc : mc ls h = .ok uc h) (hk : mk ls h = .ok t.u h) :
    eDispGet [(("list" : Str), mb), (("tree" : Str), mc)] mk ls h = .ok (pick3 t .non ub uc) h := by
  unfold eDispGet
  simp only [dispL, hb, hc, hk, Out.bind_ok]
  cases t with
  | num => exact absurd rfl hn
  | list => rfl
  | tree => rfl
/-! ### the statements -/
def exA (S : SemT) : MS := sIf (tAndM (tst (eOp sLt (eVar 2) (eC (.int 3)))) (tAndM (tst (eOp sEq (eVar 5) (eC (.int 3)))) (tst (eOp sGt (eCall bLen (aCons (eVar 7) (aNil))) (eC (.int 0)))))) (sSeq (sSet 8 (eOp sIx (eVar 7) (eOp sMod (eVar 4) (eCall bLen (aCons (eVar 7) (aNil)))))) (sRet (eTup (aCons (eC (.str ("call" : Str))) (aCons (eOp sIx (eVar 8) (eC (.int 0))) (aCons (eCall bTuple (aCons (eLc NN (iSeq (eOp sIx (eVar 8) (eC (.int 1)))) (tgT [11, 12]) [11, 12] (cYes) (eCall (arity 4 (S .law_expression)) (aCons (eVar 0) (aCons (eVar 1) (aCons (eOp sAdd (eVar 2) (eC (.int 1))) (aCons (eVar 12) (aNil))))))) (aNil))) (aNil))))))) (sNil)
def exB (S : SemT) : MS := sIf (tAndM (tst (eOp sLt (eVar 2) (eC (.int 3)))) (tst (eOp sIn (eVar 5) (eTup (aCons (eC (.int 2)) (aCons (eC (.int 4)) (aNil))))))) (sSeq (sSet 9 (eDispGet [(("num" : Str), eLst (aCons (eC (.str ("num" : Str))) (aCons (eC (.str ("num" : Str))) (aNil)))), (("list" : Str), eLst (aCons (eC (.str ("num" : Str))) (aCons (eC (.str ("list" : Str))) (aNil)))), (("tree" : Str), eLst (aCons (eC (.str ("tree" : Str))) (aCons (eC (.str ("num" : Str))) (aCons (eC (.str ("tree" : Str))) (aNil)))))] (eVar 3))) (sSeq (sSet 10 (eDispGet [(("num" : Str), eOp sIx (eLst (aCons (eC (.str ("add" : Str))) (aCons (eC (.str ("sub" : Str))) (aNil)))) (eOp sMod (eVar 4) (eC (.int 2)))), (("list" : Str), eC (.str ("cons" : Str))), (("tree" : Str), eC (.str ("node" : Str)))] (eVar 3))) (sRet (eOp sAdd (eTup (aCons (eVar 10) (aNil))) (eCall bTuple (aCons (eLc NN (iSeq (eVar 9)) (tgN 12) [12] (cYes) (eCall (arity 4 (S .law_expression)) (aCons (eVar 0) (aCons (eVar 1) (aCons (eOp sAdd (eVar 2) (eC (.int 1))) (aCons (eVar 12) (aNil))))))) (aNil))))))) (sNil)
def exC : MS := sIf (tAndM (tst (eOp sNe (eVar 5) (eC (.int 1)))) (tst (eOp sGt (eCall bLen (aCons (eVar 6) (aNil))) (eC (.int 0))))) (sRet (eTup (aCons (eC (.str ("var" : Str))) (aCons (eOp sIx (eVar 6) (eOp sMod (eVar 4) (eCall bLen (aCons (eVar 6) (aNil))))) (aNil))))) (sNil)
def exD : MS := sIf (tst (eOp sEq (eVar 3) (eC (.str ("num" : Str))))) (sRet (eTup (aCons (eC (.str ("num" : Str))) (aCons (eOp sMul (eOp sDiv (eVar 4) (eC (.int 2))) (eOp sSub (eC (.int 1)) (eOp sMul (eC (.int 2)) (eOp sMod (eVar 4) (eC (.int 2)))))) (aNil))))) (sNil)
def exE : MS := sRet (eOp sIx (eLst (aCons (eTup (aCons (eC (.str ("nil" : Str))) (aNil))) (aCons (eTup (aCons (eC (.str ("leaf" : Str))) (aNil))) (aNil)))) (eCall bInt (aCons (eOp sEq (eVar 3) (eC (.str ("tree" : Str)))) (aNil))))
def exS : MS := sSet 6 (eLc NN (iSeq (eVar 1)) (tgT [11, 12]) [11, 12] (tst (eOp sEq (eVar 12) (eVar 3))) (eVar 11))
def exH : MS := sSet 7 (eLc NN (iSeq (eOp sIx (eVar 0) (eC (.int 3)))) (tgN 8) [8] (tst (eOp sEq (eOp sIx (eOp sIx (eVar 8) (eC (.int 2))) (eC (.int 0))) (eVar 3))) (eVar 8))
theorem m_expr_is (S : SemT) : m_law_expression S = sSeq (sSet 4 (eCall (arity 1 (S .law_take)) (aCons (eVar 0) (aNil)))) (sSeq (sSet 5 (eOp sMod (eVar 4) (eC (.int 5)))) (sSeq (sSet 4 (eOp sDiv (eVar 4) (eC (.int 5)))) (sSeq exS (sSeq exH (sSeq (exA S) (sSeq (exB S) (sSeq exC (sSeq exD exE)))))))) := rfl
section
variable {sc : List (Str × Ty)} {t : Ty} {a0 a4 a5 a6 a7 a8 a9 a10 a11 a12 : Option U} {deep : Nat} {h : AH}
theorem exS_do (hl : sc.length ≤ 900) : exS [a0, some (.seq .lst (sc.map prmU)), some (.int deep), some t.u, a4, a5, none, none, none, none, none, none, none] h = .nx [a0, some (.seq .lst (sc.map prmU)), some (.int deep), some t.u, a4, a5, some (.seq .lst ((sc.filter fun q => decide (q.2 = t)).map fun q => U.str q.1)), none, none, none, none, none, none] h := by
  unfold exS
  refine sSet_ok (eLc_ok (l2 := [a0, some (.seq .lst (sc.map prmU)), some (.int deep), some t.u, a4, a5, none, none, none, none, none, none, none]) (it := itSeq (.seq .lst (sc.map prmU))) rfl rfl ?_) rfl
  rw [lcL_of (L := fun u => match u with
    | .seq .tup [x, y] => [a0, some (.seq .lst (sc.map prmU)), some (.int deep), some t.u, a4, a5, none, none, none, none, none, some x, some y]
    | _ => []) (hit_seq (k := .lst) (us := sc.map prmU)) (fun u hu h => by
      obtain ⟨q, hq, rfl⟩ := List.mem_map.mp hu
      rfl) NN 0 [] h (by simp) (by simp [NN]; omega), List.drop_zero]
  exact compF_filter (φ := prmU) (p := fun q => decide (q.2 = t)) (g := fun q => U.str q.1) (fun q => by
    simp only [prmU, tst_ap, eOp_ap, eVar_ap, List.getElem?_cons_succ, List.getElem?_cons_zero, Out.bind_ok, sEq_ty]) (fun q => rfl) sc [] (by simp; omega)
end
end Wk
set_option maxRecDepth 100000
set_option maxHeartbeats 400000
/-! P35: the drawn expressions, walked. -/
namespace Wk
open PySem PySem.Spec PyProof.Rows L2

section
variable {G : AH} {p pos : Nat} {cells : List Int} {nm : U} {hs : List Fd} {sc : List (Str × Ty)} {t : Ty} {a0 a1 a4 a5 a6 a7 a8 a9 a10 a11 a12 : Option U} {deep : Nat} {h : AH}
theorem st_ix3 {hd : U} (hp : p < G.length) : sIx (.obj p) (.int 3) (stG G p cells nm hd pos) = .ok hd (stG G p cells nm hd pos) := by
  simp [sIx, asSeq, stG_at hp]
theorem st_ix2 {hd : U} (hp : p < G.length) : sIx (.obj p) (.int 2) (stG G p cells nm hd pos) = .ok nm (stG G p cells nm hd pos) := by
  simp [sIx, asSeq, stG_at hp]
theorem exH_do (hp : p < G.length) (hl : hs.length ≤ 900) : exH [some (.obj p), a1, some (.int deep), some t.u, a4, a5, a6, none, none, none, none, none, none] (stG G p cells nm (.seq .lst (hs.map headU)) pos) = .nx [some (.obj p), a1, some (.int deep), some t.u, a4, a5, a6, some (.seq .lst ((hs.filter fun d => decide (d.gives = t)).map headU)), none, none, none, none, none] (stG G p cells nm (.seq .lst (hs.map headU)) pos) := by
  unfold exH
  have e3 := st_ix3 (cells := cells) (nm := nm) (hd := .seq .lst (hs.map headU)) (pos := pos) hp
  refine sSet_ok (eLc_ok (l2 := [some (.obj p), a1, some (.int deep), some t.u, a4, a5, a6, none, none, none, none, none, none]) (h1 := stG G p cells nm (.seq .lst (hs.map headU)) pos) (it := itSeq (.seq .lst (hs.map headU))) ?_ rfl ?_) rfl
  · simp [e3, asSeq]
  rw [lcL_of (L := fun u => [some (.obj p), a1, some (.int deep), some t.u, a4, a5, a6, none, some u, none, none, none, none]) (hit_seq (k := .lst) (us := hs.map headU)) (fun u hu h => rfl) NN 0 [] _ (by simp) (by simp [NN]; omega), List.drop_zero]
  exact compF_filter (φ := headU) (p := fun d => decide (d.gives = t)) (g := headU) (fun d => by
    simp [headU, Fd.head, sEq_ty]) (fun d => rfl) hs [] (by simp; omega)
theorem exA_no {S : SemT} {w : Int} {xs : List U} (hn : ¬ deep < 3 ∨ w ≠ 3 ∨ xs = []) : exA S [a0, a1, some (.int deep), some t.u, a4, some (.int w), a6, some (.seq .lst xs), a8, a9, a10, a11, a12] h = .nx [a0, a1, some (.int deep), some t.u, a4, some (.int w), a6, some (.seq .lst xs), a8, a9, a10, a11, a12] h := by
  unfold exA
  have hc : (tAndM (tst (eOp sLt (eVar 2) (eC (.int 3)))) (tAndM (tst (eOp sEq (eVar 5) (eC (.int 3)))) (tst (eOp sGt (eCall bLen (aCons (eVar 7) (aNil))) (eC (.int 0)))))) [a0, a1, some (.int deep), some t.u, a4, some (.int w), a6, some (.seq .lst xs), a8, a9, a10, a11, a12] h = .ok false h := by
    by_cases h1 : (deep : Int) < 3
    · by_cases h2 : w = 3
      · have h3 : xs = [] := by
          rcases hn with z | z | z
          · omega
          · exact absurd h2 z
          · exact z
        subst h3
        simp [h1, h2, sEq_int, bLen, asSeq]
      · simp [h1, h2, sEq_int]
    · simp [h1]
  rw [sIf_ap, hc]
  rfl
theorem exB_no {S : SemT} {w : Int} (hn : ¬ deep < 3 ∨ (w ≠ 2 ∧ w ≠ 4)) : exB S [a0, a1, some (.int deep), some t.u, a4, some (.int w), a6, a7, a8, a9, a10, a11, a12] h = .nx [a0, a1, some (.int deep), some t.u, a4, some (.int w), a6, a7, a8, a9, a10, a11, a12] h := by
  unfold exB
  have hc : (tAndM (tst (eOp sLt (eVar 2) (eC (.int 3)))) (tst (eOp sIn (eVar 5) (eTup (aCons (eC (.int 2)) (aCons (eC (.int 4)) (aNil))))))) [a0, a1, some (.int deep), some t.u, a4, some (.int w), a6, a7, a8, a9, a10, a11, a12] h = .ok false h := by
    by_cases h1 : (deep : Int) < 3
    · have h2 : w ≠ 2 ∧ w ≠ 4 := by
        rcases hn with z | z
        · omega
        · exact z
      simp [h1, sIn_int2, Ne.symm h2.1, Ne.symm h2.2]
    · simp [h1]
  rw [sIf_ap, hc]
  rfl
theorem exC_no {w : Int} {xs : List U} (hn : w = 1 ∨ xs = []) : exC [a0, a1, some (.int deep), some t.u, a4, some (.int w), some (.seq .lst xs), a7, a8, a9, a10, a11, a12] h = .nx [a0, a1, some (.int deep), some t.u, a4, some (.int w), some (.seq .lst xs), a7, a8, a9, a10, a11, a12] h := by
  unfold exC
  have hc : (tAndM (tst (eOp sNe (eVar 5) (eC (.int 1)))) (tst (eOp sGt (eCall bLen (aCons (eVar 6) (aNil))) (eC (.int 0))))) [a0, a1, some (.int deep), some t.u, a4, some (.int w), some (.seq .lst xs), a7, a8, a9, a10, a11, a12] h = .ok false h := by
    by_cases h2 : w = 1
    · simp [h2, sNe_int]
    · have h3 : xs = [] := by
        rcases hn with z | z
        · exact absurd z h2
        · exact z
      subst h3
      simp [h2, sNe_int, bLen, asSeq]
  rw [sIf_ap, hc]
  rfl
theorem exC_yes {w c : Int} {xs : List (Str × Ty)} (h1 : w ≠ 1) (h2 : xs ≠ []) : ∃ q ∈ xs, exC [a0, a1, some (.int deep), some t.u, some (.int c), some (.int w), some (.seq .lst (xs.map fun q => U.str q.1)), a7, a8, a9, a10, a11, a12] h = .rt (Ex.var q.1).u h := by
  obtain ⟨q, hq, e⟩ := pick_at (φ := fun q : Str × Ty => U.str q.1) (c := c) h2
  refine ⟨q, hq, ?_⟩
  have hl : 0 < xs.length := (List.length_pos_iff.mpr h2)
  have em : ∀ H : AH, sMod (.int c) (.int (xs.length : Int)) H = .ok (.int (c % (xs.length : Int))) H := fun H => sMod_pos (by omega)
  have hli : (0 : Int) < (xs.length : Int) := by omega
  unfold exC
  simp [-sIntC_int, h1, sNe_int, bLen, asSeq, hl, em, e, Ex.u]
theorem exD_no (hn : t ≠ .num) : exD [a0, a1, some (.int deep), some t.u, a4, a5, a6, a7, a8, a9, a10, a11, a12] h = .nx [a0, a1, some (.int deep), some t.u, a4, a5, a6, a7, a8, a9, a10, a11, a12] h := by
  unfold exD
  have e : ∀ H : AH, sEq t.u (.str ("num" : Str)) H = .ok (.bl false) H := fun H => by
    have := sEq_ty (a := t) (b := .num) (H := H)
    rw [show decide (t = Ty.num) = false from by simpa using hn] at this
    exact this
  simp [e]
theorem exD_yes {c : Int} : ∃ i : Int, exD [a0, a1, some (.int deep), some Ty.num.u, some (.int c), a5, a6, a7, a8, a9, a10, a11, a12] h = .rt (Ex.num i).u h := by
  unfold exD
  have e : ∀ H : AH, sEq Ty.num.u (.str ("num" : Str)) H = .ok (.bl true) H := fun H => sEq_ty (a := .num) (b := .num)
  have e1 : ∀ H : AH, sDiv (.int c) (.int 2) H = .ok (.int (c / 2)) H := fun H => sDiv_pos (by decide) (by decide)
  have e2 : ∀ H : AH, sMod (.int c) (.int 2) H = .ok (.int (c % 2)) H := fun H => sMod_pos (by decide)
  have e3 : ∀ H : AH, sMul (.int 2) (.int (c % 2)) H = .ok (.int (2 * (c % 2))) H := fun H => sMul_l (by decide) (by decide)
  have e4 : ∀ H : AH, sMul (.int (c / 2)) (.int (1 - 2 * (c % 2))) H = .ok (.int (c / 2 * (1 - 2 * (c % 2)))) H := fun H => sMul_r (by omega) (by omega)
  have e5 : ∀ (i j : Int) (H : AH), sSub (.int i) (.int j) H = .ok (.int (i - j)) H := fun _ _ _ => rfl
  refine ⟨c / 2 * (1 - 2 * (c % 2)), ?_⟩
  simp [-sIntC_int, e, e1, e2, e3, e4, e5, Ex.u]
theorem exE_do (hn : t ≠ .num) : exE [a0, a1, some (.int deep), some t.u, a4, a5, a6, a7, a8, a9, a10, a11, a12] h = .rt (match t with | .tree => Ex.leaf.u | _ => Ex.nil.u) h := by
  unfold exE
  have e : ∀ H : AH, sEq t.u (.str ("tree" : Str)) H = .ok (.bl (decide (t = .tree))) H := fun H => sEq_ty (a := t) (b := .tree)
  cases t with
  | num => exact absurd rfl hn
  | list => simp [e, bInt, Ex.u]
  | tree => simp [e, bInt, Ex.u]
end
end Wk
set_option maxRecDepth 100000
set_option maxHeartbeats 400000
/-! P36: the drawn expressions, whole. -/
namespace Wk
open PySem PySem.Spec PyProof.Rows L2

def kindsOf : Ty → List Ty
  | .num => [.num, .num]
  | .list => [.num, .list]
  | .tree => [.tree, .num, .tree]
theorem sAdd_tup1 {x : U} {ys : List U} {H : AH} (hl : ys.length ≤ 900) : sAdd (.seq .tup [x]) (.seq .tup ys) H = .ok (.seq .tup (x :: ys)) H := by
  show (if [x] ≠ [] ∧ [x].length + ys.length ≤ 1000 then _ else _) = _
  rw [if_pos ⟨by simp, by simp; omega⟩]
  rfl
theorem us_len : ∀ es : List Ex, (Ex.us es).length = es.length
  | [] => rfl
  | e :: es => by simp [Ex.us, us_len es]
theorem tyEs_2 {F : Sig} {G : Gam} {a b : Ex} {s t : Ty} : tyEs F G [a, b] [s, t] = (tyE F G a s ∧ tyE F G b t) := by
  refine propext ⟨fun h => ?_, fun h => ?_⟩
  · simp only [tyEs] at h
    obtain ⟨_, _, e1, h1, _, _, e2, h2, h3⟩ := h
    cases e1; cases e2
    exact ⟨h1, h2⟩
  · simp only [tyEs]
    exact ⟨_, _, rfl, h.1, _, _, rfl, h.2, rfl⟩
theorem tyEs_3 {F : Sig} {G : Gam} {a b c : Ex} {r s t : Ty} : tyEs F G [a, b, c] [r, s, t] = (tyE F G a r ∧ tyE F G b s ∧ tyE F G c t) := by
  refine propext ⟨fun h => ?_, fun h => ?_⟩
  · simp only [tyEs] at h
    obtain ⟨_, _, e1, h1, _, _, e2, h2, _, _, e3, h3, h4⟩ := h
    cases e1; cases e2; cases e3
    exact ⟨h1, h2, h3⟩
  · simp only [tyEs]
    exact ⟨_, _, rfl, h.1, _, _, rfl, h.2.1, _, _, rfl, h.2.2, rfl⟩
section
variable {G : AH} {p : Nat} {cells : List Int} {nm : U} {hs : List Fd} {sc : List (Str × Ty)} {deep n : Nat} {S : SemT}
theorem exA_yes {t : Ty} {c : Int} {pos : Nat} {a6 : Option U} (h1 : deep < 3) (hf : ∀ d ∈ hs, d.params.length ≤ 3) (hx : (hs.filter fun d => decide (d.gives = t)) ≠ [])
    (hE : ∀ t pos, ∃ e pos', ETy hs sc e t ∧ e.dep ≤ n ∧ S .law_expression [.obj p, .seq .lst (sc.map prmU), .int ((deep : Int) + 1), t.u] (stG G p cells nm (.seq .lst (hs.map headU)) pos) = .ok e.u (stG G p cells nm (.seq .lst (hs.map headU)) pos')) :
    ∃ e pos', ETy hs sc e t ∧ e.dep ≤ n + 1 ∧ exA S [some (.obj p), some (.seq .lst (sc.map prmU)), some (.int deep), some t.u, some (.int c), some (.int 3), a6, some (.seq .lst ((hs.filter fun d => decide (d.gives = t)).map headU)), none, none, none, none, none] (stG G p cells nm (.seq .lst (hs.map headU)) pos) = .rt e.u (stG G p cells nm (.seq .lst (hs.map headU)) pos') := by
  obtain ⟨d, hd, e⟩ := pick_at (φ := headU) (c := c) hx
  obtain ⟨hd1, hd2⟩ := List.mem_filter.mp hd
  have hd2 : d.gives = t := by simpa using hd2
  have hd3 := hf d hd1
  generalize hxs : (hs.filter fun d => decide (d.gives = t)) = xs at e hx
  have hl : 0 < xs.length := (List.length_pos_iff.mpr hx)
  have hli : (0 : Int) < (xs.length : Int) := by omega
  have em : ∀ H : AH, sMod (.int c) (.int (xs.length : Int)) H = .ok (.int (c % (xs.length : Int))) H := fun H => sMod_pos (by omega)
  have h1i : (deep : Int) < 3 := by omega
  generalize hst : (fun pos => stG G p cells nm (.seq .lst (hs.map headU)) pos) = st at *
  have hst' : ∀ pos, stG G p cells nm (.seq .lst (hs.map headU)) pos = st pos := fun pos => by rw [← hst]
  simp only [hst'] at hE ⊢
  obtain ⟨es, pos', k1, k2, k3, k4⟩ := compF_chain (φ := prmU) (τ := fun q : Str × Ty => q.2) (c := fun _ h => .ok true h) (hs := hs) (sc := sc) (n := n) (H := st) (f := fun u h => match u with
    | .seq .tup [x, y] => S .law_expression [.obj p, .seq .lst (sc.map prmU), .int ((deep : Int) + 1), y] h
    | _ => .bad) (fun _ _ => rfl) (fun q pos => hE q.2 pos) d.params [] pos (by simp; omega)
  refine ⟨.call d.name es, pos', fun F G' hF hG => ?_, by simp [Ex.dep]; omega, ?_⟩
  · simp only [tyE]
    exact ⟨_, by rw [hF d hd1, hd2], k2 F G' hF hG⟩
  have t1 : sSet 8 (eOp sIx (eVar 7) (eOp sMod (eVar 4) (eCall bLen (aCons (eVar 7) (aNil))))) [some (.obj p), some (.seq .lst (sc.map prmU)), some (.int deep), some t.u, some (.int c), some (.int 3), a6, some (.seq .lst (xs.map headU)), none, none, none, none, none] (st pos) = .nx [some (.obj p), some (.seq .lst (sc.map prmU)), some (.int deep), some t.u, some (.int c), some (.int 3), a6, some (.seq .lst (xs.map headU)), some (headU d), none, none, none, none] (st pos) := by
    simp [-sIntC_int, bLen, asSeq, em, e]
  have ec : eLc NN (iSeq (eOp sIx (eVar 8) (eC (.int 1)))) (tgT [11, 12]) [11, 12] (cYes) (eCall (arity 4 (S .law_expression)) (aCons (eVar 0) (aCons (eVar 1) (aCons (eOp sAdd (eVar 2) (eC (.int 1))) (aCons (eVar 12) (aNil)))))) [some (.obj p), some (.seq .lst (sc.map prmU)), some (.int deep), some t.u, some (.int c), some (.int 3), a6, some (.seq .lst (xs.map headU)), some (headU d), none, none, none, none] (st pos) = .ok (.seq .lst (Ex.us es)) (st pos') := by
    refine eLc_ok (l2 := [some (.obj p), some (.seq .lst (sc.map prmU)), some (.int deep), some t.u, some (.int c), some (.int 3), a6, some (.seq .lst (xs.map headU)), some (headU d), none, none, none, none]) (it := itSeq (.seq .tup (d.params.map prmU))) rfl rfl ?_
    rw [lcL_of (L := fun u => match u with
      | .seq .tup [x, y] => [some (.obj p), some (.seq .lst (sc.map prmU)), some (.int deep), some t.u, some (.int c), some (.int 3), a6, some (.seq .lst (xs.map headU)), some (headU d), none, none, some x, some y]
      | _ => []) (hit_seq (k := .tup) (us := d.params.map prmU)) (fun u hu h => by
        obtain ⟨q, hq, rfl⟩ := List.mem_map.mp hu
        rfl) NN 0 [] _ (by simp) (by simp [NN]; omega), List.drop_zero]
    rw [← List.nil_append (Ex.us es), ← k4]
    refine compF_congr (fun u hu h => rfl) (fun u hu h => ?_)
    obtain ⟨q, hq, rfl⟩ := List.mem_map.mp hu
    rfl
  unfold exA
  rw [sIf_ap]
  have hc : (tAndM (tst (eOp sLt (eVar 2) (eC (.int 3)))) (tAndM (tst (eOp sEq (eVar 5) (eC (.int 3)))) (tst (eOp sGt (eCall bLen (aCons (eVar 7) (aNil))) (eC (.int 0)))))) [some (.obj p), some (.seq .lst (sc.map prmU)), some (.int deep), some t.u, some (.int c), some (.int 3), a6, some (.seq .lst (xs.map headU)), none, none, none, none, none] (st pos) = .ok true (st pos) := by
    simp [h1i, sEq_int, bLen, asSeq, hl]
  rw [hc]
  show sSeq _ _ _ _ = _
  rw [sSeq_nx t1]
  have b1 : bTuple [.seq .lst (Ex.us es)] (st pos') = .ok (.seq .tup (Ex.us es)) (st pos') := rfl
  have i0 : ∀ H : AH, sIx (headU d) (.int 0) H = .ok (.str d.name) H := fun H => by simp [headU, Fd.head]
  generalize headU d = du at ec i0
  simp [-eLc_ap, ec, b1, i0, Ex.u]
theorem exB_yes {t : Ty} {c w : Int} {pos : Nat} {a6 a7 : Option U} (h1 : deep < 3) (hw : w = 2 ∨ w = 4)
    (hE : ∀ t pos, ∃ e pos', ETy hs sc e t ∧ e.dep ≤ n ∧ S .law_expression [.obj p, .seq .lst (sc.map prmU), .int ((deep : Int) + 1), t.u] (stG G p cells nm (.seq .lst (hs.map headU)) pos) = .ok e.u (stG G p cells nm (.seq .lst (hs.map headU)) pos')) :
    ∃ e pos', ETy hs sc e t ∧ e.dep ≤ n + 1 ∧ exB S [some (.obj p), some (.seq .lst (sc.map prmU)), some (.int deep), some t.u, some (.int c), some (.int w), a6, a7, none, none, none, none, none] (stG G p cells nm (.seq .lst (hs.map headU)) pos) = .rt e.u (stG G p cells nm (.seq .lst (hs.map headU)) pos') := by
  have h1i : (deep : Int) < 3 := by omega
  generalize hst : (fun pos => stG G p cells nm (.seq .lst (hs.map headU)) pos) = st at *
  have hst' : ∀ pos, stG G p cells nm (.seq .lst (hs.map headU)) pos = st pos := fun pos => by rw [← hst]
  simp only [hst'] at hE ⊢
  obtain ⟨es, pos', k1, k2, k3, k4⟩ := compF_chain (φ := Ty.u) (τ := fun q : Ty => q) (c := fun _ h => .ok true h) (hs := hs) (sc := sc) (n := n) (H := st) (f := fun u h => S .law_expression [.obj p, .seq .lst (sc.map prmU), .int ((deep : Int) + 1), u] h) (fun _ _ => rfl) (fun q pos => hE q pos) (kindsOf t) [] pos (by cases t <;> simp [kindsOf])
  rw [List.map_id'] at k2
  have em : ∀ H : AH, sMod (.int c) (.int 2) H = .ok (.int (c % 2)) H := fun H => sMod_pos (by decide)
  obtain ⟨wn, hwn, hwa⟩ : ∃ wn : Str, atI [U.str "add", U.str "sub"] (c % 2) = some (.str wn) ∧ (wn = "add" ∨ wn = "sub") := by
    rcases (show c % 2 = 0 ∨ c % 2 = 1 by omega) with z | z <;> rw [z]
    · exact ⟨_, rfl, .inl rfl⟩
    · exact ⟨_, rfl, .inr rfl⟩
  obtain ⟨e, wd, q1, q2, q3⟩ : ∃ (e : Ex) (wd : Str), pick3 t (.str wn) (.str "cons") (.str "node") = .str wd ∧ e.u = .seq .tup (.str wd :: Ex.us es) ∧ (ETy hs sc e t ∧ e.dep ≤ n + 1) := by
    cases t with
    | num =>
      obtain ⟨a, b, rfl⟩ : ∃ a b, es = [a, b] := by
        match es, k1 with
        | [a, b], _ => exact ⟨a, b, rfl⟩
      simp only [Ex.deps] at k3
      rcases hwa with rfl | rfl
      · refine ⟨.add a b, "add", rfl, by simp [Ex.u, Ex.us], fun F G' hF hG => ?_, by simp [Ex.dep]; omega⟩
        have := k2 F G' hF hG
        simpa only [kindsOf, tyEs_2, tyEs_3, tyE, true_and] using this
      · refine ⟨.sub a b, "sub", rfl, by simp [Ex.u, Ex.us], fun F G' hF hG => ?_, by simp [Ex.dep]; omega⟩
        have := k2 F G' hF hG
        simpa only [kindsOf, tyEs_2, tyEs_3, tyE, true_and] using this
    | list =>
      obtain ⟨a, b, rfl⟩ : ∃ a b, es = [a, b] := by
        match es, k1 with
        | [a, b], _ => exact ⟨a, b, rfl⟩
      simp only [Ex.deps] at k3
      refine ⟨.cons a b, "cons", rfl, by simp [Ex.u, Ex.us], fun F G' hF hG => ?_, by simp [Ex.dep]; omega⟩
      have := k2 F G' hF hG
      simpa only [kindsOf, tyEs_2, tyEs_3, tyE, true_and] using this
    | tree =>
      obtain ⟨a, b, c, rfl⟩ : ∃ a b c, es = [a, b, c] := by
        match es, k1 with
        | [a, b, c], _ => exact ⟨a, b, c, rfl⟩
      simp only [Ex.deps] at k3
      refine ⟨.node a b c, "node", rfl, by simp [Ex.u, Ex.us], fun F G' hF hG => ?_, by simp [Ex.dep]; omega⟩
      have := k2 F G' hF hG
      simpa only [kindsOf, tyEs_2, tyEs_3, tyE, true_and] using this
  refine ⟨e, pos', q3.1, q3.2, ?_⟩
  have t1 : sSet 9 (eDispGet [(("num" : Str), eLst (aCons (eC (.str ("num" : Str))) (aCons (eC (.str ("num" : Str))) (aNil)))), (("list" : Str), eLst (aCons (eC (.str ("num" : Str))) (aCons (eC (.str ("list" : Str))) (aNil)))), (("tree" : Str), eLst (aCons (eC (.str ("tree" : Str))) (aCons (eC (.str ("num" : Str))) (aCons (eC (.str ("tree" : Str))) (aNil)))))] (eVar 3)) [some (.obj p), some (.seq .lst (sc.map prmU)), some (.int deep), some t.u, some (.int c), some (.int w), a6, a7, none, none, none, none, none] (st pos) = .nx [some (.obj p), some (.seq .lst (sc.map prmU)), some (.int deep), some t.u, some (.int c), some (.int w), a6, a7, none, some (.seq .lst ((kindsOf t).map Ty.u)), none, none, none] (st pos) := by
    refine sSet_ok (disp3 (ua := .seq .lst ((kindsOf .num).map Ty.u)) (ub := .seq .lst ((kindsOf .list).map Ty.u)) (uc := .seq .lst ((kindsOf .tree).map Ty.u)) (t := t) rfl rfl rfl rfl) ?_
    cases t <;> rfl
  have t2 : sSet 10 (eDispGet [(("num" : Str), eOp sIx (eLst (aCons (eC (.str ("add" : Str))) (aCons (eC (.str ("sub" : Str))) (aNil)))) (eOp sMod (eVar 4) (eC (.int 2)))), (("list" : Str), eC (.str ("cons" : Str))), (("tree" : Str), eC (.str ("node" : Str)))] (eVar 3)) [some (.obj p), some (.seq .lst (sc.map prmU)), some (.int deep), some t.u, some (.int c), some (.int w), a6, a7, none, some (.seq .lst ((kindsOf t).map Ty.u)), none, none, none] (st pos) = .nx [some (.obj p), some (.seq .lst (sc.map prmU)), some (.int deep), some t.u, some (.int c), some (.int w), a6, a7, none, some (.seq .lst ((kindsOf t).map Ty.u)), some (.str wd), none, none] (st pos) := by
    refine sSet_ok (disp3 (ua := .str wn) (ub := .str "cons") (uc := .str "node") (t := t) ?_ rfl rfl rfl) (by rw [q1]; rfl)
    simp [-sIntC_int, em, hwn]
  have ec : eLc NN (iSeq (eVar 9)) (tgN 12) [12] (cYes) (eCall (arity 4 (S .law_expression)) (aCons (eVar 0) (aCons (eVar 1) (aCons (eOp sAdd (eVar 2) (eC (.int 1))) (aCons (eVar 12) (aNil)))))) [some (.obj p), some (.seq .lst (sc.map prmU)), some (.int deep), some t.u, some (.int c), some (.int w), a6, a7, none, some (.seq .lst ((kindsOf t).map Ty.u)), some (.str wd), none, none] (st pos) = .ok (.seq .lst (Ex.us es)) (st pos') := by
    refine eLc_ok (l2 := [some (.obj p), some (.seq .lst (sc.map prmU)), some (.int deep), some t.u, some (.int c), some (.int w), a6, a7, none, some (.seq .lst ((kindsOf t).map Ty.u)), some (.str wd), none, none]) (it := itSeq (.seq .lst ((kindsOf t).map Ty.u))) rfl rfl ?_
    have hk : (kindsOf t).length ≤ 3 := by cases t <;> simp [kindsOf]
    rw [lcL_of (L := fun u => [some (.obj p), some (.seq .lst (sc.map prmU)), some (.int deep), some t.u, some (.int c), some (.int w), a6, a7, none, some (.seq .lst ((kindsOf t).map Ty.u)), some (.str wd), none, some u]) (hit_seq (k := .lst) (us := (kindsOf t).map Ty.u)) (fun u hu h => rfl) NN 0 [] _ (by simp) (by simp [NN]; omega), List.drop_zero]
    rw [← List.nil_append (Ex.us es), ← k4]
    exact compF_congr (fun u hu h => rfl) (fun u hu h => rfl)
  unfold exB
  rw [sIf_ap]
  have hc : (tAndM (tst (eOp sLt (eVar 2) (eC (.int 3)))) (tst (eOp sIn (eVar 5) (eTup (aCons (eC (.int 2)) (aCons (eC (.int 4)) (aNil))))))) [some (.obj p), some (.seq .lst (sc.map prmU)), some (.int deep), some t.u, some (.int c), some (.int w), a6, a7, none, none, none, none, none] (st pos) = .ok true (st pos) := by
    rcases hw with rfl | rfl <;> simp [h1i, sIn_int2]
  rw [hc]
  show sSeq _ _ _ _ = _
  rw [sSeq_nx t1, sSeq_nx t2]
  have b1 : bTuple [.seq .lst (Ex.us es)] (st pos') = .ok (.seq .tup (Ex.us es)) (st pos') := rfl
  have b2 : sAdd (.seq .tup [.str wd]) (.seq .tup (Ex.us es)) (st pos') = .ok e.u (st pos') := by
    rw [q2]
    refine sAdd_tup1 ?_
    rw [us_len, k1]
    cases t <;> simp [kindsOf]
  simp [-eLc_ap, ec, b1, b2]
end
end Wk
set_option maxRecDepth 100000
set_option maxHeartbeats 400000
/-! P37: `f_expr`. -/
namespace Wk
open PySem PySem.Spec PyProof.Rows L2

section
variable {G : AH} {p : Nat} {cells : List Int} {nm : U} {hs : List Fd} {sc : List (Str × Ty)} {deep dd : Nat} {S : SemT}
theorem ex_tail {t : Ty} {c w : Int} {pos : Nat} (hdd : deep + dd = 3) (hf : ∀ d ∈ hs, d.params.length ≤ 3)
    (hE : ∀ n, dd = n + 1 → ∀ t pos, ∃ e pos', ETy hs sc e t ∧ e.dep ≤ n ∧ S .law_expression [.obj p, .seq .lst (sc.map prmU), .int ((deep : Int) + 1), t.u] (stG G p cells nm (.seq .lst (hs.map headU)) pos) = .ok e.u (stG G p cells nm (.seq .lst (hs.map headU)) pos')) :
    ∃ e pos', ETy hs sc e t ∧ e.dep ≤ dd ∧ sSeq (exA S) (sSeq (exB S) (sSeq exC (sSeq exD exE))) [some (.obj p), some (.seq .lst (sc.map prmU)), some (.int deep), some t.u, some (.int c), some (.int w), some (.seq .lst ((sc.filter fun q => decide (q.2 = t)).map fun q => U.str q.1)), some (.seq .lst ((hs.filter fun d => decide (d.gives = t)).map headU)), none, none, none, none, none] (stG G p cells nm (.seq .lst (hs.map headU)) pos) = .rt e.u (stG G p cells nm (.seq .lst (hs.map headU)) pos') := by
  by_cases hA : deep < 3 ∧ w = 3 ∧ (hs.filter fun d => decide (d.gives = t)) ≠ []
  · obtain ⟨h1, h2, h3⟩ := hA
    obtain ⟨n, hn⟩ : ∃ n, dd = n + 1 := ⟨dd - 1, by omega⟩
    subst h2
    obtain ⟨e, pos', k1, k2, k3⟩ := exA_yes (c := c) (pos := pos) h1 hf h3 (hE n hn) (a6 := some (.seq .lst ((sc.filter fun q => decide (q.2 = t)).map fun q => U.str q.1)))
    exact ⟨e, pos', k1, by omega, sSeq_rt k3⟩
  have nA : ¬ deep < 3 ∨ w ≠ 3 ∨ (hs.filter fun d => decide (d.gives = t)).map headU = [] := by
    by_cases h1 : deep < 3
    · by_cases h2 : w = 3
      · refine .inr (.inr ?_)
        by_cases h3 : (hs.filter fun d => decide (d.gives = t)) = []
        · rw [h3]; rfl
        · exact absurd ⟨h1, h2, h3⟩ hA
      · exact .inr (.inl h2)
    · exact .inl h1
  rw [sSeq_nx (exA_no nA)]
  by_cases hB : deep < 3 ∧ (w = 2 ∨ w = 4)
  · obtain ⟨h1, h2⟩ := hB
    obtain ⟨n, hn⟩ : ∃ n, dd = n + 1 := ⟨dd - 1, by omega⟩
    obtain ⟨e, pos', k1, k2, k3⟩ := exB_yes (t := t) (c := c) (pos := pos) h1 h2 (hE n hn) (a6 := some (.seq .lst ((sc.filter fun q => decide (q.2 = t)).map fun q => U.str q.1))) (a7 := some (.seq .lst ((hs.filter fun d => decide (d.gives = t)).map headU)))
    exact ⟨e, pos', k1, by omega, sSeq_rt k3⟩
  have nB : ¬ deep < 3 ∨ (w ≠ 2 ∧ w ≠ 4) := by
    by_cases h1 : deep < 3
    · exact .inr ⟨fun z => hB ⟨h1, .inl z⟩, fun z => hB ⟨h1, .inr z⟩⟩
    · exact .inl h1
  rw [sSeq_nx (exB_no nB)]
  by_cases hC : w ≠ 1 ∧ (sc.filter fun q => decide (q.2 = t)) ≠ []
  · obtain ⟨q, hq, k⟩ := exC_yes (h := stG G p cells nm (.seq .lst (hs.map headU)) pos) (c := c) (deep := deep) (t := t) hC.1 hC.2 (a0 := some (.obj p)) (a1 := some (.seq .lst (sc.map prmU))) (a7 := some (.seq .lst ((hs.filter fun d => decide (d.gives = t)).map headU))) (a8 := none) (a9 := none) (a10 := none) (a11 := none) (a12 := none)
    obtain ⟨hq1, hq2⟩ := List.mem_filter.mp hq
    have hq2 : q.2 = t := by simpa using hq2
    refine ⟨.var q.1, pos, fun F G' hF hG => ?_, by simp [Ex.dep], sSeq_rt k⟩
    simp only [tyE]
    rw [hG.at_ q hq1, hq2]
  have nC : w = 1 ∨ (sc.filter fun q => decide (q.2 = t)).map (fun q => U.str q.1) = [] := by
    by_cases h1 : w = 1
    · exact .inl h1
    · by_cases h3 : (sc.filter fun q => decide (q.2 = t)) = []
      · rw [h3]; exact .inr rfl
      · exact absurd ⟨h1, h3⟩ hC
  rw [sSeq_nx (exC_no nC)]
  by_cases hD : t = .num
  · subst hD
    obtain ⟨i, k⟩ := exD_yes (h := stG G p cells nm (.seq .lst (hs.map headU)) pos) (c := c) (deep := deep) (a0 := some (.obj p)) (a1 := some (.seq .lst (sc.map prmU))) (a5 := some (.int w)) (a6 := some (.seq .lst ((sc.filter fun q => decide (q.2 = Ty.num)).map fun q => U.str q.1))) (a7 := some (.seq .lst ((hs.filter fun d => decide (d.gives = Ty.num)).map headU))) (a8 := none) (a9 := none) (a10 := none) (a11 := none) (a12 := none)
    exact ⟨.num i, pos, fun F G' hF hG => by simp only [tyE], by simp [Ex.dep], sSeq_rt k⟩
  rw [sSeq_nx (exD_no hD), exE_do hD]
  cases t with
  | num => exact absurd rfl hD
  | list => exact ⟨.nil, pos, fun F G' hF hG => by simp only [tyE], by simp [Ex.dep], rfl⟩
  | tree => exact ⟨.leaf, pos, fun F G' hF hG => by simp only [tyE], by simp [Ex.dep], rfl⟩
theorem ex_body {t : Ty} {pos : Nat} (hp : p < G.length) (hdd : deep + dd = 3) (hsc : sc.length ≤ 900) (hhs : hs.length ≤ 900) (hf : ∀ d ∈ hs, d.params.length ≤ 3)
    (hT : ∀ pos, ∃ c : Int, 0 ≤ c ∧ S .law_take [.obj p] (stG G p cells nm (.seq .lst (hs.map headU)) pos) = .ok (.int c) (stG G p cells nm (.seq .lst (hs.map headU)) (pos + 1)))
    (hE : ∀ n, dd = n + 1 → ∀ t pos, ∃ e pos', ETy hs sc e t ∧ e.dep ≤ n ∧ S .law_expression [.obj p, .seq .lst (sc.map prmU), .int ((deep : Int) + 1), t.u] (stG G p cells nm (.seq .lst (hs.map headU)) pos) = .ok e.u (stG G p cells nm (.seq .lst (hs.map headU)) pos')) :
    ∃ e pos', ETy hs sc e t ∧ e.dep ≤ dd ∧ runB 13 (m_law_expression S) [.obj p, .seq .lst (sc.map prmU), .int deep, t.u] (stG G p cells nm (.seq .lst (hs.map headU)) pos) = .ok e.u (stG G p cells nm (.seq .lst (hs.map headU)) pos') := by
  obtain ⟨c, hc0, hc⟩ := hT pos
  have e1 : ∀ H : AH, sMod (.int c) (.int 5) H = .ok (.int (c % 5)) H := fun H => sMod_pos (by decide)
  have e2 : ∀ H : AH, sDiv (.int c) (.int 5) H = .ok (.int (c / 5)) H := fun H => sDiv_pos (by decide) (by decide)
  obtain ⟨e, pos', k1, k2, k3⟩ := ex_tail (t := t) (c := c / 5) (w := c % 5) (pos := pos + 1) hdd hf hE
  refine ⟨e, pos', k1, k2, ?_⟩
  have t1 : sSet 4 (eCall (arity 1 (S .law_take)) (aCons (eVar 0) (aNil))) [some (.obj p), some (.seq .lst (sc.map prmU)), some (.int deep), some t.u, none, none, none, none, none, none, none, none, none] (stG G p cells nm (.seq .lst (hs.map headU)) pos) = .nx [some (.obj p), some (.seq .lst (sc.map prmU)), some (.int deep), some t.u, some (.int c), none, none, none, none, none, none, none, none] (stG G p cells nm (.seq .lst (hs.map headU)) (pos + 1)) := by
    simp [hc]
  have t2 : sSet 5 (eOp sMod (eVar 4) (eC (.int 5))) [some (.obj p), some (.seq .lst (sc.map prmU)), some (.int deep), some t.u, some (.int c), none, none, none, none, none, none, none, none] (stG G p cells nm (.seq .lst (hs.map headU)) (pos + 1)) = .nx [some (.obj p), some (.seq .lst (sc.map prmU)), some (.int deep), some t.u, some (.int c), some (.int (c % 5)), none, none, none, none, none, none, none] (stG G p cells nm (.seq .lst (hs.map headU)) (pos + 1)) := by
    simp [-sIntC_int, e1]
  have t3 : sSet 4 (eOp sDiv (eVar 4) (eC (.int 5))) [some (.obj p), some (.seq .lst (sc.map prmU)), some (.int deep), some t.u, some (.int c), some (.int (c % 5)), none, none, none, none, none, none, none] (stG G p cells nm (.seq .lst (hs.map headU)) (pos + 1)) = .nx [some (.obj p), some (.seq .lst (sc.map prmU)), some (.int deep), some t.u, some (.int (c / 5)), some (.int (c % 5)), none, none, none, none, none, none, none] (stG G p cells nm (.seq .lst (hs.map headU)) (pos + 1)) := by
    simp [-sIntC_int, e2]
  rw [m_expr_is, runB_ap]
  have e9 : ([U.obj p, U.seq .lst (sc.map prmU), U.int deep, t.u].map some ++ List.replicate (13 - [U.obj p, U.seq .lst (sc.map prmU), U.int deep, t.u].length) none : Loc) = [some (.obj p), some (.seq .lst (sc.map prmU)), some (.int deep), some t.u, none, none, none, none, none, none, none, none, none] := rfl
  rw [e9, sSeq_nx t1, sSeq_nx t2, sSeq_nx t3, sSeq_nx (exS_do hsc), sSeq_nx (exH_do hp hhs), k3]
  rfl
theorem f_expr (ok : Okh G) (hnm : pureU nm = true) (hp : p < G.length) (hsc : sc.length ≤ 900) (hhs : hs.length ≤ 900) (hf : ∀ d ∈ hs, d.params.length ≤ 3) : ∀ (dd deep : Nat) (k : Nat) (t : Ty) (pos : Nat), deep + dd = 3 →
    ∃ e pos', ETy hs sc e t ∧ e.dep ≤ dd ∧ sem (k + dd + 2) .law_expression [.obj p, .seq .lst (sc.map prmU), .int deep, t.u] (stG G p cells nm (.seq .lst (hs.map headU)) pos) = .ok e.u (stG G p cells nm (.seq .lst (hs.map headU)) pos')
  | dd, deep, k, t, pos, hdd => by
    have hhd : pureU (.seq .lst (hs.map headU)) = true := by
      show pureUs (hs.map headU) = true
      clear hhs hf
      induction hs with
      | nil => rfl
      | cons d hs ih => simp [pureUs, headU_pure, ih]
    obtain ⟨e, pos', k1, k2, k3⟩ := ex_body (S := sem (k + dd + 1)) (deep := deep) (dd := dd) (cells := cells) (nm := nm) (t := t) (pos := pos) hp hdd hsc hhs hf (fun pos => f_take (k := k + dd) ok hp hnm hhd) (fun n hn t pos => by
      subst hn
      exact f_expr ok hnm hp hsc hhs hf n (deep + 1) k t pos (by omega))
    refine ⟨e, pos', k1, k2, ?_⟩
    have e0 : ∀ us H, sem (k + dd + 2) .law_expression us H = Wk.runC 13 (m_law_expression (sem (k + dd + 1))) us H := fun us H => rfl
    rw [e0, runC_ap, k3]
    exact clean_same (by simp [stG_len]) (stG_ok ok hnm hhd) (below_pure _ e.pure)
end
end Wk
set_option maxRecDepth 100000
set_option maxHeartbeats 400000
/-! P38: the drawn bodies: the statements. -/
namespace Wk
open PySem PySem.Spec PyProof.Rows L2

def BTy (hs : List Fd) (sc : List (Str × Ty)) (b : Bd) (t : Ty) : Prop := ∀ F G, SigOk hs F → ScOk sc G → tyB F G b t
theorem ScOk.put {sc : List (Str × Ty)} {G : Gam} {x : Str} {s : Ty} (h : ScOk sc G) (hx : x ∉ sc.map (·.1)) : ScOk (sc ++ [(x, s)]) (G.put x s) := by
  refine ⟨fun q hq => ?_, fun y hy => ?_⟩
  · unfold Gam.put
    rcases List.mem_append.mp hq with z | z
    · have : q.1 ≠ x := fun e => hx (e ▸ List.mem_map.mpr ⟨q, z, rfl⟩)
      rw [if_neg this]
      exact h.at_ q z
    · rw [List.mem_singleton] at z
      subst z
      rw [if_pos rfl]
  · rw [List.map_append, List.mem_append, not_or] at hy
    unfold Gam.put
    have : y ≠ x := fun e => hy.2 (by simp [e])
    rw [if_neg this]
    exact h.no y hy.1
/-- the scope's names are the first of all -/
structure Inv (ns : List Str) (sc : List (Str × Ty)) : Prop where
  nm : sc.map (·.1) = ns.take sc.length
theorem Inv.more {ns : List Str} {sc mo : List (Str × Ty)} {rest : List Str} (h : Inv ns sc) (e : ns.drop sc.length = mo.map (·.1) ++ rest) : Inv ns (sc ++ mo) := by
  refine ⟨?_⟩
  rw [List.map_append, h.nm, List.length_append, List.take_add, e]
  congr 1
  rw [List.take_append_of_le_length (by simp)]
  rw [List.take_of_length_le (by simp)]
theorem Inv.fresh {ns : List Str} {sc : List (Str × Ty)} {l rest : List Str} (h : Inv ns sc) (nd : ns.Nodup) (e : ns.drop sc.length = l ++ rest) : l.Nodup ∧ ∀ x ∈ l, x ∉ sc.map (·.1) := by
  have h1 : ns = ns.take sc.length ++ (l ++ rest) := by rw [← e, List.take_append_drop]
  rw [h1] at nd
  obtain ⟨_, n2, n3⟩ := List.nodup_append.mp nd
  obtain ⟨n4, _, _⟩ := List.nodup_append.mp n2
  refine ⟨n4, fun x hx hm => ?_⟩
  rw [h.nm] at hm
  exact n3 x hm x (by simp [hx]) rfl
theorem sSl_drop {k : SK} {us : List U} {n : Nat} {h : AH} (hk : k ≠ .tup) (hn : n ≤ us.length) : sSl (.seq k us) (some (n : Int)) none h = .ok (.seq .lst (us.drop n)) h := by
  have h1 : HT.sIx us.length 0 (some (n : Int)) = n := by rw [HT.sIx_nat]; omega
  have h2 : HT.sIx us.length us.length none = us.length := HT.sIx_none _ _
  have : cutU us (some (n : Int)) none = us.drop n := by
    unfold cutU
    rw [h1, h2]
    exact List.take_of_length_le (by simp)
  cases k with
  | tup => exact absurd rfl hk
  | lst => simp only [sSl, asL, this]
  | ro => simp only [sSl, asL, this]
theorem sAdd_lst {xs ys : List U} {H : AH} (hl : xs.length + ys.length ≤ 1000) : sAdd (.seq .lst xs) (.seq .lst ys) H = .ok (.seq .lst (xs ++ ys)) H := by
  show (if xs.length + ys.length ≤ 1000 then _ else _) = _
  rw [if_pos hl]
theorem sAdd_tup {xs ys : List U} {H : AH} (hx : xs ≠ []) (hl : xs.length + ys.length ≤ 1000) : sAdd (.seq .tup xs) (.seq .tup ys) H = .ok (.seq .tup (xs ++ ys)) H := by
  show (if xs ≠ [] ∧ xs.length + ys.length ≤ 1000 then _ else _) = _
  rw [if_pos ⟨hx, hl⟩]
/-! ### the statements -/
def bdN : MS := sSet 6 (eSl (eOp sIx (eVar 0) (eC (.int 2))) (oSome (eCall bLen (aCons (eVar 1) (aNil)))) (oNone))
def bdA (S : SemT) : MS := sIf (tst (eOp sEq (eVar 5) (eC (.int 2)))) (sSeq (sSet 14 (eOp sIx (eLst (aCons (eC (.str ("num" : Str))) (aCons (eC (.str ("list" : Str))) (aCons (eC (.str ("tree" : Str))) (aNil))))) (eOp sMod (eVar 4) (eC (.int 3))))) (sSeq (sSet 15 (eCall (arity 4 (S .law_expression)) (aCons (eVar 0) (aCons (eVar 1) (aCons (eC (.int 0)) (aCons (eVar 14) (aNil))))))) (sRet (eTup (aCons (eC (.str ("let" : Str))) (aCons (eOp sIx (eVar 6) (eC (.int 0))) (aCons (eVar 15) (aCons (eCall (arity 4 (S .law_body)) (aCons (eVar 0) (aCons (eOp sAdd (eVar 1) (eLst (aCons (eTup (aCons (eOp sIx (eVar 6) (eC (.int 0))) (aCons (eVar 14) (aNil)))) (aNil)))) (aCons (eOp sAdd (eVar 2) (eC (.int 1))) (aCons (eVar 3) (aNil)))))) (aNil))))))))) (sNil)
def bdB (S : SemT) : MS := sIf (tst (eOp sEq (eVar 5) (eC (.int 3)))) (sSeq (sSet 15 (eCall (arity 4 (S .law_expression)) (aCons (eVar 0) (aCons (eVar 1) (aCons (eC (.int 0)) (aCons (eC (.str ("num" : Str))) (aNil))))))) (sSeq (sSet 13 (eCall (arity 4 (S .law_expression)) (aCons (eVar 0) (aCons (eVar 1) (aCons (eC (.int 0)) (aCons (eC (.str ("num" : Str))) (aNil))))))) (sSeq (sSet 12 (eCall (arity 4 (S .law_body)) (aCons (eVar 0) (aCons (eVar 1) (aCons (eOp sAdd (eVar 2) (eC (.int 1))) (aCons (eVar 3) (aNil))))))) (sRet (eTup (aCons (eC (.str ("less" : Str))) (aCons (eVar 15) (aCons (eVar 13) (aCons (eVar 12) (aCons (eCall (arity 4 (S .law_body)) (aCons (eVar 0) (aCons (eVar 1) (aCons (eOp sAdd (eVar 2) (eC (.int 1))) (aCons (eVar 3) (aNil)))))) (aNil))))))))))) (sNil)
def bdS : MS := sSet 7 (eLc NN (iSeq (eVar 1)) (tgT [16, 14]) [16, 14] (tst (eOp sNe (eVar 14) (eC (.str ("num" : Str))))) (eTup (aCons (eVar 16) (aCons (eVar 14) (aNil)))))
def bdC (S : SemT) : MS := sIf (tOrM (tst (eOp sIn (eVar 5) (eTup (aCons (eC (.int 0)) (aCons (eC (.int 4)) (aNil)))))) (tst (eOp sEq (eCall bLen (aCons (eVar 7) (aNil))) (eC (.int 0))))) (sRet (eTup (aCons (eC (.str ("give" : Str))) (aCons (eCall (arity 4 (S .law_expression)) (aCons (eVar 0) (aCons (eVar 1) (aCons (eC (.int 0)) (aCons (eVar 3) (aNil)))))) (aNil))))) (sNil)
def bdX : MS := sAsg (tgT [8, 9]) (eOp sIx (eVar 7) (eOp sMod (eVar 4) (eCall bLen (aCons (eVar 7) (aNil)))))
def bdK : MS := sSet 10 (eDispGet [(("list" : Str), eLst (aCons (eC (.str ("num" : Str))) (aCons (eC (.str ("list" : Str))) (aNil)))), (("tree" : Str), eLst (aCons (eC (.str ("tree" : Str))) (aCons (eC (.str ("num" : Str))) (aCons (eC (.str ("tree" : Str))) (aNil)))))] (eVar 9))
def bdM : MS := sSet 11 (eLc NN (iRange (eCall bLen (aCons (eVar 10) (aNil)))) (tgN 17) [17] (cYes) (eTup (aCons (eOp sIx (eVar 6) (eVar 17)) (aCons (eOp sIx (eVar 10) (eVar 17)) (aNil)))))
def bdP (S : SemT) : MS := sSet 12 (eCall (arity 4 (S .law_body)) (aCons (eVar 0) (aCons (eVar 1) (aCons (eOp sAdd (eVar 2) (eC (.int 1))) (aCons (eVar 3) (aNil))))))
def bdQ (S : SemT) : MS := sSet 13 (eCall (arity 4 (S .law_body)) (aCons (eVar 0) (aCons (eOp sAdd (eVar 1) (eVar 11)) (aCons (eOp sAdd (eVar 2) (eC (.int 1))) (aCons (eVar 3) (aNil))))))
def bdR : MS := sRet (eOp sAdd (eOp sAdd (eTup (aCons (eVar 9) (aCons (eVar 8) (aCons (eVar 12) (aNil))))) (eCall bTuple (aCons (eLc NN (iSeq (eVar 11)) (tgT [16, 14]) [16, 14] (cYes) (eVar 16)) (aNil)))) (eTup (aCons (eVar 13) (aNil))))
theorem m_lbody_is (S : SemT) : m_law_body S = sSeq (sSet 4 (eCall (arity 1 (S .law_take)) (aCons (eVar 0) (aNil)))) (sSeq (sSet 5 (eOp sMul (eOp sMod (eVar 4) (eC (.int 6))) (eCall bInt (aCons (eOp sLt (eVar 2) (eC (.int 4))) (aNil))))) (sSeq (sSet 4 (eOp sDiv (eVar 4) (eC (.int 6)))) (sSeq bdN (sSeq (bdA S) (sSeq (bdB S) (sSeq bdS (sSeq (bdC S) (sSeq bdX (sSeq bdK (sSeq bdM (sSeq (bdP S) (sSeq (bdQ S) bdR)))))))))))) := rfl
section
variable {G : AH} {p pos : Nat} {cells : List Int} {ns : List Str} {hd : U} {sc : List (Str × Ty)} {t : Ty} {a0 a1 a2 a3 a4 a5 a6 a7 a8 a9 a10 a11 a12 a13 a14 a15 a16 a17 : Option U} {deep : Nat} {h : AH}
theorem bdN_do (hp : p < G.length) (hl : sc.length ≤ ns.length) : bdN [some (.obj p), some (.seq .lst (sc.map prmU)), a2, a3, a4, a5, none, none, none, none, none, none, none, none, none, none, none, none] (stG G p cells (.seq .lst (ns.map U.str)) hd pos) = .nx [some (.obj p), some (.seq .lst (sc.map prmU)), a2, a3, a4, a5, some (.seq .lst ((ns.drop sc.length).map U.str)), none, none, none, none, none, none, none, none, none, none, none] (stG G p cells (.seq .lst (ns.map U.str)) hd pos) := by
  unfold bdN
  have e3 := st_ix2 (cells := cells) (nm := .seq .lst (ns.map U.str)) (hd := hd) (pos := pos) hp
  refine sSet_ok (u := .seq .lst ((ns.drop sc.length).map U.str)) ?_ rfl
  have e4 : ∀ H : AH, sSl (.seq .lst (ns.map U.str)) (some (sc.length : Int)) none H = .ok (.seq .lst ((ns.drop sc.length).map U.str)) H := fun H => by
    rw [List.map_drop]
    exact sSl_drop (k := .lst) (by decide) (by simpa using hl)
  simp [e3, bLen, asSeq, e4, -List.map_drop]
theorem bdA_no {S : SemT} {w : Int} (hw : w ≠ 2) {ls : Loc} (hl : ls[5]? = some (some (.int w))) : bdA S ls h = .nx ls h := by
  unfold bdA
  simp [hl, sEq_int, hw]
theorem bdB_no {S : SemT} {w : Int} (hw : w ≠ 3) {ls : Loc} (hl : ls[5]? = some (some (.int w))) : bdB S ls h = .nx ls h := by
  unfold bdB
  simp [hl, sEq_int, hw]
theorem bdS_do (hl : sc.length ≤ 900) : bdS [a0, some (.seq .lst (sc.map prmU)), a2, a3, a4, a5, a6, none, none, none, none, none, none, none, none, none, none, none] h = .nx [a0, some (.seq .lst (sc.map prmU)), a2, a3, a4, a5, a6, some (.seq .lst ((sc.filter fun q => decide (q.2 ≠ .num)).map prmU)), none, none, none, none, none, none, none, none, none, none] h := by
  unfold bdS
  refine sSet_ok (eLc_ok (l2 := [a0, some (.seq .lst (sc.map prmU)), a2, a3, a4, a5, a6, none, none, none, none, none, none, none, none, none, none, none]) (it := itSeq (.seq .lst (sc.map prmU))) rfl rfl ?_) rfl
  rw [lcL_of (L := fun u => match u with
    | .seq .tup [x, y] => [a0, some (.seq .lst (sc.map prmU)), a2, a3, a4, a5, a6, none, none, none, none, none, none, none, some y, none, some x, none]
    | _ => []) (hit_seq (k := .lst) (us := sc.map prmU)) (fun u hu h => by
      obtain ⟨q, hq, rfl⟩ := List.mem_map.mp hu
      rfl) NN 0 [] h (by simp) (by simp [NN]; omega), List.drop_zero]
  rw [compF_filter (φ := prmU) (p := fun q => decide (q.2 ≠ .num)) (g := prmU) (h := h) ?_ ?_ sc [] (by simp; omega)]
  · rfl
  · exact fun q => by
      simp only [prmU, tst_ap, eOp_ap, eC_ap, eVar_ap, List.getElem?_cons_succ, List.getElem?_cons_zero, Out.bind_ok, sNe_num]
  · exact fun q => rfl
theorem bdX_do {c : Int} {xs : List (Str × Ty)} (hx : xs ≠ []) {a10 a11 a12 a13 a14 a15 a16 a17 : Option U} : ∃ q ∈ xs, bdX [a0, a1, a2, a3, some (.int c), a5, a6, some (.seq .lst (xs.map prmU)), none, none, a10, a11, a12, a13, a14, a15, a16, a17] h = .nx [a0, a1, a2, a3, some (.int c), a5, a6, some (.seq .lst (xs.map prmU)), some (.str q.1), some q.2.u, a10, a11, a12, a13, a14, a15, a16, a17] h := by
  obtain ⟨q, hq, e⟩ := pick_at (φ := prmU) (c := c) hx
  refine ⟨q, hq, ?_⟩
  have hl : 0 < xs.length := (List.length_pos_iff.mpr hx)
  have em : ∀ H : AH, sMod (.int c) (.int (xs.length : Int)) H = .ok (.int (c % (xs.length : Int))) H := fun H => sMod_pos (by omega)
  unfold bdX
  simp [-sIntC_int, bLen, asSeq, em, e]
  rfl
theorem bdK_do {s : Ty} (hs : s ≠ .num) : bdK [a0, a1, a2, a3, a4, a5, a6, a7, a8, some s.u, none, a11, a12, a13, a14, a15, a16, a17] h = .nx [a0, a1, a2, a3, a4, a5, a6, a7, a8, some s.u, some (.seq .lst ((kindsOf s).map Ty.u)), a11, a12, a13, a14, a15, a16, a17] h := by
  unfold bdK
  refine sSet_ok (disp2 (ub := .seq .lst ((kindsOf .list).map Ty.u)) (uc := .seq .lst ((kindsOf .tree).map Ty.u)) (t := s) hs rfl rfl rfl) ?_
  cases s with
  | num => exact absurd rfl hs
  | list => rfl
  | tree => rfl
theorem bdM_do {mo : List (Str × Ty)} {rest : List Str} {ks : List Ty} {xs : List Str} (hx : xs = mo.map (·.1) ++ rest) (hk : ks = mo.map (·.2)) (hl : mo.length ≤ 3) : bdM [a0, a1, a2, a3, a4, a5, some (.seq .lst (xs.map U.str)), a7, a8, a9, some (.seq .lst (ks.map Ty.u)), none, a12, a13, a14, a15, a16, none] h = .nx [a0, a1, a2, a3, a4, a5, some (.seq .lst (xs.map U.str)), a7, a8, a9, some (.seq .lst (ks.map Ty.u)), some (.seq .lst (mo.map prmU)), a12, a13, a14, a15, a16, none] h := by
  unfold bdM
  have hkl : ks.length = mo.length := by rw [hk]; simp
  refine sSet_ok (eLc_ok (l2 := [a0, a1, a2, a3, a4, a5, some (.seq .lst (xs.map U.str)), a7, a8, a9, some (.seq .lst (ks.map Ty.u)), none, a12, a13, a14, a15, a16, none]) (it := itRange (mo.length : Int)) (y3 (by omega) ?_) rfl ?_) rfl
  · simp [bLen, asSeq, hkl]
  have := lcL_map (it := itRange (mo.length : Int)) (T := tgN 17) (me := (eTup (aCons (eOp sIx (eVar 6) (eVar 17)) (aCons (eOp sIx (eVar 10) (eVar 17)) (aNil))))) (ls0 := [a0, a1, a2, a3, a4, a5, some (.seq .lst (xs.map U.str)), a7, a8, a9, some (.seq .lst (ks.map Ty.u)), none, a12, a13, a14, a15, a16, none]) (us := (List.range mo.length).map fun (i : Nat) => U.int (i : Int)) (h := h)
    (L := fun u => [a0, a1, a2, a3, a4, a5, some (.seq .lst (xs.map U.str)), a7, a8, a9, some (.seq .lst (ks.map Ty.u)), none, a12, a13, a14, a15, a16, some u])
    (f := fun u => match u with
      | .int j => prmU (mo.getD j.toNat ("", .num))
      | _ => .non) (fun j hj => hit_range j h hj) (fun u _ => rfl) (fun u hu => by
        obtain ⟨j, hj, rfl⟩ := List.mem_map.mp hu
        have hjl : j < mo.length := List.mem_range.mp hj
        have q1 : atI (xs.map U.str) (j : Int) = some (.str mo[j].1) := atI_ofNat (by
          rw [List.getElem?_map, hx, List.getElem?_append_left (by simpa using hjl)]
          simp [hjl])
        have q2 : atI (ks.map Ty.u) (j : Int) = some mo[j].2.u := atI_ofNat (by
          rw [List.getElem?_map, hk]
          simp [hjl])
        simp [q1, q2, hjl, prmU]) (by simp; omega) NN 0 [] (by simp) (by simp [NN]; omega) rfl
  rw [this]
  congr 1
  rw [List.nil_append, List.drop_zero]
  refine List.ext_getElem (by simp) fun i h1 h2 => ?_
  have hi : i < mo.length := by simpa using h2
  simp [hi]
end
end Wk
set_option maxRecDepth 100000
set_option maxHeartbeats 400000
/-! P39: the drawn bodies: the ways. -/
namespace Wk
open PySem PySem.Spec PyProof.Rows L2

section
variable {p : Nat} {ns : List Str} {hs : List Fd} {sc : List (Str × Ty)} {deep n : Nat} {S : SemT} {t : Ty} {c w : Int} {pos : Nat} {st : Nat → AH} {a6 a7 : Option U} {h : AH}
def XH (S : SemT) (p : Nat) (hs : List Fd) (sc : List (Str × Ty)) (st : Nat → AH) : Prop := ∀ t pos, ∃ e pos', ETy hs sc e t ∧ e.dep ≤ 3 ∧ S .law_expression [.obj p, .seq .lst (sc.map prmU), .int 0, t.u] (st pos) = .ok e.u (st pos')
def BH (S : SemT) (p : Nat) (ns : List Str) (hs : List Fd) (deep n : Nat) (t : Ty) (st : Nat → AH) : Prop := ∀ sc' pos, Inv ns sc' → sc'.length ≤ 3 + 3 * (deep + 1) → ∃ b pos', BTy hs sc' b t ∧ b.dep ≤ n ∧ S .law_body [.obj p, .seq .lst (sc'.map prmU), .int ((deep : Int) + 1), t.u] (st pos) = .ok b.u (st pos')
theorem bdA_yes (hX : XH S p hs sc st) (hB : BH S p ns hs deep n t st) (inv : Inv ns sc) (nd : ns.Nodup) (hl : sc.length ≤ 3 + 3 * deep) (hd4 : deep ≤ 4) {x : Str} {rest : List Str} (hx : ns.drop sc.length = x :: rest) :
    ∃ b pos', BTy hs sc b t ∧ b.dep ≤ n + 1 ∧ bdA S [some (.obj p), some (.seq .lst (sc.map prmU)), some (.int deep), some t.u, some (.int c), some (.int 2), some (.seq .lst ((ns.drop sc.length).map U.str)), none, none, none, none, none, none, none, none, none, none, none] (st pos) = .rt b.u (st pos') := by
  have em : ∀ H : AH, sMod (.int c) (.int 3) H = .ok (.int (c % 3)) H := fun H => sMod_pos (by decide)
  have e5 := ty_at (c % 3) (mod3 c)
  generalize tyOf (c % 3) = s at e5
  obtain ⟨e, p1, k1, k2, k3⟩ := hX s pos
  obtain ⟨b, p2, k4, k5, k6⟩ := hB (sc ++ [(x, s)]) p1 (inv.more (mo := [(x, s)]) (rest := rest) hx) (by simp; omega)
  obtain ⟨_, hfr⟩ := inv.fresh (l := [x]) (rest := rest) nd hx
  have hfx := hfr x (by simp)
  refine ⟨.elet x e b, p2, fun F G hF hG => ⟨s, k1 F G hF hG, k2, hG.no x hfx, k4 F _ hF (hG.put hfx)⟩, by simp [Bd.dep]; omega, ?_⟩
  rw [hx]
  rw [List.map_append] at k6
  have t1 : sSet 14 (eOp sIx (eLst (aCons (eC (.str ("num" : Str))) (aCons (eC (.str ("list" : Str))) (aCons (eC (.str ("tree" : Str))) (aNil))))) (eOp sMod (eVar 4) (eC (.int 3)))) [some (.obj p), some (.seq .lst (sc.map prmU)), some (.int deep), some t.u, some (.int c), some (.int 2), some (.seq .lst ((x :: rest).map U.str)), none, none, none, none, none, none, none, none, none, none, none] (st pos) = .nx [some (.obj p), some (.seq .lst (sc.map prmU)), some (.int deep), some t.u, some (.int c), some (.int 2), some (.seq .lst ((x :: rest).map U.str)), none, none, none, none, none, none, none, some s.u, none, none, none] (st pos) := by
    simp [-sIntC_int, em, e5]
  have t2 : sSet 15 (eCall (arity 4 (S .law_expression)) (aCons (eVar 0) (aCons (eVar 1) (aCons (eC (.int 0)) (aCons (eVar 14) (aNil)))))) [some (.obj p), some (.seq .lst (sc.map prmU)), some (.int deep), some t.u, some (.int c), some (.int 2), some (.seq .lst ((x :: rest).map U.str)), none, none, none, none, none, none, none, some s.u, none, none, none] (st pos) = .nx [some (.obj p), some (.seq .lst (sc.map prmU)), some (.int deep), some t.u, some (.int c), some (.int 2), some (.seq .lst ((x :: rest).map U.str)), none, none, none, none, none, none, none, some s.u, some e.u, none, none] (st p1) := by
    simp [k3]
  have ha : ∀ H : AH, sAdd (.seq .lst (sc.map prmU)) (.seq .lst [.seq .tup [.str x, s.u]]) H = .ok (.seq .lst (sc.map prmU ++ [(x, s)].map prmU)) H := fun H => sAdd_lst (by simp; omega)
  have t3 : sRet (eTup (aCons (eC (.str ("let" : Str))) (aCons (eOp sIx (eVar 6) (eC (.int 0))) (aCons (eVar 15) (aCons (eCall (arity 4 (S .law_body)) (aCons (eVar 0) (aCons (eOp sAdd (eVar 1) (eLst (aCons (eTup (aCons (eOp sIx (eVar 6) (eC (.int 0))) (aCons (eVar 14) (aNil)))) (aNil)))) (aCons (eOp sAdd (eVar 2) (eC (.int 1))) (aCons (eVar 3) (aNil)))))) (aNil)))))) [some (.obj p), some (.seq .lst (sc.map prmU)), some (.int deep), some t.u, some (.int c), some (.int 2), some (.seq .lst ((x :: rest).map U.str)), none, none, none, none, none, none, none, some s.u, some e.u, none, none] (st p1) = .rt (Bd.elet x e b).u (st p2) := by
    generalize sc.map prmU = scu at ha k6
    generalize [(x, s)].map prmU = q at ha k6
    simp [ha, k6, Bd.u]
  unfold bdA
  rw [sIf_ap]
  have hc : (tst (eOp sEq (eVar 5) (eC (.int 2)))) [some (.obj p), some (.seq .lst (sc.map prmU)), some (.int deep), some t.u, some (.int c), some (.int 2), some (.seq .lst ((x :: rest).map U.str)), none, none, none, none, none, none, none, none, none, none, none] (st pos) = .ok true (st pos) := by
    simp [sEq_int]
  rw [hc]
  show sSeq _ _ _ _ = _
  rw [sSeq_nx t1, sSeq_nx t2, t3]
theorem bdB_yes (hX : XH S p hs sc st) (hB : BH S p ns hs deep n t st) (inv : Inv ns sc) (hl : sc.length ≤ 3 + 3 * deep) :
    ∃ b pos', BTy hs sc b t ∧ b.dep ≤ n + 1 ∧ bdB S [some (.obj p), some (.seq .lst (sc.map prmU)), some (.int deep), some t.u, some (.int c), some (.int 3), a6, none, none, none, none, none, none, none, none, none, none, none] (st pos) = .rt b.u (st pos') := by
  obtain ⟨e1, p1, k1, k2, k3⟩ := hX .num pos
  obtain ⟨e2, p2, k4, k5, k6⟩ := hX .num p1
  obtain ⟨b1, p3, k7, k8, k9⟩ := hB sc p2 inv (by omega)
  obtain ⟨b2, p4, k10, k11, k12⟩ := hB sc p3 inv (by omega)
  refine ⟨.less e1 e2 b1 b2, p4, fun F G hF hG => ⟨k1 F G hF hG, k2, k4 F G hF hG, k5, k7 F G hF hG, k10 F G hF hG⟩, by simp [Bd.dep]; omega, ?_⟩
  have k3 : S .law_expression [.obj p, .seq .lst (sc.map prmU), .int 0, .str ("num" : Str)] (st pos) = .ok e1.u (st p1) := k3
  have k6 : S .law_expression [.obj p, .seq .lst (sc.map prmU), .int 0, .str ("num" : Str)] (st p1) = .ok e2.u (st p2) := k6
  unfold bdB
  generalize sc.map prmU = scu at k3 k6 k9 k12
  simp [sEq_int, k3, k6, k9, k12, Bd.u]
theorem bdC_yes (hX : XH S p hs sc st) {xs : List U} (hw : (w = 0 ∨ w = 4) ∨ xs = []) :
    ∃ b pos', BTy hs sc b t ∧ b.dep ≤ 0 ∧ bdC S [some (.obj p), some (.seq .lst (sc.map prmU)), some (.int deep), some t.u, some (.int c), some (.int w), a6, some (.seq .lst xs), none, none, none, none, none, none, none, none, none, none] (st pos) = .rt b.u (st pos') := by
  obtain ⟨e1, p1, k1, k2, k3⟩ := hX t pos
  refine ⟨.give e1, p1, fun F G hF hG => ⟨k1 F G hF hG, k2⟩, by simp [Bd.dep], ?_⟩
  unfold bdC
  rw [sIf_ap]
  have hc : (tOrM (tst (eOp sIn (eVar 5) (eTup (aCons (eC (.int 0)) (aCons (eC (.int 4)) (aNil)))))) (tst (eOp sEq (eCall bLen (aCons (eVar 7) (aNil))) (eC (.int 0))))) [some (.obj p), some (.seq .lst (sc.map prmU)), some (.int deep), some t.u, some (.int c), some (.int w), a6, some (.seq .lst xs), none, none, none, none, none, none, none, none, none, none] (st pos) = .ok true (st pos) := by
    by_cases h1 : w = 0 ∨ w = 4
    · rcases h1 with rfl | rfl <;> simp [sIn_int2]
    · have h2 : xs = [] := by
        rcases hw with z | z
        · exact absurd z h1
        · exact z
      subst h2
      rw [not_or] at h1
      simp [sIn_int2, Ne.symm h1.1, Ne.symm h1.2, bLen, asSeq, sEq_int]
  rw [hc]
  show sRet _ _ _ = _
  generalize sc.map prmU = scu at k3
  simp [k3, Bd.u]
theorem bdC_no {a0 a1 a2 a3 a4 : Option U} {xs : List U} (h1 : w ≠ 0) (h2 : w ≠ 4) (h3 : xs ≠ []) : bdC S [a0, a1, a2, a3, a4, some (.int w), a6, some (.seq .lst xs), none, none, none, none, none, none, none, none, none, none] h = .nx [a0, a1, a2, a3, a4, some (.int w), a6, some (.seq .lst xs), none, none, none, none, none, none, none, none, none, none] h := by
  unfold bdC
  have hl : ¬ (xs.length : Int) = 0 := by
    have := (List.length_pos_iff.mpr h3)
    omega
  rw [sIf_ap]
  have hc : (tOrM (tst (eOp sIn (eVar 5) (eTup (aCons (eC (.int 0)) (aCons (eC (.int 4)) (aNil)))))) (tst (eOp sEq (eCall bLen (aCons (eVar 7) (aNil))) (eC (.int 0))))) [a0, a1, a2, a3, a4, some (.int w), a6, some (.seq .lst xs), none, none, none, none, none, none, none, none, none, none] h = .ok false h := by
    simp [sIn_int2, Ne.symm h1, Ne.symm h2, bLen, asSeq, sEq_int, h3]
  rw [hc]
  rfl
theorem bdP_do {b : Bd} {p1 p2 : Nat} {a8 a9 a10 a11 : Option U} {sc' : List U} (k : S .law_body [.obj p, .seq .lst sc', .int ((deep : Int) + 1), t.u] (st p1) = .ok b.u (st p2)) :
    bdP S [some (.obj p), some (.seq .lst sc'), some (.int deep), some t.u, some (.int c), some (.int w), a6, a7, a8, a9, a10, a11, none, none, none, none, none, none] (st p1) = .nx [some (.obj p), some (.seq .lst sc'), some (.int deep), some t.u, some (.int c), some (.int w), a6, a7, a8, a9, a10, a11, some b.u, none, none, none, none, none] (st p2) := by
  unfold bdP
  simp [k]
theorem bdQ_do {b : Bd} {p1 p2 : Nat} {a8 a9 a10 a12 : Option U} {sc' mo : List U} (hl : sc'.length + mo.length ≤ 1000) (k : S .law_body [.obj p, .seq .lst (sc' ++ mo), .int ((deep : Int) + 1), t.u] (st p1) = .ok b.u (st p2)) :
    bdQ S [some (.obj p), some (.seq .lst sc'), some (.int deep), some t.u, some (.int c), some (.int w), a6, a7, a8, a9, a10, some (.seq .lst mo), a12, none, none, none, none, none] (st p1) = .nx [some (.obj p), some (.seq .lst sc'), some (.int deep), some t.u, some (.int c), some (.int w), a6, a7, a8, a9, a10, some (.seq .lst mo), a12, some b.u, none, none, none, none] (st p2) := by
  unfold bdQ
  have ha : ∀ H : AH, sAdd (.seq .lst sc') (.seq .lst mo) H = .ok (.seq .lst (sc' ++ mo)) H := fun H => sAdd_lst hl
  simp [k, ha]
theorem bdR_do {a0 a1 a2 a3 a4 a5 a10 : Option U} {mo : List (Str × Ty)} {u8 u9 u12 u13 : U} (hl : mo.length ≤ 3) :
    bdR [a0, a1, a2, a3, a4, a5, a6, a7, some u8, some u9, a10, some (.seq .lst (mo.map prmU)), some u12, some u13, none, none, none, none] h = .rt (.seq .tup (u9 :: u8 :: u12 :: (mo.map (fun q => U.str q.1) ++ [u13]))) h := by
  unfold bdR
  have ec : eLc NN (iSeq (eVar 11)) (tgT [16, 14]) [16, 14] (cYes) (eVar 16) [a0, a1, a2, a3, a4, a5, a6, a7, some u8, some u9, a10, some (.seq .lst (mo.map prmU)), some u12, some u13, none, none, none, none] h = .ok (.seq .lst (mo.map fun q => U.str q.1)) h := by
    refine eLc_ok (l2 := [a0, a1, a2, a3, a4, a5, a6, a7, some u8, some u9, a10, some (.seq .lst (mo.map prmU)), some u12, some u13, none, none, none, none]) (it := itSeq (.seq .lst (mo.map prmU))) rfl rfl ?_
    rw [lcL_of (L := fun u => match u with
      | .seq .tup [x, y] => [a0, a1, a2, a3, a4, a5, a6, a7, some u8, some u9, a10, some (.seq .lst (mo.map prmU)), some u12, some u13, some y, none, some x, none]
      | _ => []) (hit_seq (k := .lst) (us := mo.map prmU)) (fun u hu h => by
        obtain ⟨q, hq, rfl⟩ := List.mem_map.mp hu
        rfl) NN 0 [] h (by simp) (by simp [NN]; omega), List.drop_zero]
    have := compF_filter (φ := prmU) (c := fun _ h => .ok true h) (f := fun u h => match u with
      | .seq .tup [x, y] => .ok x h
      | _ => .bad) (h := h) (p := fun q => true) (g := fun q : Str × Ty => U.str q.1) (fun q => rfl) (fun q => rfl) mo [] (by simp; omega)
    rw [List.filter_eq_self.mpr (fun _ _ => rfl)] at this
    rw [List.nil_append] at this
    rw [← this]
    refine compF_congr (fun u hu h => rfl) (fun u hu h => ?_)
    obtain ⟨q, hq, rfl⟩ := List.mem_map.mp hu
    rfl
  have b1 : bTuple [.seq .lst (mo.map fun q => U.str q.1)] h = .ok (.seq .tup (mo.map fun q => U.str q.1)) h := rfl
  have s1 : sAdd (.seq .tup [u9, u8, u12]) (.seq .tup (mo.map fun q => U.str q.1)) h = .ok (.seq .tup ([u9, u8, u12] ++ mo.map fun q => U.str q.1)) h := sAdd_tup (by simp) (by simp; omega)
  have s2 : sAdd (.seq .tup ([u9, u8, u12] ++ mo.map fun q => U.str q.1)) (.seq .tup [u13]) h = .ok (.seq .tup (([u9, u8, u12] ++ mo.map fun q => U.str q.1) ++ [u13])) h := sAdd_tup (by simp) (by simp; omega)
  generalize (mo.map fun q => U.str q.1) = mu at ec b1 s1 s2 ⊢
  simp only [List.cons_append, List.nil_append] at s1 s2
  simp [-eLc_ap, ec, b1, s1, s2]
end
end Wk
set_option maxRecDepth 100000
set_option maxHeartbeats 400000
/-! P40: `f_lbody`. -/
namespace Wk
open PySem PySem.Spec PyProof.Rows L2

section
variable {p : Nat} {ns : List Str} {hs : List Fd} {sc : List (Str × Ty)} {deep n dd : Nat} {S : SemT} {t : Ty} {c w : Int} {pos : Nat} {st : Nat → AH}
theorem ty_ne {q : Str × Ty} {sc : List (Str × Ty)} (h : q ∈ sc.filter fun q => decide (q.2 ≠ .num)) : q ∈ sc ∧ q.2 ≠ .num := by
  obtain ⟨h1, h2⟩ := List.mem_filter.mp h
  exact ⟨h1, by simpa using h2⟩
def bdO (S : SemT) : MS := sSeq bdX (sSeq bdK (sSeq bdM (sSeq (bdP S) (sSeq (bdQ S) bdR))))
theorem bdO_do (hB : BH S p ns hs deep n t st) (inv : Inv ns sc) (nd : ns.Nodup) (hl : sc.length ≤ 3 + 3 * deep) (hd4 : deep ≤ 4) {x y z : Str} {rest : List Str} (hx : ns.drop sc.length = x :: y :: z :: rest) (hs' : (sc.filter fun q => decide (q.2 ≠ .num)) ≠ []) :
    ∃ b pos', BTy hs sc b t ∧ b.dep ≤ n + 1 ∧ bdO S [some (.obj p), some (.seq .lst (sc.map prmU)), some (.int deep), some t.u, some (.int c), some (.int w), some (.seq .lst ((ns.drop sc.length).map U.str)), some (.seq .lst ((sc.filter fun q => decide (q.2 ≠ .num)).map prmU)), none, none, none, none, none, none, none, none, none, none] (st pos) = .rt b.u (st pos') := by
  unfold bdO
  generalize hfl : (sc.filter fun q => decide (q.2 ≠ .num)) = fl at hs' ⊢
  obtain ⟨⟨x0, s⟩, hq, eX⟩ := bdX_do (h := st pos) (c := c) (xs := fl) (a0 := some (.obj p)) (a1 := some (.seq .lst (sc.map prmU))) (a2 := some (.int deep)) (a3 := some t.u) (a5 := some (.int w)) (a6 := some (.seq .lst ((ns.drop sc.length).map U.str))) hs' (a10 := none) (a11 := none) (a12 := none) (a13 := none) (a14 := none) (a15 := none) (a16 := none) (a17 := none)
  obtain ⟨hq1, hq2⟩ := ty_ne (hfl ▸ hq)
  have hq2 : s ≠ .num := hq2
  obtain ⟨b1, p1, k1, k2, k3⟩ := hB sc pos inv (by omega)
  cases s with
  | num => exact absurd rfl hq2
  | list =>
    obtain ⟨hnd, hfr⟩ := inv.fresh (l := [x, y]) (rest := z :: rest) nd hx
    have fx := hfr x (by simp)
    have fy := hfr y (by simp)
    have hxy : x ≠ y := by simpa using hnd
    obtain ⟨b2, p2, k4, k5, k6⟩ := hB (sc ++ [(x, .num), (y, .list)]) p1 (inv.more (mo := [(x, .num), (y, .list)]) (rest := z :: rest) hx) (by simp; omega)
    refine ⟨.olist x0 b1 x y b2, p2, fun F G hF hG => ⟨hG.at_ _ hq1, hG.no x fx, hG.no y fy, hxy, k1 F G hF hG, ?_⟩, by simp [Bd.dep]; omega, ?_⟩
    · refine k4 F _ hF ?_
      have := (hG.put (s := .num) fx).put (x := y) (s := .list) (by simp only [List.map_append, List.mem_append, not_or]; exact ⟨fy, by simp [Ne.symm hxy]⟩)
      rw [List.append_assoc] at this
      exact this
    rw [List.map_append] at k6
    have eM := bdM_do (h := st pos) (mo := [(x, .num), (y, .list)]) (rest := z :: rest) (ks := kindsOf .list) (xs := ns.drop sc.length) hx rfl (by simp) (a0 := some (.obj p)) (a1 := some (.seq .lst (sc.map prmU))) (a2 := some (.int deep)) (a3 := some t.u) (a4 := some (.int c)) (a5 := some (.int w)) (a7 := some (.seq .lst (fl.map prmU))) (a8 := some (.str x0)) (a9 := some Ty.list.u) (a12 := none) (a13 := none) (a14 := none) (a15 := none) (a16 := none)
    rw [sSeq_nx eX, sSeq_nx (bdK_do hq2), sSeq_nx eM, sSeq_nx (bdP_do k3), sSeq_nx (bdQ_do (by simp; omega) k6), bdR_do (by simp)]
    rfl
  | tree =>
    obtain ⟨hnd, hfr⟩ := inv.fresh (l := [x, y, z]) (rest := rest) nd hx
    have fx := hfr x (by simp)
    have fy := hfr y (by simp)
    have fz := hfr z (by simp)
    obtain ⟨⟨hxy, hxz⟩, hyz⟩ : (x ≠ y ∧ x ≠ z) ∧ y ≠ z := by simpa using hnd
    obtain ⟨b2, p2, k4, k5, k6⟩ := hB (sc ++ [(x, .tree), (y, .num), (z, .tree)]) p1 (inv.more (mo := [(x, .tree), (y, .num), (z, .tree)]) (rest := rest) hx) (by simp; omega)
    refine ⟨.otree x0 b1 x y z b2, p2, fun F G hF hG => ⟨hG.at_ _ hq1, hG.no x fx, hG.no y fy, hG.no z fz, hxy, hxz, hyz, k1 F G hF hG, ?_⟩, by simp [Bd.dep]; omega, ?_⟩
    · refine k4 F _ hF ?_
      have := ((hG.put (s := .tree) fx).put (x := y) (s := .num) (by simp only [List.map_append, List.mem_append, not_or]; exact ⟨fy, by simp [Ne.symm hxy]⟩)).put (x := z) (s := .tree) (by simp only [List.map_append, List.mem_append, not_or]; exact ⟨⟨fz, by simp [Ne.symm hxz]⟩, by simp [Ne.symm hyz]⟩)
      rw [List.append_assoc, List.append_assoc] at this
      exact this
    rw [List.map_append] at k6
    have eM := bdM_do (h := st pos) (mo := [(x, .tree), (y, .num), (z, .tree)]) (rest := rest) (ks := kindsOf .tree) (xs := ns.drop sc.length) hx rfl (by simp) (a0 := some (.obj p)) (a1 := some (.seq .lst (sc.map prmU))) (a2 := some (.int deep)) (a3 := some t.u) (a4 := some (.int c)) (a5 := some (.int w)) (a7 := some (.seq .lst (fl.map prmU))) (a8 := some (.str x0)) (a9 := some Ty.tree.u) (a12 := none) (a13 := none) (a14 := none) (a15 := none) (a16 := none)
    rw [sSeq_nx eX, sSeq_nx (bdK_do hq2), sSeq_nx eM, sSeq_nx (bdP_do k3), sSeq_nx (bdQ_do (by simp; omega) k6), bdR_do (by simp)]
    rfl
theorem bd_tail (hdd : deep + dd = 4) (hw : dd = 0 → w = 0) (hX : XH S p hs sc st) (hB : ∀ n, dd = n + 1 → BH S p ns hs deep n t st) (inv : Inv ns sc) (nd : ns.Nodup) (hn : ns.length = 20) (hl : sc.length ≤ 3 + 3 * deep) :
    ∃ b pos', BTy hs sc b t ∧ b.dep ≤ dd ∧ sSeq (bdA S) (sSeq (bdB S) (sSeq bdS (sSeq (bdC S) (bdO S)))) [some (.obj p), some (.seq .lst (sc.map prmU)), some (.int deep), some t.u, some (.int c), some (.int w), some (.seq .lst ((ns.drop sc.length).map U.str)), none, none, none, none, none, none, none, none, none, none, none] (st pos) = .rt b.u (st pos') := by
  by_cases h2 : w = 2
  · obtain ⟨n, hn'⟩ : ∃ n, dd = n + 1 := by
      cases dd with
      | zero => exact absurd (hw rfl) (by omega)
      | succ n => exact ⟨n, rfl⟩
    obtain ⟨x, rest, hx⟩ : ∃ x rest, ns.drop sc.length = x :: rest := by
      match e : ns.drop sc.length with
      | [] => have := congrArg List.length e; simp at this; omega
      | x :: rest => exact ⟨x, rest, rfl⟩
    subst h2
    obtain ⟨b, p', k1, k2, k3⟩ := bdA_yes (c := c) (pos := pos) hX (hB n hn') inv nd hl (by omega) hx
    exact ⟨b, p', k1, by omega, sSeq_rt k3⟩
  rw [sSeq_nx (bdA_no h2 rfl)]
  by_cases h3 : w = 3
  · obtain ⟨n, hn'⟩ : ∃ n, dd = n + 1 := by
      cases dd with
      | zero => exact absurd (hw rfl) (by omega)
      | succ n => exact ⟨n, rfl⟩
    subst h3
    obtain ⟨b, p', k1, k2, k3⟩ := bdB_yes (c := c) (pos := pos) hX (hB n hn') inv hl (a6 := some (.seq .lst ((ns.drop sc.length).map U.str)))
    exact ⟨b, p', k1, by omega, sSeq_rt k3⟩
  rw [sSeq_nx (bdB_no h3 rfl), sSeq_nx (bdS_do (by omega))]
  by_cases h4 : (w = 0 ∨ w = 4) ∨ (sc.filter fun q => decide (q.2 ≠ .num)).map prmU = []
  · obtain ⟨b, p', k1, k2, k3⟩ := bdC_yes (deep := deep) (t := t) (c := c) (pos := pos) hX h4 (a6 := some (.seq .lst ((ns.drop sc.length).map U.str)))
    exact ⟨b, p', k1, by omega, sSeq_rt k3⟩
  rw [not_or, not_or] at h4
  obtain ⟨⟨h40, h44⟩, h5⟩ := h4
  obtain ⟨n, hn'⟩ : ∃ n, dd = n + 1 := by
    cases dd with
    | zero => exact absurd (hw rfl) h40
    | succ n => exact ⟨n, rfl⟩
  rw [sSeq_nx (bdC_no h40 h44 h5)]
  obtain ⟨x, y, z, rest, hx⟩ : ∃ x y z rest, ns.drop sc.length = x :: y :: z :: rest := by
    match e : ns.drop sc.length with
    | [] => have := congrArg List.length e; simp at this; omega
    | [x] => have := congrArg List.length e; simp at this; omega
    | [x, y] => have := congrArg List.length e; simp at this; omega
    | x :: y :: z :: rest => exact ⟨x, y, z, rest, rfl⟩
  obtain ⟨b, p', k1, k2, k3⟩ := bdO_do (c := c) (w := w) (pos := pos) (hB n hn') inv nd hl (by omega) hx (fun e => h5 (by rw [e]; rfl))
  exact ⟨b, p', k1, by omega, k3⟩
end
section
variable {G : AH} {p : Nat} {cells : List Int} {ns : List Str} {hs : List Fd} {S : SemT}
theorem bd_body {sc : List (Str × Ty)} {deep dd pos : Nat} {t : Ty} (hp : p < G.length) (hdd : deep + dd = 4) (inv : Inv ns sc) (nd : ns.Nodup) (hn : ns.length = 20) (hl : sc.length ≤ 3 + 3 * deep)
    (hT : ∀ pos, ∃ c : Int, 0 ≤ c ∧ S .law_take [.obj p] (stG G p cells (.seq .lst (ns.map U.str)) (.seq .lst (hs.map headU)) pos) = .ok (.int c) (stG G p cells (.seq .lst (ns.map U.str)) (.seq .lst (hs.map headU)) (pos + 1)))
    (hX : XH S p hs sc (fun pos => stG G p cells (.seq .lst (ns.map U.str)) (.seq .lst (hs.map headU)) pos)) (hB : ∀ n, dd = n + 1 → BH S p ns hs deep n t (fun pos => stG G p cells (.seq .lst (ns.map U.str)) (.seq .lst (hs.map headU)) pos)) :
    ∃ b pos', BTy hs sc b t ∧ b.dep ≤ dd ∧ runB 18 (m_law_body S) [.obj p, .seq .lst (sc.map prmU), .int deep, t.u] (stG G p cells (.seq .lst (ns.map U.str)) (.seq .lst (hs.map headU)) pos) = .ok b.u (stG G p cells (.seq .lst (ns.map U.str)) (.seq .lst (hs.map headU)) pos') := by
  obtain ⟨c, hc0, hc⟩ := hT pos
  obtain ⟨bt, hbt⟩ : ∃ bt : Int, ((deep < 4 ∧ bt = 1) ∨ (deep = 4 ∧ bt = 0)) ∧ bInt [.bl (decide ((deep : Int) < 4))] = fun H => .ok (.int bt) H := by
    by_cases h : deep < 4
    · exact ⟨1, .inl ⟨h, rfl⟩, by rw [decide_eq_true (show (deep : Int) < 4 by omega)]; rfl⟩
    · exact ⟨0, .inr ⟨by omega, rfl⟩, by rw [decide_eq_false (show ¬ (deep : Int) < 4 by omega)]; rfl⟩
  obtain ⟨hbt, hbi⟩ := hbt
  have e1 : ∀ H : AH, sMod (.int c) (.int 6) H = .ok (.int (c % 6)) H := fun H => sMod_pos (by decide)
  have e2 : ∀ H : AH, sDiv (.int c) (.int 6) H = .ok (.int (c / 6)) H := fun H => sDiv_pos (by decide) (by decide)
  have e3 : ∀ H : AH, sMul (.int (c % 6)) (.int bt) H = .ok (.int (c % 6 * bt)) H := fun H => sMul_r (by omega) (by omega)
  obtain ⟨b, pos', k1, k2, k3⟩ := bd_tail (c := c / 6) (w := c % 6 * bt) (pos := pos + 1) hdd (fun h => by
    rcases hbt with ⟨z, _⟩ | ⟨_, z⟩
    · omega
    · rw [z]; omega) hX hB inv nd hn hl
  refine ⟨b, pos', k1, k2, ?_⟩
  have hlt : ∀ (i j : Int) (H : AH), sLt (.int i) (.int j) H = .ok (.bl (decide (i < j))) H := fun _ _ _ => rfl
  have t1 : sSet 4 (eCall (arity 1 (S .law_take)) (aCons (eVar 0) (aNil))) [some (.obj p), some (.seq .lst (sc.map prmU)), some (.int deep), some t.u, none, none, none, none, none, none, none, none, none, none, none, none, none, none] (stG G p cells (.seq .lst (ns.map U.str)) (.seq .lst (hs.map headU)) pos) = .nx [some (.obj p), some (.seq .lst (sc.map prmU)), some (.int deep), some t.u, some (.int c), none, none, none, none, none, none, none, none, none, none, none, none, none] (stG G p cells (.seq .lst (ns.map U.str)) (.seq .lst (hs.map headU)) (pos + 1)) := by
    simp [hc]
  have t2 : sSet 5 (eOp sMul (eOp sMod (eVar 4) (eC (.int 6))) (eCall bInt (aCons (eOp sLt (eVar 2) (eC (.int 4))) (aNil)))) [some (.obj p), some (.seq .lst (sc.map prmU)), some (.int deep), some t.u, some (.int c), none, none, none, none, none, none, none, none, none, none, none, none, none] (stG G p cells (.seq .lst (ns.map U.str)) (.seq .lst (hs.map headU)) (pos + 1)) = .nx [some (.obj p), some (.seq .lst (sc.map prmU)), some (.int deep), some t.u, some (.int c), some (.int (c % 6 * bt)), none, none, none, none, none, none, none, none, none, none, none, none] (stG G p cells (.seq .lst (ns.map U.str)) (.seq .lst (hs.map headU)) (pos + 1)) := by
    simp [-sIntC_int, -sIntB_int, e1, hlt, hbi, e3]
  have t3 : sSet 4 (eOp sDiv (eVar 4) (eC (.int 6))) [some (.obj p), some (.seq .lst (sc.map prmU)), some (.int deep), some t.u, some (.int c), some (.int (c % 6 * bt)), none, none, none, none, none, none, none, none, none, none, none, none] (stG G p cells (.seq .lst (ns.map U.str)) (.seq .lst (hs.map headU)) (pos + 1)) = .nx [some (.obj p), some (.seq .lst (sc.map prmU)), some (.int deep), some t.u, some (.int (c / 6)), some (.int (c % 6 * bt)), none, none, none, none, none, none, none, none, none, none, none, none] (stG G p cells (.seq .lst (ns.map U.str)) (.seq .lst (hs.map headU)) (pos + 1)) := by
    simp [-sIntC_int, e2]
  rw [m_lbody_is, runB_ap]
  have e9 : ([U.obj p, U.seq .lst (sc.map prmU), U.int deep, t.u].map some ++ List.replicate (18 - [U.obj p, U.seq .lst (sc.map prmU), U.int deep, t.u].length) none : Loc) = [some (.obj p), some (.seq .lst (sc.map prmU)), some (.int deep), some t.u, none, none, none, none, none, none, none, none, none, none, none, none, none, none] := rfl
  rw [e9, sSeq_nx t1, sSeq_nx t2, sSeq_nx t3, sSeq_nx (bdN_do hp (by omega))]
  unfold bdO at k3
  rw [k3]
  rfl
theorem heads_pure (hs : List Fd) : pureU (.seq .lst (hs.map headU)) = true := by
  show pureUs (hs.map headU) = true
  induction hs with
  | nil => rfl
  | cons d hs ih => simp [pureUs, headU_pure, ih]
theorem names_pure (ns : List Str) : pureU (.seq .lst (ns.map U.str)) = true := by
  show pureUs (ns.map U.str) = true
  induction ns with
  | nil => rfl
  | cons d ns ih => simp [pureUs, pureU, ih]
theorem f_lbody (ok : Okh G) (hp : p < G.length) (nd : ns.Nodup) (hn : ns.length = 20) (hhs : hs.length ≤ 900) (hf : ∀ d ∈ hs, d.params.length ≤ 3) : ∀ (dd deep : Nat) (k : Nat) (t : Ty) (sc : List (Str × Ty)) (pos : Nat), deep + dd = 4 → Inv ns sc → sc.length ≤ 3 + 3 * deep →
    ∃ b pos', BTy hs sc b t ∧ b.dep ≤ dd ∧ sem (k + dd + 6) .law_body [.obj p, .seq .lst (sc.map prmU), .int deep, t.u] (stG G p cells (.seq .lst (ns.map U.str)) (.seq .lst (hs.map headU)) pos) = .ok b.u (stG G p cells (.seq .lst (ns.map U.str)) (.seq .lst (hs.map headU)) pos')
  | dd, deep, k, t, sc, pos, hdd, inv, hl => by
    have hnm := names_pure ns
    have hhd := heads_pure hs
    obtain ⟨b, pos', k1, k2, k3⟩ := bd_body (S := sem (k + dd + 5)) (deep := deep) (dd := dd) (cells := cells) (t := t) (pos := pos) (hs := hs) hp hdd inv nd hn hl (fun pos => f_take (k := k + dd + 4) ok hp hnm hhd) (fun t pos => f_expr (cells := cells) ok hnm hp (sc := sc) (by omega) hhs hf 3 0 (k + dd) t pos rfl) (fun n hn' sc' pos inv' hl' => by
      subst hn'
      exact f_lbody ok hp nd hn hhs hf n (deep + 1) k t sc' pos (by omega) inv' hl')
    refine ⟨b, pos', k1, k2, ?_⟩
    have e0 : ∀ us H, sem (k + dd + 6) .law_body us H = Wk.runC 18 (m_law_body (sem (k + dd + 5))) us H := fun us H => rfl
    rw [e0, runC_ap, k3]
    exact clean_same (by simp [stG_len]) (stG_ok ok hnm hhd) (below_pure _ b.pure)
end
end Wk
set_option maxRecDepth 100000
set_option maxHeartbeats 400000
/-! P41: twenty names. -/
namespace Wk
open PySem PySem.Spec PyProof.Rows L2

theorem eOp_ok {f : U → U → AH → Out U} {a b : ME} {ls : Loc} {h h1 h2 : AH} {u w : U} {r : Out U} (ha : a ls h = .ok u h1) (hb : b ls h1 = .ok w h2) (hf : f u w h2 = r) : eOp f a b ls h = r := by
  rw [eOp_ap, ha, Out.bind_ok, hb, Out.bind_ok, hf]
theorem nm_ec {d : Int} {m : Nat} {h : AH} (hm8 : m ≤ 8) : lcL (itRange (m : Int)) (tgN 6) cYes (eOp sMod (eOp sAdd (eOp sDiv (eVar 0) (eOp sAdd (eVar 6) (eC (.int 1)))) (eOp sMul (eVar 6) (eVar 6))) (eC (.int 23))) [some (.int d), some (.int 20), some (.str letS), none, none, none, none, none, none] NN 0 [] h = .ok (((List.range m).map fun (j : Nat) => ((d / ((j : Int) + 1) + (j : Int) * j) % 23).toNat).map natU) h := by
  have hf : ∀ (j : Nat), j < m → ∀ x0 x1 x2 : Option U, x0 = some (.int d) → (eOp sMod (eOp sAdd (eOp sDiv (eVar 0) (eOp sAdd (eVar 6) (eC (.int 1)))) (eOp sMul (eVar 6) (eVar 6))) (eC (.int 23))) [x0, x1, x2, none, none, none, some (.int j), none, none] h = .ok (.int ((d / ((j : Int) + 1) + (j : Int) * j) % 23)) h := by
    intro j hj x0 x1 x2 e0
    subst e0
    have q1 : ∀ H : AH, sDiv (.int d) (.int ((j : Int) + 1)) H = .ok (.int (d / ((j : Int) + 1))) H := fun H => sDiv_pos (by omega) (Int.lt_of_le_of_lt (b := 1000) (by omega) (by decide))
    have q2 : ∀ H : AH, sMul (.int (j : Int)) (.int (j : Int)) H = .ok (.int ((j : Int) * j)) H := fun H => sMul_r (by omega) (by omega)
    have q3 : ∀ (i : Int) (H : AH), sMod (.int i) (.int 23) H = .ok (.int (i % 23)) H := fun i H => sMod_pos (by decide)
    exact eOp_ok (eOp_ok (eOp_ok rfl (eOp_ok rfl rfl rfl) (q1 h)) (eOp_ok rfl rfl (q2 h)) rfl) rfl (q3 _ h)
  have := lcL_map (it := itRange (m : Int)) (T := tgN 6) (me := eOp sMod (eOp sAdd (eOp sDiv (eVar 0) (eOp sAdd (eVar 6) (eC (.int 1)))) (eOp sMul (eVar 6) (eVar 6))) (eC (.int 23))) (ls0 := [some (.int d), some (.int 20), some (.str letS), none, none, none, none, none, none]) (us := (List.range m).map fun (i : Nat) => U.int (i : Int)) (h := h)
    (L := fun u => [some (.int d), some (.int 20), some (.str letS), none, none, none, some u, none, none])
    (f := fun u => match u with
      | .int j => .int ((d / (j + 1) + j * j) % 23)
      | _ => .non) (fun j hj => hit_range j h hj) (fun u _ => rfl) (fun u hu => by
        obtain ⟨j, hj, rfl⟩ := List.mem_map.mp hu
        exact hf j (List.mem_range.mp hj) _ _ _ rfl) (by simp; omega) NN 0 [] (by simp) (by simp [NN]; omega) rfl
  rw [this]
  simp only [List.nil_append, List.drop_zero, List.map_map]
  congr 1
  refine List.map_congr_left fun j hj => ?_
  have h0 := Int.emod_nonneg (d / ((j : Int) + 1) + (j : Int) * j) (show (23 : Int) ≠ 0 by decide)
  simp only [Function.comp, natU]
  rw [Int.toNat_of_nonneg h0]
theorem f_names {k : Nat} {c : Int} {h : AH} (ok : Okh h) : ∃ ns : List Str, ns.length = 20 ∧ ns.Nodup ∧ (∀ x ∈ ns, PyData.strOk x = true) ∧ sem (k + 1) .law_names [.int c, .int 20] h = .ok (.seq .lst (ns.map U.str)) h := by
  obtain ⟨d, hd⟩ : ∃ d : Int, c % M9 = d ∧ 0 ≤ d := ⟨_, rfl, Int.emod_nonneg _ (by decide)⟩
  obtain ⟨hd, hd0⟩ := hd
  obtain ⟨m, hm⟩ : ∃ m : Nat, (m : Int) = 1 + d % 8 ∧ 1 ≤ m ∧ m ≤ 8 := ⟨(1 + d % 8).toNat, by omega, by omega, by omega⟩
  obtain ⟨hm, hm1, hm8⟩ := hm
  obtain ⟨w, hw⟩ : ∃ w : List Nat, w = (List.range m).map fun (j : Nat) => ((d / ((j : Int) + 1) + (j : Int) * j) % 23).toNat := ⟨_, rfl⟩
  have hwl : w.length = m := by rw [hw]; simp
  have hw23 : ∀ x ∈ w, x < 23 := fun x hx => by
    rw [hw] at hx
    obtain ⟨j, _, rfl⟩ := List.mem_map.mp hx
    have h1 := Int.emod_lt_of_pos (d / ((j : Int) + 1) + (j : Int) * j) (show (0 : Int) < 23 by decide)
    omega
  obtain ⟨a, ha⟩ : ∃ a : Nat, (a : Int) = d / 8 % m ∧ a < m := by
    have h1 := Int.emod_nonneg (d / 8) (show (m : Int) ≠ 0 by omega)
    have h2 := Int.emod_lt_of_pos (d / 8) (show (0 : Int) < m by omega)
    exact ⟨(d / 8 % m).toNat, by omega, by omega⟩
  obtain ⟨ha, ham⟩ := ha
  refine ⟨(List.range 20).map (nameAt w a), by simp, ?_, ?_, ?_⟩
  · rw [List.Nodup, List.pairwise_map]
    refine List.Pairwise.imp_of_mem (fun {x y} hx hy hne e => hne ?_) (List.nodup_range (n := 20))
    exact nameAt_inj (by omega) (List.mem_range.mp hx) (List.mem_range.mp hy) e
  · intro x hx
    obtain ⟨j, _, rfl⟩ := List.mem_map.mp hx
    exact wordS_ok _
  · obtain ⟨J', o6', o7', el⟩ := nam_loop (h := h) (w := w) (a := a) (x0 := some (.int d)) (x1 := some (.int 20)) (by omega) (by omega) hw23 20 0 [] none none none (by omega)
    have ep : ∀ H : AH, sPow (.int 10) (.int 9) H = .ok (.int M9) H := fun H => sPow10 (by decide) (by decide)
    have em : ∀ H : AH, sMod (.int c) (.int M9) H = .ok (.int d) H := fun H => by rw [sMod_pos (by decide), hd]
    have t1 : sSet 2 (eC (.str ("abcdfghjkmnopqrstuvwxyz" : Str))) [some (.int c), some (.int 20), none, none, none, none, none, none, none] h = .nx [some (.int c), some (.int 20), some (.str letS), none, none, none, none, none, none] h := by simp [letS]
    have t2 : sSet 0 (eOp sMod (eVar 0) (eOp sPow (eC (.int 10)) (eC (.int 9)))) [some (.int c), some (.int 20), some (.str letS), none, none, none, none, none, none] h = .nx [some (.int d), some (.int 20), some (.str letS), none, none, none, none, none, none] h := by
      simp [-sIntC_int, ep, em]
    have em8 : ∀ H : AH, sMod (.int d) (.int 8) H = .ok (.int (d % 8)) H := fun H => sMod_pos (by decide)
    have hir : iRange (eOp sAdd (eC (.int 1)) (eOp sMod (eVar 0) (eC (.int 8)))) [some (.int d), some (.int 20), some (.str letS), none, none, none, none, none, none] h = .ok (itRange (m : Int)) h := by
      refine y3 (by omega) ?_
      simp [-sIntC_int, em8, hm]
    have ec : lcL (itRange (m : Int)) (tgN 6) cYes (eOp sMod (eOp sAdd (eOp sDiv (eVar 0) (eOp sAdd (eVar 6) (eC (.int 1)))) (eOp sMul (eVar 6) (eVar 6))) (eC (.int 23))) [some (.int d), some (.int 20), some (.str letS), none, none, none, none, none, none] NN 0 [] h = .ok (w.map natU) h := by
      rw [hw]
      exact nm_ec hm8
    have t3 : sSet 3 (eLc NN (iRange (eOp sAdd (eC (.int 1)) (eOp sMod (eVar 0) (eC (.int 8))))) (tgN 6) [6] (cYes) (eOp sMod (eOp sAdd (eOp sDiv (eVar 0) (eOp sAdd (eVar 6) (eC (.int 1)))) (eOp sMul (eVar 6) (eVar 6))) (eC (.int 23)))) [some (.int d), some (.int 20), some (.str letS), none, none, none, none, none, none] h = .nx [some (.int d), some (.int 20), some (.str letS), some (.seq .lst (w.map natU)), none, none, none, none, none] h := by
      exact sSet_ok (eLc_ok hir rfl ec) rfl
    have em9 : ∀ H : AH, sDiv (.int d) (.int 8) H = .ok (.int (d / 8)) H := fun H => sDiv_pos (by decide) (by decide)
    have ema : ∀ H : AH, sMod (.int (d / 8)) (.int (m : Int)) H = .ok (.int a) H := fun H => by rw [sMod_pos (by omega), ha]
    have t4 : sSet 4 (eOp sMod (eOp sDiv (eVar 0) (eC (.int 8))) (eCall bLen (aCons (eVar 3) (aNil)))) [some (.int d), some (.int 20), some (.str letS), some (.seq .lst (w.map natU)), none, none, none, none, none] h = .nx [some (.int d), some (.int 20), some (.str letS), some (.seq .lst (w.map natU)), some (.int a), none, none, none, none] h := by
      simp [-sIntC_int, em9, bLen, asSeq, hwl, ema]
    have t5 : sSet 5 (eNew (aNil)) [some (.int d), some (.int 20), some (.str letS), some (.seq .lst (w.map natU)), some (.int a), none, none, none, none] h = .nx [some (.int d), some (.int 20), some (.str letS), some (.seq .lst (w.map natU)), some (.int a), some (.obj h.length), none, none, none] (nmH h ((List.range 0).map (nameAt w a)) []) := by
      simp [nmH]
    have t6 : sFor NN (iRange (eVar 1)) (tgN 6) namB [some (.int d), some (.int 20), some (.str letS), some (.seq .lst (w.map natU)), some (.int a), some (.obj h.length), none, none, none] (nmH h ((List.range 0).map (nameAt w a)) []) = .nx [some (.int d), some (.int 20), some (.str letS), some (.seq .lst (w.map natU)), some (.int a), some (.obj h.length), o6', o7', none] (nmH h ((List.range 20).map (nameAt w a)) J') := by
      have hi2 : iRange (eVar 1) [some (.int d), some (.int 20), some (.str letS), some (.seq .lst (w.map natU)), some (.int a), some (.obj h.length), none, none, none] (nmH h ((List.range 0).map (nameAt w a)) []) = .ok (itRange ((20 : Nat) : Int)) (nmH h ((List.range 0).map (nameAt w a)) []) := y3 (by omega) rfl
      have key : forL (itRange ((20 : Nat) : Int)) (tgN 6) namB NN 0 [some (.int d), some (.int 20), some (.str letS), some (.seq .lst (w.map natU)), some (.int a), some (.obj h.length), none, none, none] (nmH h ((List.range 0).map (nameAt w a)) []) = .nx [some (.int d), some (.int 20), some (.str letS), some (.seq .lst (w.map natU)), some (.int a), some (.obj h.length), o6', o7', none] (nmH h ((List.range 20).map (nameAt w a)) J') := by
        rw [forL_of hit_range NN 0 _ _ (by simp) (by simp [NN]), List.drop_zero, List.range_eq_range']
        exact el
      exact sFor_ok hi2 key
    have e : runB 9 (m_law_names (sem k)) [.int c, .int 20] h = .ok (.obj h.length) (nmH h ((List.range 20).map (nameAt w a)) J') := by
      have em0 : m_law_names (sem k) = sSeq (sSet 2 (eC (.str ("abcdfghjkmnopqrstuvwxyz" : Str)))) (sSeq (sSet 0 (eOp sMod (eVar 0) (eOp sPow (eC (.int 10)) (eC (.int 9))))) (sSeq (sSet 3 (eLc NN (iRange (eOp sAdd (eC (.int 1)) (eOp sMod (eVar 0) (eC (.int 8))))) (tgN 6) [6] (cYes) (eOp sMod (eOp sAdd (eOp sDiv (eVar 0) (eOp sAdd (eVar 6) (eC (.int 1)))) (eOp sMul (eVar 6) (eVar 6))) (eC (.int 23))))) (sSeq (sSet 4 (eOp sMod (eOp sDiv (eVar 0) (eC (.int 8))) (eCall bLen (aCons (eVar 3) (aNil))))) (sSeq (sSet 5 (eNew (aNil))) (sSeq (sFor NN (iRange (eVar 1)) (tgN 6) namB) (sRet (eVar 5))))))) := rfl
      rw [em0, runB_ap]
      have e9 : ([U.int c, U.int 20].map some ++ List.replicate (9 - [U.int c, U.int 20].length) none : Loc) = [some (.int c), some (.int 20), none, none, none, none, none, none, none] := rfl
      rw [e9, sSeq_nx t1, sSeq_nx t2, sSeq_nx t3, sSeq_nx t4, sSeq_nx t5, sSeq_nx t6]
      rfl
    have e0 : ∀ us H, sem (k + 1) .law_names us H = Wk.runC 9 (m_law_names (sem k)) us H := fun us H => rfl
    rw [e0, runC_ap, e]
    generalize (List.range 20).map (nameAt w a) = ns
    have hp : pureUs (ns.map U.str) = true := by
      induction ns with
      | nil => rfl
      | cons x ns ih => simp [pureUs, pureU, ih]
    refine clean_of (n := h.length) (u := .obj h.length) (u' := .seq .lst (ns.map U.str)) (h := nmH h ns J') (h' := h) ?_ (by unfold nmH; exact List.take_left) ok
    unfold frz
    have hb : belowUs h.length (ns.map U.str) = true := belows_pure _ hp
    rw [if_neg (Nat.lt_irrefl _), nm_get]
    simp only [hb, if_true, frzs_below _ hb, Option.map_some]
end Wk
set_option maxRecDepth 100000
set_option maxHeartbeats 400000
/-! P42: the drawn program: its bodies in turn; that it is right. -/
namespace Wk
open PySem PySem.Spec PyProof.Rows L2

theorem scOk0 : ∀ {ps : List (Str × Ty)}, (ps.map (·.1)).Nodup → ScOk ps (gam0 ps)
  | [], _ => ⟨fun q h => (by cases h), fun x _ => rfl⟩
  | (x, t) :: ps, nd => by
    rw [List.map_cons, List.nodup_cons] at nd
    obtain ⟨h1, h2⟩ := nd
    have ih := scOk0 h2
    refine ⟨fun q hq => ?_, fun y hy => ?_⟩
    · simp only [gam0]
      rcases List.mem_cons.mp hq with rfl | z
      · rw [if_pos rfl]
      · have : q.1 ≠ x := fun e => h1 (e ▸ List.mem_map.mpr ⟨q, z, rfl⟩)
        rw [if_neg this]
        exact ih.at_ q z
    · rw [List.map_cons, List.mem_cons, not_or] at hy
      simp only [gam0]
      rw [if_neg hy.1]
      exact ih.no y hy.2
theorem at_mem : ∀ {P : Pg} {d : Fd}, (P.map (·.name)).Nodup → d ∈ P → P.at d.name = some d
  | [], d, _, h => by cases h
  | e :: P, d, nd, h => by
    rw [List.map_cons, List.nodup_cons] at nd
    unfold Pg.at
    rw [List.find?_cons]
    rcases List.mem_cons.mp h with rfl | z
    · simp
    · have : e.name ≠ d.name := fun q => nd.1 (q ▸ List.mem_map.mpr ⟨d, z, rfl⟩)
      rw [decide_eq_false this]
      exact at_mem nd.2 z
def hdOf (d : Fd) : Str × List (Str × Ty) × Ty := (d.name, d.params, d.gives)
theorem sig_ok {P : Pg} {hs : List Fd} (nd : (P.map (·.name)).Nodup) (h : ∀ e ∈ hs, ∃ d ∈ P, hdOf d = hdOf e) : SigOk hs P.sig := fun e he => by
  obtain ⟨d, hd, q⟩ := h e he
  simp only [hdOf, Prod.mk.injEq] at q
  obtain ⟨q1, q2, q3⟩ := q
  unfold Pg.sig
  rw [← q1, at_mem nd hd, ← q2, ← q3]
  rfl
/-! ### the bodies in turn -/
def pgH (h : AH) (ps : List U) (cells : List Int) (nm hd : U) (pos : Nat) : AH := h ++ [.lst ps, .lst [.seq .lst (cells.map U.int), .int pos, nm, hd]]
section
variable {h : AH} {ps : List U} {cells : List Int} {nm hd : U} {pos : Nat}
theorem pg_st : stG (h ++ [.lst ps, .lst []]) (h.length + 1) cells nm hd pos = pgH h ps cells nm hd pos := by
  simp [stG, pgH, List.set_append]
theorem pg_at : (pgH h ps cells nm hd pos)[h.length]? = some (.lst ps) := by simp [pgH]
theorem pg_set (u : U) : (pgH h ps cells nm hd pos).set h.length (.lst (ps ++ [u])) = pgH h (ps ++ [u]) cells nm hd pos := by simp [pgH, List.set_append]
theorem pg_ok (ok : Okh h) (hp : pureUs ps = true) : Okh (h ++ [.lst ps, .lst []]) := by
  have := (ok.app (x := .lst ps) (belows_pure _ hp)).app (x := .lst []) rfl
  simpa using this
end
theorem pure_app {xs ys : List U} (h1 : pureUs xs = true) (h2 : pureUs ys = true) : pureUs (xs ++ ys) = true := by
  induction xs with
  | nil => exact h2
  | cons x xs ih =>
    simp only [pureUs, Bool.and_eq_true] at h1
    simp [pureUs, h1.1, ih h1.2]
def pgB (S : SemT) : MS := (sExpr (eMt mtAppend (eVar 3) (aCons (eOp sAdd (eVar 6) (eTup (aCons (eCall (arity 4 (S .law_body)) (aCons (eVar 5) (aCons (eCall bList (aCons (eOp sIx (eVar 6) (eC (.int 1))) (aNil))) (aCons (eC (.int 0)) (aCons (eOp sIx (eOp sIx (eVar 6) (eC (.int 2))) (eC (.int 0))) (aNil)))))) (aNil)))) (aNil))))
theorem pg_step {k : Nat} {h : AH} (ok : Okh h) {ns : List Str} {hs : List Fd} {cells : List Int} {a0 a1 a2 a4 a6 a7 a8 a9 : Option U} {d : Fd} {ps : List U} {pos : Nat} (hpu : pureUs ps = true) (hpl : ps.length ≤ 900) (nd : ns.Nodup) (hn : ns.length = 20) (hhs : hs.length ≤ 900) (hf : ∀ d ∈ hs, d.params.length ≤ 3) (hdn : d.params.map (·.1) = ns.take d.params.length) (hd3 : d.params.length ≤ 3) :
    ∃ b pos', BTy hs d.params b d.gives ∧ b.dep ≤ 4 ∧ bodyT (tgN 6) (pgB (sem (k + 10))) (headU d) [a0, a1, a2, some (.obj h.length), a4, some (.obj (h.length + 1)), a6, a7, a8, a9] (pgH h ps cells (.seq .lst (ns.map U.str)) (.seq .lst (hs.map headU)) pos) =
      .nx [a0, a1, a2, some (.obj h.length), a4, some (.obj (h.length + 1)), some (headU d), a7, a8, a9] (pgH h (ps ++ [({ d with body := b } : Fd).u]) cells (.seq .lst (ns.map U.str)) (.seq .lst (hs.map headU)) pos') := by
  obtain ⟨b, pos', k1, k2, k3⟩ := f_lbody (p := h.length + 1) (cells := cells) (pg_ok ok hpu) (by simp) nd hn hhs hf 4 0 k d.gives d.params pos rfl ⟨hdn⟩ (by omega)
  rw [pg_st, pg_st] at k3
  refine ⟨b, pos', k1, k2, ?_⟩
  have k3 : sem (k + 10) .law_body [.obj (h.length + 1), .seq .lst (d.params.map prmU), .int 0, d.gives.u] (pgH h ps cells (.seq .lst (ns.map U.str)) (.seq .lst (hs.map headU)) pos) = .ok b.u (pgH h ps cells (.seq .lst (ns.map U.str)) (.seq .lst (hs.map headU)) pos') := k3
  have eb : bodyT (tgN 6) (pgB (sem (k + 10))) (headU d) [a0, a1, a2, some (.obj h.length), a4, some (.obj (h.length + 1)), a6, a7, a8, a9] (pgH h ps cells (.seq .lst (ns.map U.str)) (.seq .lst (hs.map headU)) pos) = pgB (sem (k + 10)) [a0, a1, a2, some (.obj h.length), a4, some (.obj (h.length + 1)), some (headU d), a7, a8, a9] (pgH h ps cells (.seq .lst (ns.map U.str)) (.seq .lst (hs.map headU)) pos) := rfl
  rw [eb]
  have i1 : ∀ H : AH, sIx (headU d) (.int 1) H = .ok (.seq .tup (d.params.map prmU)) H := fun H => by simp [headU, Fd.head]
  have i2 : ∀ H : AH, (sIx (headU d) (.int 2) H).bind (fun u h1 => sIx u (.int 0) h1) = .ok d.gives.u H := fun H => by simp [headU, Fd.head]
  have ha : ∀ H : AH, sAdd (headU d) (.seq .tup [b.u]) H = .ok ({ d with body := b } : Fd).u H := fun H => sAdd_tup (by simp [Fd.head]) (by simp [Fd.head])
  have hb : ∀ H : AH, bList [.seq .tup (d.params.map prmU)] H = .ok (.seq .lst (d.params.map prmU)) H := fun H => rfl
  have g1 := pg_at (h := h) (ps := ps) (cells := cells) (nm := .seq .lst (ns.map U.str)) (hd := .seq .lst (hs.map headU)) (pos := pos)
  have g2 := pg_at (h := h) (ps := ps) (cells := cells) (nm := .seq .lst (ns.map U.str)) (hd := .seq .lst (hs.map headU)) (pos := pos')
  have g3 := pg_set (h := h) (ps := ps) (cells := cells) (nm := .seq .lst (ns.map U.str)) (hd := .seq .lst (hs.map headU)) (pos := pos') ({ d with body := b } : Fd).u
  have hl9 : ps.length ≤ 999 := by omega
  unfold pgB
  generalize ({ d with body := b } : Fd).u = fu at ha g3 ⊢
  generalize headU d = du at i1 i2 ha ⊢
  generalize d.params.map prmU = pu at k3 i1 hb
  generalize d.gives.u = gu at k3 i2
  generalize pgH h ps cells (.seq .lst (ns.map U.str)) (.seq .lst (hs.map headU)) pos = H1 at g1 k3 ⊢
  generalize pgH h ps cells (.seq .lst (ns.map U.str)) (.seq .lst (hs.map headU)) pos' = H2 at g2 g3 k3 ⊢
  generalize sem (k + 10) = S at k3 ⊢
  simp [isLo, g1, i1, hb, i2, k3, ha, mtAppend, g2, hl9, g3]
theorem pg_loop {k : Nat} {h : AH} (ok : Okh h) {ns : List Str} {hs : List Fd} {cells : List Int} {a0 a1 a2 a4 a7 a8 a9 : Option U} (nd : ns.Nodup) (hn : ns.length = 20) (hhs : hs.length ≤ 900) (hf : ∀ d ∈ hs, d.params.length ≤ 3) : ∀ (gs : List Fd) (ps : List U) (pos : Nat) (a6 : Option U), pureUs ps = true → ps.length + gs.length ≤ 900 → (∀ d ∈ gs, d.params.map (·.1) = ns.take d.params.length ∧ d.params.length ≤ 3) →
    ∃ (ds : List Fd) (pos' : Nat) (a6' : Option U), ds.map hdOf = gs.map hdOf ∧ (∀ d ∈ ds, BTy hs d.params d.body d.gives ∧ d.body.dep ≤ 4) ∧ loopF (bodyT (tgN 6) (pgB (sem (k + 10)))) (gs.map headU) [a0, a1, a2, some (.obj h.length), a4, some (.obj (h.length + 1)), a6, a7, a8, a9] (pgH h ps cells (.seq .lst (ns.map U.str)) (.seq .lst (hs.map headU)) pos) =
      .nx [a0, a1, a2, some (.obj h.length), a4, some (.obj (h.length + 1)), a6', a7, a8, a9] (pgH h (ps ++ ds.map Fd.u) cells (.seq .lst (ns.map U.str)) (.seq .lst (hs.map headU)) pos')
  | [], ps, pos, a6, hp, hl, hg => ⟨[], pos, a6, rfl, fun d hd => (by cases hd), by simp [loopF]⟩
  | d :: gs, ps, pos, a6, hp, hl, hg => by
    rw [List.length_cons] at hl
    obtain ⟨b, p1, k1, k2, k3⟩ := pg_step (k := k) ok (hs := hs) (cells := cells) (a0 := a0) (a1 := a1) (a2 := a2) (a4 := a4) (a6 := a6) (a7 := a7) (a8 := a8) (a9 := a9) (d := d) (pos := pos) hp (by omega) nd hn hhs hf (hg d (by simp)).1 (hg d (by simp)).2
    obtain ⟨ds, p2, a6', k4, k5, k6⟩ := pg_loop (k := k) ok nd hn hhs hf (cells := cells) (a0 := a0) (a1 := a1) (a2 := a2) (a4 := a4) (a7 := a7) (a8 := a8) (a9 := a9) gs (ps ++ [({ d with body := b } : Fd).u]) p1 (some (headU d)) (pure_app hp (by simp [pureUs, Fd.pure])) (by simp; omega) (fun e he => hg e (by simp [he]))
    refine ⟨{ d with body := b } :: ds, p2, a6', by simp [hdOf, k4], fun e he => ?_, ?_⟩
    · rcases List.mem_cons.mp he with rfl | z
      · exact ⟨k1, k2⟩
      · exact k5 e z
    · rw [List.map_cons, loopF, k3]
      simp only
      rw [k6, List.map_cons, List.append_assoc]
      rfl
end Wk
set_option maxRecDepth 100000
set_option maxHeartbeats 400000
/-! P43: `f_program`. -/
namespace Wk
open PySem PySem.Spec PyProof.Rows L2

theorem cut_some {xs : List Int} {lo hi : Option Int} : ∃ cs : List Int, cutU (xs.map U.int) lo hi = cs.map U.int := ⟨(xs.drop (HT.sIx xs.length 0 lo)).take (HT.sIx xs.length xs.length hi - HT.sIx xs.length 0 lo), by
  unfold cutU
  rw [List.length_map, List.map_take, List.map_drop]⟩
theorem cut_drop {us : List U} {n : Nat} (hn : n ≤ us.length) : cutU us (some (n : Int)) none = us.drop n := by
  have := sSl_drop (k := .lst) (us := us) (n := n) (h := []) (by decide) hn
  simpa [sSl, asL] using this
theorem cut_take {us : List U} {n : Nat} : cutU us none (some (n : Int)) = us.take n := by
  have := sSl_take (k := .lst) (us := us) (n := n) (h := []) (by decide)
  simpa [sSl, asL] using this
theorem sSl_obj {i : Nat} {us : List U} {lo hi : Option Int} {H : AH} (g : H[i]? = some (.lst us)) : sSl (.obj i) lo hi H = .ok (.seq .lst (cutU us lo hi)) H := by
  simp [sSl, asL, g]
theorem sSl_head (d : Fd) {H : AH} : sSl d.u none (some 3) H = .ok (headU d) H := by
  have h1 : HT.sIx 4 0 none = 0 := HT.sIx_none _ _
  have h2 : HT.sIx 4 4 (some 3) = 3 := by
    have := HT.sIx_nat 4 4 3
    simpa using this
  simp [Fd.u, Fd.head, sSl, cutU, h1, h2, headU]
def prH (S : SemT) : ME := eCall (arity 3 (S .law_head)) (aCons (eOp sIx (eVar 2) (eOp sAdd (eC (.int 1)) (eVar 8))) (aCons (eVar 2) (aCons (eCall (arity 2 (S .law_cell_at)) (aCons (eVar 0) (aCons (eOp sAdd (eC (.int 2)) (eVar 8)) (aNil)))) (aNil))))
def prN : ME := eNew (aCons (eSl (eVar 0) (oSome (eC (.int 6))) (oSome (eC (.int 54)))) (aCons (eC (.int 0)) (aCons (eVar 2) (aCons (eOp sAdd (eLc NN (iSeq (eVar 3)) (tgN 9) [9] (cYes) (eSl (eVar 9) (oNone) (oSome (eC (.int 3))))) (eVar 4)) (aNil)))))
theorem m_prog_is (S : SemT) : m_law_program S = sSeq (sSet 1 (eOp sMod (eCall (arity 2 (S .law_cell_at)) (aCons (eVar 0) (aCons (eC (.int 0)) (aNil)))) (eOp sPow (eC (.int 10)) (eC (.int 9))))) (sSeq (sSet 2 (eCall (arity 2 (S .law_names)) (aCons (eCall (arity 2 (S .law_cell_at)) (aCons (eVar 0) (aCons (eC (.int 1)) (aNil)))) (aCons (eC (.int 20)) (aNil))))) (sSeq (sSet 3 (eNew (aCons (eCall (arity 2 (S .law_putting)) (aCons (eOp sIx (eVar 2) (eC (.int 0))) (aCons (eSl (eVar 2) (oSome (eC (.int 1))) (oNone)) (aNil)))) (aNil)))) (sSeq (sSet 4 (eLc NN (iRange (eOp sAdd (eC (.int 1)) (eOp sMod (eVar 1) (eC (.int 3))))) (tgN 8) [8] (cYes) (prH S))) (sSeq (sSet 5 prN) (sSeq (sFor NN (iSeq (eVar 4)) (tgN 6) (pgB S)) (sSeq (sSet 7 (eOp sMod (eOp sDiv (eVar 1) (eC (.int 3))) (eCall bLen (aCons (eVar 3) (aNil))))) (sRet (eCall bTuple (aCons (eOp sAdd (eSl (eVar 3) (oSome (eVar 7)) (oNone)) (eSl (eVar 3) (oNone) (oSome (eVar 7)))) (aNil)))))))))) := rfl
theorem prN_do {h : AH} {ns : List Int} {a1 nms : U} {d0 : Fd} {gs : List Fd} (hg : gs.length ≤ 900) : ∃ cells : List Int, prN [some (.seq .ro (ns.map U.int)), some a1, some nms, some (.obj h.length), some (.seq .lst (gs.map headU)), none, none, none, none, none] (h ++ [.lst [d0.u]]) = .ok (.obj (h.length + 1)) (pgH h [d0.u] cells nms (.seq .lst ((d0 :: gs).map headU)) 0) := by
  obtain ⟨cells, hc⟩ := cut_some (xs := ns) (lo := some 6) (hi := some 54)
  refine ⟨cells, ?_⟩
  have e1 : ∀ H : AH, sSl (.seq .ro (ns.map U.int)) (some 6) (some 54) H = .ok (.seq .lst (cells.map U.int)) H := fun H => by
    rw [← hc]; rfl
  have e2 : sAdd (.seq .lst [headU d0]) (.seq .lst (gs.map headU)) (h ++ [.lst [d0.u]]) = .ok (.seq .lst ((d0 :: gs).map headU)) (h ++ [.lst [d0.u]]) := sAdd_lst (by simp; omega)
  have ec : eLc NN (iSeq (eVar 3)) (tgN 9) [9] (cYes) (eSl (eVar 9) (oNone) (oSome (eC (.int 3)))) [some (.seq .ro (ns.map U.int)), some a1, some nms, some (.obj h.length), some (.seq .lst (gs.map headU)), none, none, none, none, none] (h ++ [.lst [d0.u]]) = .ok (.seq .lst [headU d0]) (h ++ [.lst [d0.u]]) := by
    refine eLc_ok (h1 := h ++ [.lst [d0.u]]) (l2 := [some (.seq .ro (ns.map U.int)), some a1, some nms, some (.obj h.length), some (.seq .lst (gs.map headU)), none, none, none, none, none]) (it := itSeq (.obj h.length)) (by simp [asSeq]) rfl ?_
    have := lcL_map (it := itSeq (.obj h.length)) (T := tgN 9) (me := eSl (eVar 9) (oNone) (oSome (eC (.int 3)))) (ls0 := [some (.seq .ro (ns.map U.int)), some a1, some nms, some (.obj h.length), some (.seq .lst (gs.map headU)), none, none, none, none, none]) (us := [d0.u]) (h := h ++ [.lst [d0.u]])
      (L := fun u => [some (.seq .ro (ns.map U.int)), some a1, some nms, some (.obj h.length), some (.seq .lst (gs.map headU)), none, none, none, none, some u])
      (f := fun _ => headU d0) (fun j hj => by simp [itSeq, asSeq]) (fun u _ => rfl) (fun u hu => by
        rw [List.mem_singleton] at hu
        subst hu
        have := sSl_head d0 (H := h ++ [.lst [d0.u]])
        generalize d0.u = du at this ⊢
        simp [this]) (by simp) NN 0 [] (by simp) (by simp [NN]) rfl
    rw [this]
    simp
  unfold prN pgH
  generalize (d0 :: gs).map headU = hu at e2
  generalize d0.u = du at *
  generalize cells.map U.int = cu at e1
  simp [-eLc_ap, e1, ec, e2]
theorem prH_do {k : Nat} {ns : List Int} {names : List Str} {a1 a3 : Option U} {h : AH} (ok : Okh h) (hn : names.length = 20) (i : Nat) (hi : i < 3) : ∃ d : Fd, d.name = names.getD (1 + i) (⟨#[]⟩ : Str) ∧ d.params ≠ [] ∧ d.params.length ≤ 3 ∧ d.params.map (·.1) = names.take d.params.length ∧
    prH (sem (k + 1)) [some (.seq .ro (ns.map U.int)), a1, some (.seq .lst (names.map U.str)), a3, none, none, none, none, some (.int i), none] h = .ok (headU d) h := by
  obtain ⟨d, k1, k2, k3, k4, k5⟩ := f_head (k := k) (c := ns.getD (2 + i) 0) (nm := names.getD (1 + i) (⟨#[]⟩ : Str)) (ns := names) ok (by omega)
  refine ⟨d, k1, k2, k3, k4, ?_⟩
  have e1 : atI (names.map U.str) (1 + (i : Int)) = some (.str (names.getD (1 + i) (⟨#[]⟩ : Str))) := by
    rw [show (1 : Int) + i = ((1 + i : Nat) : Int) by omega]
    refine atI_ofNat ?_
    have : 1 + i < names.length := by omega
    simp [this]
  have e2 : sem (k + 1) .law_cell_at [.seq .ro (ns.map U.int), .int (2 + (i : Int))] h = .ok (.int (ns.getD (2 + i) 0)) h := by
    rw [show (2 : Int) + i = ((2 + i : Nat) : Int) by omega]
    exact f_cell_at ok
  unfold prH
  generalize names.getD (1 + i) (⟨#[]⟩ : Str) = nmi at *
  generalize ns.getD (2 + i) 0 = ci at *
  generalize names.map U.str = nu at *
  generalize sem (k + 1) = S at *
  simp [e1, e2, k5]
end Wk
set_option maxRecDepth 100000
set_option maxHeartbeats 400000
/-! P44: `f_program`. -/
namespace Wk
open PySem PySem.Spec PyProof.Rows L2

theorem FdOk.of {P : Pg} {hs : List Fd} {names : List Str} (nd : names.Nodup) (hstr : ∀ x ∈ names, PyData.strOk x = true) (hs' : SigOk hs P.sig) {d : Fd} (h1 : d.name ∈ names) (h2 : d.params ≠ []) (h3 : d.params.length ≤ 3) (h4 : d.params.map (·.1) = names.take d.params.length) (h5 : BTy hs d.params d.body d.gives) (h6 : d.body.dep ≤ 4) : FdOk P.sig d := by
  have h7 : (d.params.map (·.1)).Nodup := by
    rw [h4]
    exact (List.take_sublist _ _).nodup nd
  exact ⟨hstr _ h1, h7, h3, h2, h5 _ _ hs' (scOk0 h7), by omega⟩
theorem pg_right {names : List Str} {n0 n1 n2 n3 n4 : Str} {rest : List Str} (hn : names = n0 :: n1 :: n2 :: n3 :: n4 :: rest) (nd : names.Nodup) (hstr : ∀ x ∈ names, PyData.strOk x = true) {gs ds : List Fd} {m t : Nat} (hm : m ≤ 3) (hlen : names.length = 20) (hgl : gs.length = m) (hgn : ∀ i (h : i < gs.length), (gs[i]).name = names.getD (1 + i) (⟨#[]⟩ : Str)) (hgp : ∀ d ∈ gs, d.params ≠ [] ∧ d.params.length ≤ 3 ∧ d.params.map (·.1) = names.take d.params.length)
    (hd : ds.map hdOf = gs.map hdOf) (hb : ∀ d ∈ ds, BTy (putFd n0 n1 n2 n3 n4 :: gs) d.params d.body d.gives ∧ d.body.dep ≤ 4) :
    PgOk ((putFd n0 n1 n2 n3 n4 :: ds).drop t ++ (putFd n0 n1 n2 n3 n4 :: ds).take t) := by
  have hdl : ds.length = m := by
    have := congrArg List.length hd
    simpa [hgl] using this
  have hnm : ds.map (·.name) = gs.map (·.name) := by
    have := congrArg (List.map (·.1)) hd
    rw [List.map_map, List.map_map] at this
    exact this
  have hgm : gs.map (·.name) = (names.drop 1).take m := by
    refine List.ext_getElem (by simp; omega) fun i h1 h2 => ?_
    have hi : i < gs.length := by simpa using h1
    rw [List.getElem_map, hgn i hi]
    have : 1 + i < names.length := by omega
    rw [List.getD_eq_getElem?_getD, List.getElem?_eq_getElem this]
    simp [Nat.add_comm 1 i]
  have hall : (putFd n0 n1 n2 n3 n4 :: ds).map (·.name) = names.take (m + 1) := by
    rw [List.map_cons, hnm, hgm, hn]
    rfl
  generalize hP : putFd n0 n1 n2 n3 n4 :: ds = P at *
  have pm : (P.drop t ++ P.take t).Perm P := (List.perm_append_comm).trans (by rw [List.take_append_drop])
  have ndP : (P.map (·.name)).Nodup := by
    rw [hall]
    exact (List.take_sublist _ _).nodup nd
  have ndQ : ((P.drop t ++ P.take t).map (·.name)).Nodup := (pm.map _).nodup_iff.mpr ndP
  have hso : SigOk (putFd n0 n1 n2 n3 n4 :: gs) (Pg.sig (P.drop t ++ P.take t)) := sig_ok ndQ fun e he => by
    have h2 : hdOf e ∈ P.map hdOf := by
      rw [← hP, List.map_cons, hd, ← List.map_cons]
      exact List.mem_map.mpr ⟨e, he, rfl⟩
    obtain ⟨d, hd1, hd2⟩ := List.mem_map.mp h2
    exact ⟨d, pm.mem_iff.mpr hd1, hd2⟩
  refine ⟨ndQ, ?_, fun d hd1 => ?_⟩
  · rw [pm.length_eq, ← hP]
    simp; omega
  have hd2 := pm.mem_iff.mp hd1
  rw [← hP] at hd2
  rcases List.mem_cons.mp hd2 with rfl | z
  · refine put_ok (hso (putFd n0 n1 n2 n3 n4) (by simp)) (hstr _ (by rw [hn]; simp)) ?_
    rw [hn] at nd
    have : (n1 :: n2 :: n3 :: n4 :: rest).Nodup := (List.nodup_cons.mp nd).2
    exact (List.take_sublist 4 _).nodup this
  · obtain ⟨b1, b2⟩ := hb d z
    have h3 : hdOf d ∈ gs.map hdOf := by rw [← hd]; exact List.mem_map.mpr ⟨d, z, rfl⟩
    obtain ⟨e, he, q⟩ := List.mem_map.mp h3
    simp only [hdOf, Prod.mk.injEq] at q
    obtain ⟨q1, q2, q3⟩ := q
    obtain ⟨p1, p2, p3⟩ := hgp e he
    rw [q2] at p1 p2 p3
    refine FdOk.of nd hstr hso ?_ p1 p2 p3 b1 b2
    have : d.name ∈ ds.map (·.name) := List.mem_map.mpr ⟨d, z, rfl⟩
    rw [hnm, hgm] at this
    exact List.mem_of_mem_drop (List.mem_of_mem_take this)
theorem f_program {k : Nat} {ns : List Int} {h : AH} (ok : Okh h) : ∃ P : Pg, PgOk P ∧ P ≠ [] ∧ sem (k + 11) .law_program [.seq .ro (ns.map U.int)] h = .ok P.u h := by
  obtain ⟨names, n20, nd, hstr, eN⟩ := f_names (k := k + 9) (c := ns.getD 1 0) ok
  have ca0 : sem (k + 10) .law_cell_at [.seq .ro (ns.map U.int), .int 0] h = .ok (.int (ns.getD 0 0)) h := f_cell_at (i := 0) ok
  have ca1 : sem (k + 10) .law_cell_at [.seq .ro (ns.map U.int), .int 1] h = .ok (.int (ns.getD 1 0)) h := f_cell_at (i := 1) ok
  have ep : ∀ H : AH, sPow (.int 10) (.int 9) H = .ok (.int M9) H := fun H => sPow10 (by decide) (by decide)
  have em : ∀ (c : Int) (H : AH), sMod (.int c) (.int M9) H = .ok (.int (c % M9)) H := fun c H => sMod_pos (by decide)
  obtain ⟨n0, n1, n2, n3, n4, rest, hn⟩ : ∃ n0 n1 n2 n3 n4 rest, names = n0 :: n1 :: n2 :: n3 :: n4 :: rest := by
    match names, n20 with
    | n0 :: n1 :: n2 :: n3 :: n4 :: rest, _ => exact ⟨n0, n1, n2, n3, n4, rest, rfl⟩
  have eP : sem (k + 10) .law_putting [.str n0, .seq .lst (.str n1 :: .str n2 :: .str n3 :: .str n4 :: rest.map U.str)] h = .ok (putFd n0 n1 n2 n3 n4).u h := f_putting (k := k + 9) ok
  obtain ⟨d0, hd0⟩ : ∃ d0 : Int, ns.getD 0 0 % M9 = d0 := ⟨_, rfl⟩
  obtain ⟨m, hm, hm1, hm3⟩ : ∃ m : Nat, 1 + d0 % 3 = (m : Int) ∧ 1 ≤ m ∧ m ≤ 3 := ⟨(1 + d0 % 3).toNat, by omega, by omega, by omega⟩
  have okp : Okh (h ++ [.lst [(putFd n0 n1 n2 n3 n4).u]]) := ok.app (belows_pure _ (by simp [pureUs, Fd.pure]))
  obtain ⟨D, hD⟩ := Classical.axiomOfChoice (r := fun (i : Nat) (d : Fd) => i < 3 → d.name = names.getD (1 + i) (⟨#[]⟩ : Str) ∧ d.params ≠ [] ∧ d.params.length ≤ 3 ∧ d.params.map (·.1) = names.take d.params.length ∧
    prH (sem (k + 10)) [some (.seq .ro (ns.map U.int)), some (.int d0), some (.seq .lst (names.map U.str)), some (.obj h.length), none, none, none, none, some (.int i), none] (h ++ [.lst [(putFd n0 n1 n2 n3 n4).u]]) = .ok (headU d) (h ++ [.lst [(putFd n0 n1 n2 n3 n4).u]])) (fun i => by
      by_cases hi : i < 3
      · obtain ⟨d, q⟩ := prH_do (k := k + 9) (ns := ns) (a1 := some (.int d0)) (a3 := some (.obj h.length)) okp n20 i hi
        exact ⟨d, fun _ => q⟩
      · exact ⟨putFd n0 n1 n2 n3 n4, fun z => absurd z hi⟩)
  obtain ⟨gs, hgs⟩ : ∃ gs : List Fd, gs = (List.range m).map D := ⟨_, rfl⟩
  have hgl : gs.length = m := by rw [hgs]; simp
  have hgp : ∀ d ∈ gs, d.params ≠ [] ∧ d.params.length ≤ 3 ∧ d.params.map (·.1) = names.take d.params.length := fun d hd => by
    rw [hgs] at hd
    obtain ⟨i, hi, rfl⟩ := List.mem_map.mp hd
    obtain ⟨_, q1, q2, q3, _⟩ := hD i (by have := List.mem_range.mp hi; omega)
    exact ⟨q1, q2, q3⟩
  obtain ⟨cells, eS⟩ := prN_do (h := h) (ns := ns) (a1 := .int d0) (nms := .seq .lst (names.map U.str)) (d0 := putFd n0 n1 n2 n3 n4) (gs := gs) (by omega)
  obtain ⟨ds, pos', a6', k4, k5, el⟩ := pg_loop (k := k) ok nd n20 (hs := putFd n0 n1 n2 n3 n4 :: gs) (by simp; omega) (fun d hd => by
    rcases List.mem_cons.mp hd with rfl | z
    · simp [putFd]
    · exact (hgp d z).2.1) (cells := cells) (a0 := some (.seq .ro (ns.map U.int))) (a1 := some (.int d0)) (a2 := some (.seq .lst (names.map U.str))) (a4 := some (.seq .lst (gs.map headU))) (a7 := none) (a8 := none) (a9 := none) gs [(putFd n0 n1 n2 n3 n4).u] 0 none (by simp [pureUs, Fd.pure]) (by simp; omega) (fun d hd => ⟨(hgp d hd).2.2, (hgp d hd).2.1⟩)
  obtain ⟨P, hP⟩ : ∃ P : Pg, P = putFd n0 n1 n2 n3 n4 :: ds := ⟨_, rfl⟩
  have hPu : [(putFd n0 n1 n2 n3 n4).u] ++ ds.map Fd.u = P.map Fd.u := by rw [hP]; rfl
  rw [hPu] at el
  have hdl : ds.length = m := by
    have := congrArg List.length k4
    simpa [hgl] using this
  have hPl : P.length = m + 1 := by rw [hP]; simp [hdl]
  obtain ⟨t, ht, htl⟩ : ∃ t : Nat, d0 / 3 % (P.length : Int) = (t : Int) ∧ t < P.length := by
    have h0 := Int.emod_nonneg (d0 / 3) (show (P.length : Int) ≠ 0 by omega)
    have h1 := Int.emod_lt_of_pos (d0 / 3) (show (0 : Int) < P.length by omega)
    exact ⟨(d0 / 3 % (P.length : Int)).toNat, by omega, by omega⟩
  refine ⟨P.drop t ++ P.take t, ?_, fun e => ?_, ?_⟩
  · rw [hP]
    exact pg_right hn nd hstr hm3 n20 hgl (fun i hi => by
      have : i < 3 := by omega
      have q := (hD i this).1
      simp only [hgs, List.getElem_map, List.getElem_range]
      exact q) hgp k4 k5
  · have := congrArg List.length e
    simp at this; omega
  have hfin : (pgH h (P.map Fd.u) cells (.seq .lst (names.map U.str)) (.seq .lst ((putFd n0 n1 n2 n3 n4 :: gs).map headU)) pos')[h.length]? = some (.lst (P.map Fd.u)) := pg_at
  generalize hHF : pgH h (P.map Fd.u) cells (.seq .lst (names.map U.str)) (.seq .lst ((putFd n0 n1 n2 n3 n4 :: gs).map headU)) pos' = HF at el hfin
  have t1 : sSet 1 (eOp sMod (eCall (arity 2 (sem (k + 10) .law_cell_at)) (aCons (eVar 0) (aCons (eC (.int 0)) (aNil)))) (eOp sPow (eC (.int 10)) (eC (.int 9)))) [some (.seq .ro (ns.map U.int)), none, none, none, none, none, none, none, none, none] h = .nx [some (.seq .ro (ns.map U.int)), some (.int d0), none, none, none, none, none, none, none, none] h := by
    have em' := em (ns.getD 0 0)
    rw [hd0] at em'
    generalize ns.getD 0 0 = c0 at ca0 em'
    generalize sem (k + 10) = S at ca0 ⊢
    simp [-sIntC_int, ca0, ep, em']
  have t2 : sSet 2 (eCall (arity 2 (sem (k + 10) .law_names)) (aCons (eCall (arity 2 (sem (k + 10) .law_cell_at)) (aCons (eVar 0) (aCons (eC (.int 1)) (aNil)))) (aCons (eC (.int 20)) (aNil)))) [some (.seq .ro (ns.map U.int)), some (.int d0), none, none, none, none, none, none, none, none] h = .nx [some (.seq .ro (ns.map U.int)), some (.int d0), some (.seq .lst (names.map U.str)), none, none, none, none, none, none, none] h := by
    generalize ns.getD 1 0 = c1 at ca1 eN
    have eN : sem (k + 10) .law_names [.int c1, .int 20] h = .ok (.seq .lst (names.map U.str)) h := eN
    generalize names.map U.str = nu at eN ⊢
    generalize sem (k + 10) = S at ca1 eN ⊢
    simp [ca1, eN]
  have t3 : sSet 3 (eNew (aCons (eCall (arity 2 (sem (k + 10) .law_putting)) (aCons (eOp sIx (eVar 2) (eC (.int 0))) (aCons (eSl (eVar 2) (oSome (eC (.int 1))) (oNone)) (aNil)))) (aNil))) [some (.seq .ro (ns.map U.int)), some (.int d0), some (.seq .lst (names.map U.str)), none, none, none, none, none, none, none] h = .nx [some (.seq .ro (ns.map U.int)), some (.int d0), some (.seq .lst (names.map U.str)), some (.obj h.length), none, none, none, none, none, none] (h ++ [.lst [(putFd n0 n1 n2 n3 n4).u]]) := by
    have i0 : ∀ H : AH, sIx (.seq .lst (names.map U.str)) (.int 0) H = .ok (.str n0) H := fun H => by rw [hn]; simp
    have i1 : ∀ H : AH, sSl (.seq .lst (names.map U.str)) (some 1) none H = .ok (.seq .lst (.str n1 :: .str n2 :: .str n3 :: .str n4 :: rest.map U.str)) H := fun H => by
      have := sSl_drop (k := .lst) (us := names.map U.str) (n := 1) (h := H) (by decide) (by simp; omega)
      rw [hn] at this ⊢
      exact this
    generalize (putFd n0 n1 n2 n3 n4).u = pu at eP ⊢
    generalize names.map U.str = nu at i0 i1 ⊢
    generalize sem (k + 10) = S at eP ⊢
    simp [i0, i1, eP, -sIx_seq]
  have t4 : sSet 4 (eLc NN (iRange (eOp sAdd (eC (.int 1)) (eOp sMod (eVar 1) (eC (.int 3))))) (tgN 8) [8] (cYes) (prH (sem (k + 10)))) [some (.seq .ro (ns.map U.int)), some (.int d0), some (.seq .lst (names.map U.str)), some (.obj h.length), none, none, none, none, none, none] (h ++ [.lst [(putFd n0 n1 n2 n3 n4).u]]) = .nx [some (.seq .ro (ns.map U.int)), some (.int d0), some (.seq .lst (names.map U.str)), some (.obj h.length), some (.seq .lst (gs.map headU)), none, none, none, none, none] (h ++ [.lst [(putFd n0 n1 n2 n3 n4).u]]) := by
    have em3 : ∀ H : AH, sMod (.int d0) (.int 3) H = .ok (.int (d0 % 3)) H := fun H => sMod_pos (by decide)
    refine sSet_ok (eLc_ok (h1 := h ++ [.lst [(putFd n0 n1 n2 n3 n4).u]]) (l2 := [some (.seq .ro (ns.map U.int)), some (.int d0), some (.seq .lst (names.map U.str)), some (.obj h.length), none, none, none, none, none, none]) (it := itRange (m : Int)) (y3 (by omega) ?_) rfl ?_) rfl
    · simp [-sIntC_int, em3, hm]
    have := lcL_map (it := itRange (m : Int)) (T := tgN 8) (me := prH (sem (k + 10))) (ls0 := [some (.seq .ro (ns.map U.int)), some (.int d0), some (.seq .lst (names.map U.str)), some (.obj h.length), none, none, none, none, none, none]) (us := (List.range m).map fun (i : Nat) => U.int (i : Int)) (h := h ++ [.lst [(putFd n0 n1 n2 n3 n4).u]])
      (L := fun u => [some (.seq .ro (ns.map U.int)), some (.int d0), some (.seq .lst (names.map U.str)), some (.obj h.length), none, none, none, none, some u, none])
      (f := fun u => match u with
        | .int j => headU (D j.toNat)
        | _ => .non) (fun j hj => hit_range j _ hj) (fun u _ => rfl) (fun u hu => by
          obtain ⟨j, hj, rfl⟩ := List.mem_map.mp hu
          have hjl : j < m := List.mem_range.mp hj
          exact (hD j (by omega)).2.2.2.2) (by simp; omega) NN 0 [] (by simp) (by simp [NN]; omega) rfl
    rw [this, hgs]
    congr 1
    rw [List.nil_append, List.drop_zero, List.map_map, List.map_map]
    rfl
  have t5 : sSet 5 prN [some (.seq .ro (ns.map U.int)), some (.int d0), some (.seq .lst (names.map U.str)), some (.obj h.length), some (.seq .lst (gs.map headU)), none, none, none, none, none] (h ++ [.lst [(putFd n0 n1 n2 n3 n4).u]]) = .nx [some (.seq .ro (ns.map U.int)), some (.int d0), some (.seq .lst (names.map U.str)), some (.obj h.length), some (.seq .lst (gs.map headU)), some (.obj (h.length + 1)), none, none, none, none] (pgH h [(putFd n0 n1 n2 n3 n4).u] cells (.seq .lst (names.map U.str)) (.seq .lst ((putFd n0 n1 n2 n3 n4 :: gs).map headU)) 0) := sSet_ok eS rfl
  have t6 : sFor NN (iSeq (eVar 4)) (tgN 6) (pgB (sem (k + 10))) [some (.seq .ro (ns.map U.int)), some (.int d0), some (.seq .lst (names.map U.str)), some (.obj h.length), some (.seq .lst (gs.map headU)), some (.obj (h.length + 1)), none, none, none, none] (pgH h [(putFd n0 n1 n2 n3 n4).u] cells (.seq .lst (names.map U.str)) (.seq .lst ((putFd n0 n1 n2 n3 n4 :: gs).map headU)) 0) = .nx [some (.seq .ro (ns.map U.int)), some (.int d0), some (.seq .lst (names.map U.str)), some (.obj h.length), some (.seq .lst (gs.map headU)), some (.obj (h.length + 1)), a6', none, none, none] HF := by
    refine sFor_ok (it := itSeq (.seq .lst (gs.map headU))) rfl ?_
    rw [forL_of (hit_seq (k := .lst) (us := gs.map headU)) NN 0 _ _ (by simp) (by simp [NN]; omega), List.drop_zero]
    exact el
  have t7 : sSet 7 (eOp sMod (eOp sDiv (eVar 1) (eC (.int 3))) (eCall bLen (aCons (eVar 3) (aNil)))) [some (.seq .ro (ns.map U.int)), some (.int d0), some (.seq .lst (names.map U.str)), some (.obj h.length), some (.seq .lst (gs.map headU)), some (.obj (h.length + 1)), a6', none, none, none] HF = .nx [some (.seq .ro (ns.map U.int)), some (.int d0), some (.seq .lst (names.map U.str)), some (.obj h.length), some (.seq .lst (gs.map headU)), some (.obj (h.length + 1)), a6', some (.int t), none, none] HF := by
    have eb : bLen [.obj h.length] HF = .ok (.int (P.length : Int)) HF := by simp [bLen, asSeq, hfin]
    exact sSet_ok (eOp_ok (eOp_ok rfl rfl (sDiv_pos (by decide) (by decide))) eb (by rw [sMod_pos (by omega), ht])) rfl
  have t8 : sRet (eCall bTuple (aCons (eOp sAdd (eSl (eVar 3) (oSome (eVar 7)) (oNone)) (eSl (eVar 3) (oNone) (oSome (eVar 7)))) (aNil))) [some (.seq .ro (ns.map U.int)), some (.int d0), some (.seq .lst (names.map U.str)), some (.obj h.length), some (.seq .lst (gs.map headU)), some (.obj (h.length + 1)), a6', some (.int t), none, none] HF = .rt (Pg.u (P.drop t ++ P.take t)) HF := by
    have s1 : sSl (.obj h.length) (some (t : Int)) none HF = .ok (.seq .lst ((P.drop t).map Fd.u)) HF := by
      rw [sSl_obj hfin, cut_drop (by simp; omega), List.map_drop]
    have s2 : sSl (.obj h.length) none (some (t : Int)) HF = .ok (.seq .lst ((P.take t).map Fd.u)) HF := by
      rw [sSl_obj hfin, cut_take, List.map_take]
    have s3 : sAdd (.seq .lst ((P.drop t).map Fd.u)) (.seq .lst ((P.take t).map Fd.u)) HF = .ok (.seq .lst ((P.drop t ++ P.take t).map Fd.u)) HF := by
      rw [sAdd_lst (by simp; omega), List.map_append]
    generalize (P.drop t).map Fd.u = u1 at s1 s3
    generalize (P.take t).map Fd.u = u2 at s2 s3
    unfold Pg.u
    generalize (P.drop t ++ P.take t).map Fd.u = u3 at s3 ⊢
    simp [s1, s2, s3, bTuple, asSeq]
  have e : runB 10 (m_law_program (sem (k + 10))) [.seq .ro (ns.map U.int)] h = .ok (Pg.u (P.drop t ++ P.take t)) HF := by
    rw [m_prog_is, runB_ap]
    have e9 : ([U.seq .ro (ns.map U.int)].map some ++ List.replicate (10 - [U.seq .ro (ns.map U.int)].length) none : Loc) = [some (.seq .ro (ns.map U.int)), none, none, none, none, none, none, none, none, none] := rfl
    rw [e9, sSeq_nx t1, sSeq_nx t2, sSeq_nx t3, sSeq_nx t4, sSeq_nx t5, sSeq_nx t6, sSeq_nx t7, t8]
    rfl
  have e0 : ∀ us H, sem (k + 11) .law_program us H = Wk.runC 10 (m_law_program (sem (k + 10))) us H := fun us H => rfl
  rw [e0, runC_ap, e, ← hHF]
  refine clean_app rfl ok (below_pure _ ?_)
  show pureUs ((P.drop t ++ P.take t).map Fd.u) = true
  exact fds_pure _
end Wk
set_option maxRecDepth 100000
set_option maxHeartbeats 400000
/-! P45: what a run tells, for the law. -/
namespace Wk
open PySem PySem.Spec PyProof.Rows L2

theorem cmp_lst {us : List U} (h : Cmp (.seq .tup us)) : Cmp (.seq .lst us) := ⟨h.pure, h.str, by
  have := h.dep
  simpa [toP, PyData.depth] using this⟩
theorem rc_cmp {P : Pg} (hP : PgOk P) {i : Nat} {c : Rc} (h : RcOk P i c) : pureU c.u = true ∧ strsOk c.u = true ∧ (toP c.u).depth ≤ 180 := by
  obtain ⟨⟨ts, s, h1, h2, h3⟩, _⟩ := h
  obtain ⟨dd, hd, hts, hgs⟩ := sig_at h1
  obtain ⟨fo, hname⟩ := hP.at_ok hd
  have hstr : PyData.strOk c.name = true := hname ▸ fo.str
  have a1 := cmp_vas h2
  have a2 := vas_dep h2
  have o1 : pureU (opU c.up) = true ∧ strsOk (opU c.up) = true ∧ (toP (opU c.up)).depth = 0 := by
    cases c.up <;> simp [opU, pureU, strsOk, toP, PyData.depth]
  have v1 : pureU (valU c.res) = true ∧ strsOk (valU c.res) = true ∧ (toP (valU c.res)).depth ≤ 100 := by
    cases hr : c.res with
    | none => simp [valU, pureU, strsOk, toP, PyData.depth]
    | some v => exact ⟨v.pure, v.strs, Va.dep (h3 v hr).sm⟩
  have p1 := a1.pure
  have s1 := a1.str
  have d1 := a1.dep
  refine ⟨?_, ?_, ?_⟩
  · unfold Rc.u
    simp only [pureU, pureUs] at p1 ⊢
    simp [p1, o1.1, v1.1]
  · unfold Rc.u
    simp only [strsOk, strsOks] at s1 ⊢
    simp [hstr, s1, o1.2.1, v1.2.1]
  · unfold Rc.u
    have o2 := o1.2.2
    have v2 := v1.2.2
    simp only [toP, toPs, PyData.depth, PyData.depthAll]
    omega
theorem rcs_cmp {P : Pg} (hP : PgOk P) : ∀ {cs : List Rc}, (∀ c ∈ cs, ∃ i, RcOk P i c) → pureUs (cs.map Rc.u) = true ∧ strsOks (cs.map Rc.u) = true ∧ PyData.depthAll (toPs (cs.map Rc.u)) ≤ 180
  | [], _ => ⟨rfl, rfl, by simp [toPs, PyData.depthAll]⟩
  | c :: cs, h => by
    obtain ⟨i, hi⟩ := h c (by simp)
    obtain ⟨a1, a2, a3⟩ := rc_cmp hP hi
    obtain ⟨b1, b2, b3⟩ := rcs_cmp hP (cs := cs) fun x hx => h x (by simp [hx])
    refine ⟨by simp [pureUs, a1, b1], by simp [strsOks, a2, b2], ?_⟩
    simp only [List.map_cons, toPs, PyData.depthAll]
    omega
/-- the facts that the law asks for -/
structure Told (P : Pg) (most : Nat) (f : Str) (vs : List Va) (R : Re Va) : Prop where
  b9 : R.lg.begun.length ≤ R.lg.made.length
  m9 : R.lg.made.length ≤ most
  rc : ∀ i c, R.lg.begun[i]? = some c → RcOk P i c
  st : ∀ s ∈ R.lg.made, s.1 < R.lg.begun.length
  ss : ∀ s ∈ R.lg.made, PyData.strOk s.2 = true
  or : (R = .cut ⟨[], []⟩ ∧ most = 0) ∨ ∃ t : CT, R.lg.begun = (t.nodes 0 none 1).map (·.rc) ∧ R.lg.made = t.lin 0 ∧ TOK P (decide ((t.lin 0).length = most) = true) 20 t ∧ R.lg.begun[0]? = some ⟨f, vs, none, R.res⟩
theorem run_told {P : Pg} (hP : PgOk P) {most : Nat} {f : Str} {vs : List Va} {ts : List Ty} {s : Ty} (hf : P.sig f = some (ts, s)) (hv : HasVs vs ts) : Told P most f vs (runP P most 20 f vs none ⟨[], []⟩) := by
  have g := runP_grow (P := P) (most := most) 20 (f := f) (vs := vs) (up := none) (l := ⟨[], []⟩) ⟨by simp, by simp⟩
  rcases runP_left hP (most := most) 20 f vs none ts s ⟨[], []⟩ hf hv with ⟨e, h⟩ | ⟨es, re, e, h1, h2, h3⟩
  · rw [e] at g ⊢
    refine ⟨by simp [Re.lg], by simp [Re.lg], fun i c h => by simp [Re.lg] at h, fun s h => by simp [Re.lg] at h, fun s h => by simp [Re.lg] at h, .inl ⟨rfl, ?_⟩⟩
    rcases h with h | h
    · simpa using h
    · cases h
  · rw [e] at g ⊢
    simp only [List.nil_append, List.length_nil] at h1 h2
    rw [CT.nodes_rc _ 0 none 0 1] at h1
    have hT := h3 (decide ((CT.lin (.mk f vs es re.res) 0).length = most) = true) (fun lc e2 hm => by
      subst e2
      have g2 := g.ok.most
      rw [← h2]
      refine decide_eq_true ?_
      have : (Re.lg (.cut lc : Re Va)) = lc := rfl
      rw [this] at g2 ⊢
      omega)
    have rk := rcs_ok (.mk f vs es re.res)
    have hlin := lin_ok _ 20 0 hT
    rw [← h1] at rk
    refine ⟨g.ok.le, g.ok.most, fun i c hc => ⟨?_, fun hi => rk.up i c hc hi⟩, fun s hs => ?_, fun s hs => ?_, .inr ⟨_, h1, h2, hT, by rw [h1]; simp [CT.nodes]⟩⟩
    · rw [h1] at hc
      rw [List.getElem?_map] at hc
      obtain ⟨nd, hn, rfl⟩ := Option.map_eq_some_iff.mp hc
      exact (nodes_ok _ 0 none 1 (by omega) hT nd (List.mem_of_getElem? hn)).sig
    · rw [h2] at hs
      have := (hlin s hs).2.2
      rw [h1, List.length_map, CT.nodes_len]
      omega
    · rw [h2] at hs
      exact (hlin s hs).1
theorem steps_dep : ∀ ss : List (Nat × Str), PyData.depthAll (toPs (ss.map stepU)) ≤ 1
  | [] => by simp [toPs, PyData.depthAll]
  | s :: ss => by
    have := steps_dep ss
    simp only [List.map_cons, stepU, toP, toPs, PyData.depth, PyData.depthAll] at this ⊢
    omega
theorem kept_cmp {P : Pg} (hP : PgOk P) {most : Nat} {f : Str} {vs : List Va} {R : Re Va} (h : Told P most f vs R) {b : Bool} {v : U} (h1 : pureU v = true) (h2 : strsOk v = true) (h3 : (toP v).depth ≤ 100) : Cmp (.seq .tup [.bl b, v, .seq .lst (R.lg.begun.map Rc.u), .seq .lst (R.lg.made.map stepU)]) := by
  obtain ⟨a1, a2, a3⟩ := rcs_cmp hP (cs := R.lg.begun) fun c hc => by
    obtain ⟨i, hi⟩ := List.mem_iff_getElem?.mp hc
    exact ⟨i, h.rc i c hi⟩
  have sc := steps_cmp h.ss
  have b1 := sc.pure
  have b2 := sc.str
  have b3 := steps_dep R.lg.made
  refine ⟨?_, ?_, ?_⟩
  · simp only [pureU, pureUs] at b1 ⊢
    simp [h1, a1, b1]
  · simp only [strsOk, strsOks] at b2 ⊢
    simp [h2, a2, b2]
  · simp only [toP, toPs, PyData.depth, PyData.depthAll]
    omega
end Wk
set_option maxRecDepth 100000
set_option maxHeartbeats 400000
/-! P46: the law: what follows the run. -/
namespace Wk
open PySem PySem.Spec PyProof.Rows L2

section
variable {h : AH} {a b c x : MO}
theorem t3_1 : (h ++ [a, b, c])[h.length + 1]? = some b := by
  rw [List.getElem?_append_right (by omega)]
  simp
theorem t3_2 : (h ++ [a, b, c])[h.length + 2]? = some c := by
  rw [List.getElem?_append_right (by omega)]
  simp
theorem t3_s1 : (h ++ [a, b, c]).set (h.length + 1) x = h ++ [a, x, c] := by simp [List.set_append]
theorem t3_s2 : (h ++ [a, b, c]).set (h.length + 2) x = h ++ [a, b, x] := by simp [List.set_append]
end
theorem trU_is {n : Nat} {R : Re Va} : trU n R = .seq .tup [.bl R.res.isSome, valU R.res, .obj (n + 1), .obj (n + 2)] := by
  cases R <;> rfl
def lwF (S : SemT) : MS := sSet 7 (eCall (arity 4 (S .trace)) (aCons (eVar 1) (aCons (eOp sIx (eVar 3) (eC (.int 0))) (aCons (eVar 6) (aCons (eVar 5) (aNil))))))
def lwT (S : SemT) : MS := sIf (tOrM (tNotM (tst (eCall (arity 3 (S .law_told)) (aCons (eVar 1) (aCons (eVar 7) (aCons (eVar 5) (aNil))))))) (tst (eOp sNe (eVar 6) (eVar 4)))) (sRet (eC (.bl false))) (sNil)
def lwU : MS := sAsg (tgT [8, 9, 10, 11]) (eVar 7)
def lwE : MS := sIf (tst (eOp sEq (eCall bLen (aCons (eVar 10) (aNil))) (eC (.int 0)))) (sRet (eAnd (eOp sEq (eVar 5) (eC (.int 0))) (eAnd (eNot (eVar 8)) (eAnd (eOp sIsN (eVar 9) (eC .non)) (eOp sEq (eVar 11) (eLst (aNil))))))) (sNil)
def lwC : MS := sIf (tst (eOp sNe (eOp sIx (eVar 10) (eC (.int 0))) (eTup (aCons (eOp sIx (eVar 3) (eC (.int 0))) (aCons (eCall bTuple (aCons (eVar 4) (aNil))) (aCons (eC .non) (aCons (eVar 8) (aCons (eVar 9) (aNil))))))))) (sRet (eC (.bl false))) (sNil)
def lwW (S : SemT) : MS := sIf (tNotM (tst (eCall (arity 4 (S .law_walked)) (aCons (eVar 1) (aCons (eVar 10) (aCons (eVar 11) (aCons (eVar 5) (aNil)))))))) (sRet (eC (.bl false))) (sNil)
def lwK : MS := sSet 12 (eTup (aCons (eVar 8) (aCons (eVar 9) (aCons (eCall bList (aCons (eVar 10) (aNil))) (aCons (eCall bList (aCons (eVar 11) (aNil))) (aNil))))))
def lwA : MS := sExpr (eMt mtAppend (eVar 10) (aCons (eC .non) (aNil)))
def lwL : MS := sExpr (eMt0 mtClear (eVar 11))
def lwR (S : SemT) : MS := sRet (eOp sEq (eCall (arity 4 (S .trace)) (aCons (eVar 1) (aCons (eOp sIx (eVar 3) (eC (.int 0))) (aCons (eVar 6) (aCons (eVar 5) (aNil)))))) (eVar 12))
def lwTail (S : SemT) : MS := sSeq (lwF S) (sSeq (lwT S) (sSeq lwU (sSeq lwE (sSeq lwC (sSeq (lwW S) (sSeq lwK (sSeq lwA (sSeq lwL (lwR S)))))))))
theorem valU_ok {R : Re Va} {s : Ty} (h : ∀ v, R.res = some v → HasV v s) : pureU (valU R.res) = true ∧ strsOk (valU R.res) = true ∧ (toP (valU R.res)).depth ≤ 100 := by
  cases hr : R.res with
  | none => simp [valU, pureU, strsOk, toP, PyData.depth]
  | some v => exact ⟨v.pure, v.strs, Va.dep (h v hr).sm⟩
theorem lw_tail {P : Pg} (hP : PgOk P) {most : Nat} {h : AH} (ok : Okh h) {dd : Fd} {vs : List Va} {ts : List Ty} {s : Ty} {a0 a2 : Option U} (hm : most ≤ 119) (hf : P.sig dd.name = some (ts, s)) (hv : HasVs vs ts) :
    ∃ X : AH, lwTail (sem 199) [a0, some P.u, a2, some dd.u, some (.seq .lst (vs.map Va.u)), some (.int most), some (.seq .lst (vs.map Va.u)), none, none, none, none, none, none] h = .rt (.bl true) (h ++ X) := by
  have T := run_told hP (most := most) hf hv
  have e1 : ∀ H : AH, Okh H → sem 199 .trace [P.u, .str dd.name, .seq .lst (vs.map Va.u), .int most] H = .ok (trU H.length (runP P most 20 dd.name vs none ⟨[], []⟩)) (H ++ logO H.length most (runP P most 20 dd.name vs none ⟨[], []⟩).lg) := fun H oH => f_trace hP (by omega) oH hf hv (by omega)
  have hgood : ∀ v, (runP P most 20 dd.name vs none ⟨[], []⟩).res = some v → HasV v s := fun v hr => by
    cases hR : runP P most 20 dd.name vs none ⟨[], []⟩ with
    | cut l => rw [hR] at hr; cases hr
    | ok w l => rw [hR] at hr; cases hr; exact runP_good hP 20 hf hv hR
  obtain ⟨v1, v2, v3⟩ := valU_ok hgood
  have hk := kept_cmp hP T (b := (runP P most 20 dd.name vs none ⟨[], []⟩).res.isSome) v1 v2 v3
  have cv : Cmp (.seq .lst (vs.map Va.u)) := cmp_lst (cmp_vas hv)
  have hname : ∀ H : AH, sIx dd.u (.int 0) H = .ok (.str dd.name) H := fun H => by simp [Fd.u, Fd.head]
  have tb9 := T.b9
  have tm9 := T.m9
  have etold : ∀ H : AH, Okh H → ∀ n : Nat, H[n + 1]? = some (.lst ((runP P most 20 dd.name vs none ⟨[], []⟩).lg.begun.map Rc.u)) → H[n + 2]? = some (.lst ((runP P most 20 dd.name vs none ⟨[], []⟩).lg.made.map stepU)) → sem 199 .law_told [P.u, trU n (runP P most 20 dd.name vs none ⟨[], []⟩), .int most] H = .ok (.bl true) H := fun H oH n g1 g2 => by
    rw [trU_is]
    exact f_told hP (k := 195) oH g1 g2 (by omega) (by omega) tm9 T.rc T.st
  have ewalk : ∀ H : AH, Okh H → ∀ n : Nat, H[n + 1]? = some (.lst ((runP P most 20 dd.name vs none ⟨[], []⟩).lg.begun.map Rc.u)) → H[n + 2]? = some (.lst ((runP P most 20 dd.name vs none ⟨[], []⟩).lg.made.map stepU)) → (∃ t : CT, (runP P most 20 dd.name vs none ⟨[], []⟩).lg.begun = (t.nodes 0 none 1).map (·.rc) ∧ (runP P most 20 dd.name vs none ⟨[], []⟩).lg.made = t.lin 0 ∧ TOK P (decide ((t.lin 0).length = most) = true) 20 t) → sem 199 .law_walked [P.u, .obj (n + 1), .obj (n + 2), .int most] H = .ok (.bl true) H := fun H oH n g1 g2 ⟨t, q1, q2, q3⟩ => by
    rw [q1] at g1
    rw [q2] at g2 tm9
    exact f_walked hP (by omega) oH g1 g2 q3 (by omega)
  have hor := T.or
  generalize hR : runP P most 20 dd.name vs none ⟨[], []⟩ = R at *
  clear hR
  generalize hlg : R.lg = lg at *
  generalize hrs : R.res = rs at *
  have okl : Okh (h ++ logO h.length most lg) := okh_new ok
  have g1 : (h ++ logO h.length most lg)[h.length + 1]? = some (.lst (lg.begun.map Rc.u)) := logAt_new.bg
  have g2 : (h ++ logO h.length most lg)[h.length + 2]? = some (.lst (lg.made.map stepU)) := logAt_new.md
  have et := etold _ okl h.length g1 g2
  have ew := ewalk _ okl h.length g1 g2
  have e0 := e1 h ok
  have htr : ∀ n, trU n R = .seq .tup [.bl rs.isSome, valU rs, .obj (n + 1), .obj (n + 2)] := fun n => by rw [trU_is, hrs]
  rw [htr] at e0 et
  generalize hS : sem 199 = S at *
  -- the run
  have t1 : lwF S [a0, some P.u, a2, some dd.u, some (.seq .lst (vs.map Va.u)), some (.int most), some (.seq .lst (vs.map Va.u)), none, none, none, none, none, none] h = .nx [a0, some P.u, a2, some dd.u, some (.seq .lst (vs.map Va.u)), some (.int most), some (.seq .lst (vs.map Va.u)), some (.seq .tup [.bl rs.isSome, valU rs, .obj (h.length + 1), .obj (h.length + 2)]), none, none, none, none, none] (h ++ logO h.length most lg) := by
    unfold lwF
    have := hname h
    generalize dd.u = du at this ⊢
    generalize vs.map Va.u = vu at e0 ⊢
    generalize valU rs = vr at e0 ⊢
    generalize h ++ logO h.length most lg = H1 at e0 ⊢
    simp [this, e0]
  have t2 : lwT S [a0, some P.u, a2, some dd.u, some (.seq .lst (vs.map Va.u)), some (.int most), some (.seq .lst (vs.map Va.u)), some (.seq .tup [.bl rs.isSome, valU rs, .obj (h.length + 1), .obj (h.length + 2)]), none, none, none, none, none] (h ++ logO h.length most lg) = .nx [a0, some P.u, a2, some dd.u, some (.seq .lst (vs.map Va.u)), some (.int most), some (.seq .lst (vs.map Va.u)), some (.seq .tup [.bl rs.isSome, valU rs, .obj (h.length + 1), .obj (h.length + 2)]), none, none, none, none, none] (h ++ logO h.length most lg) := by
    unfold lwT
    have hne : ∀ H : AH, sNe (.seq .lst (vs.map Va.u)) (.seq .lst (vs.map Va.u)) H = .ok (.bl false) H := fun H => by
      unfold sNe
      rw [eqB_same (res_pure _ cv.pure) (res_pure _ cv.pure) cv]
      rfl
    generalize dd.u = du
    generalize vs.map Va.u = vu at hne ⊢
    generalize valU rs = vr at et ⊢
    generalize h ++ logO h.length most lg = H1 at et ⊢
    simp [et, hne]
  have t3 : lwU [a0, some P.u, a2, some dd.u, some (.seq .lst (vs.map Va.u)), some (.int most), some (.seq .lst (vs.map Va.u)), some (.seq .tup [.bl rs.isSome, valU rs, .obj (h.length + 1), .obj (h.length + 2)]), none, none, none, none, none] (h ++ logO h.length most lg) = .nx [a0, some P.u, a2, some dd.u, some (.seq .lst (vs.map Va.u)), some (.int most), some (.seq .lst (vs.map Va.u)), some (.seq .tup [.bl rs.isSome, valU rs, .obj (h.length + 1), .obj (h.length + 2)]), some (.bl rs.isSome), some (valU rs), some (.obj (h.length + 1)), some (.obj (h.length + 2)), none] (h ++ logO h.length most lg) := by
    unfold lwU
    generalize h ++ logO h.length most lg = H1
    simp [tgT, asT, setMany]
  unfold lwTail
  rw [sSeq_nx t1, sSeq_nx t2, sSeq_nx t3]
  rcases hor with ⟨hc, hm0⟩ | ⟨t, q1, q2, q3, q4⟩
  · -- nothing was begun
    have hl0 : lg = ⟨[], []⟩ := by rw [← hlg, hc]; rfl
    have hr0 : rs = none := by rw [← hrs, hc]; rfl
    subst hm0 hl0 hr0
    refine ⟨logO h.length 0 ⟨[], []⟩, sSeq_rt ?_⟩
    unfold lwE
    have hse : sEq (.obj (h.length + 2)) (.seq .lst []) (h ++ logO h.length 0 ⟨[], []⟩) = .ok (.bl true) (h ++ logO h.length 0 ⟨[], []⟩) := by
      unfold sEq
      rw [eqB_same (a := .seq .lst []) (by simp [res, g2, pureUs]) (by simp [res, ress]) ⟨rfl, by simp [strsOk, strsOks], by simp [toP, toPs, PyData.depth, PyData.depthAll]⟩]
    generalize h ++ logO h.length 0 ⟨[], []⟩ = H1 at g1 hse ⊢
    simp [bLen, asSeq, g1, sEq_int, valU, sIsN, isNon, hse]
  -- the run began
  have hb0 : 0 < lg.begun.length := (List.getElem?_eq_some_iff.mp q4).1
  have t4 : lwE [a0, some P.u, a2, some dd.u, some (.seq .lst (vs.map Va.u)), some (.int most), some (.seq .lst (vs.map Va.u)), some (.seq .tup [.bl rs.isSome, valU rs, .obj (h.length + 1), .obj (h.length + 2)]), some (.bl rs.isSome), some (valU rs), some (.obj (h.length + 1)), some (.obj (h.length + 2)), none] (h ++ logO h.length most lg) = .nx [a0, some P.u, a2, some dd.u, some (.seq .lst (vs.map Va.u)), some (.int most), some (.seq .lst (vs.map Va.u)), some (.seq .tup [.bl rs.isSome, valU rs, .obj (h.length + 1), .obj (h.length + 2)]), some (.bl rs.isSome), some (valU rs), some (.obj (h.length + 1)), some (.obj (h.length + 2)), none] (h ++ logO h.length most lg) := by
    unfold lwE
    have : bLen [.obj (h.length + 1)] (h ++ logO h.length most lg) = .ok (.int (lg.begun.length : Int)) (h ++ logO h.length most lg) := by simp [bLen, asSeq, g1]
    have hz : ¬ (lg.begun.length : Int) = 0 := by omega
    generalize (lg.begun.length : Int) = bl at this hz
    generalize h ++ logO h.length most lg = H1 at this ⊢
    simp [this, sEq_int, hz]
  have t5 : lwC [a0, some P.u, a2, some dd.u, some (.seq .lst (vs.map Va.u)), some (.int most), some (.seq .lst (vs.map Va.u)), some (.seq .tup [.bl rs.isSome, valU rs, .obj (h.length + 1), .obj (h.length + 2)]), some (.bl rs.isSome), some (valU rs), some (.obj (h.length + 1)), some (.obj (h.length + 2)), none] (h ++ logO h.length most lg) = .nx [a0, some P.u, a2, some dd.u, some (.seq .lst (vs.map Va.u)), some (.int most), some (.seq .lst (vs.map Va.u)), some (.seq .tup [.bl rs.isSome, valU rs, .obj (h.length + 1), .obj (h.length + 2)]), some (.bl rs.isSome), some (valU rs), some (.obj (h.length + 1)), some (.obj (h.length + 2)), none] (h ++ logO h.length most lg) := by
    unfold lwC
    have i0 : sIx (.obj (h.length + 1)) (.int 0) (h ++ logO h.length most lg) = .ok (.seq .tup [.str dd.name, .seq .tup (vs.map Va.u), .non, .bl rs.isSome, valU rs]) (h ++ logO h.length most lg) := by
      have : atI (lg.begun.map Rc.u) ((0 : Nat) : Int) = some (.seq .tup [.str dd.name, .seq .tup (vs.map Va.u), .non, .bl rs.isSome, valU rs]) := atI_ofNat (by rw [List.getElem?_map, q4]; rfl)
      have this : atI (lg.begun.map Rc.u) 0 = some (.seq .tup [.str dd.name, .seq .tup (vs.map Va.u), .non, .bl rs.isSome, valU rs]) := this
      unfold sIx
      simp only [asSeq, g1, this]
    have rcc := rc_cmp hP (T.rc 0 ⟨dd.name, vs, none, rs⟩ (by rw [hlg]; exact q4))
    have hcm : Cmp (.seq .tup [.str dd.name, .seq .tup (vs.map Va.u), .non, .bl rs.isSome, valU rs]) := ⟨rcc.1, rcc.2.1, by have h9 : _ ≤ 180 := rcc.2.2; exact Nat.le_trans h9 (by decide)⟩
    have hne : ∀ H : AH, sNe (.seq .tup [.str dd.name, .seq .tup (vs.map Va.u), .non, .bl rs.isSome, valU rs]) (.seq .tup [.str dd.name, .seq .tup (vs.map Va.u), .non, .bl rs.isSome, valU rs]) H = .ok (.bl false) H := fun H => by
      unfold sNe
      rw [eqB_same (res_pure _ hcm.pure) (res_pure _ hcm.pure) hcm]
      rfl
    have hbt : ∀ H : AH, bTuple [.seq .lst (vs.map Va.u)] H = .ok (.seq .tup (vs.map Va.u)) H := fun H => rfl
    have hnm := hname (h ++ logO h.length most lg)
    generalize vs.map Va.u = vu at i0 hne hbt ⊢
    generalize valU rs = vr at i0 hne ⊢
    generalize dd.u = du at hnm ⊢
    generalize h ++ logO h.length most lg = H1 at i0 hnm ⊢
    simp [i0, hnm, hbt, hne]
  have ew := ew ⟨t, q1, q2, q3⟩
  have t6 : lwW S [a0, some P.u, a2, some dd.u, some (.seq .lst (vs.map Va.u)), some (.int most), some (.seq .lst (vs.map Va.u)), some (.seq .tup [.bl rs.isSome, valU rs, .obj (h.length + 1), .obj (h.length + 2)]), some (.bl rs.isSome), some (valU rs), some (.obj (h.length + 1)), some (.obj (h.length + 2)), none] (h ++ logO h.length most lg) = .nx [a0, some P.u, a2, some dd.u, some (.seq .lst (vs.map Va.u)), some (.int most), some (.seq .lst (vs.map Va.u)), some (.seq .tup [.bl rs.isSome, valU rs, .obj (h.length + 1), .obj (h.length + 2)]), some (.bl rs.isSome), some (valU rs), some (.obj (h.length + 1)), some (.obj (h.length + 2)), none] (h ++ logO h.length most lg) := by
    unfold lwW
    generalize h ++ logO h.length most lg = H1 at ew ⊢
    simp [ew]
  have t7 : lwK [a0, some P.u, a2, some dd.u, some (.seq .lst (vs.map Va.u)), some (.int most), some (.seq .lst (vs.map Va.u)), some (.seq .tup [.bl rs.isSome, valU rs, .obj (h.length + 1), .obj (h.length + 2)]), some (.bl rs.isSome), some (valU rs), some (.obj (h.length + 1)), some (.obj (h.length + 2)), none] (h ++ logO h.length most lg) = .nx [a0, some P.u, a2, some dd.u, some (.seq .lst (vs.map Va.u)), some (.int most), some (.seq .lst (vs.map Va.u)), some (.seq .tup [.bl rs.isSome, valU rs, .obj (h.length + 1), .obj (h.length + 2)]), some (.bl rs.isSome), some (valU rs), some (.obj (h.length + 1)), some (.obj (h.length + 2)), some (.seq .tup [.bl rs.isSome, valU rs, .seq .lst (lg.begun.map Rc.u), .seq .lst (lg.made.map stepU)])] (h ++ logO h.length most lg) := by
    unfold lwK
    have b1 : bList [.obj (h.length + 1)] (h ++ logO h.length most lg) = .ok (.seq .lst (lg.begun.map Rc.u)) (h ++ logO h.length most lg) := by simp [bList, asSeq, g1]
    have b2 : bList [.obj (h.length + 2)] (h ++ logO h.length most lg) = .ok (.seq .lst (lg.made.map stepU)) (h ++ logO h.length most lg) := by simp [bList, asSeq, g2]
    generalize h ++ logO h.length most lg = H1 at b1 b2 ⊢
    simp [b1, b2]
  have okA : ∀ (u : List U), pureUs u = true → Okh (h ++ [.ins [("most", .int most), ("begun", .obj (h.length + 1)), ("made", .obj (h.length + 2))], .lst u, .lst []]) := fun u hu => by
    unfold Okh at ok ⊢
    rw [List.all_append]
    refine Bool.and_eq_true_iff.mpr ⟨List.all_eq_true.mpr fun o ho => belowM_mono (by simp) o (List.all_eq_true.mp ok o ho), ?_⟩
    simp only [List.all_cons, List.all_nil, Bool.and_true, Bool.and_eq_true, belowM]
    exact ⟨by simp [belowUs, belowU], belows_pure _ hu, rfl⟩
  have hbp : pureUs (lg.begun.map Rc.u ++ [.non]) = true := pure_app (rcs_pure _) rfl
  have e3 := e1 _ (okA _ hbp)
  have hl9 : lg.begun.length ≤ 999 := by omega
  unfold logO at g1 g2 ⊢
  generalize hI : MO.ins [("most", .int most), ("begun", .obj (h.length + 1)), ("made", .obj (h.length + 2))] = I at *
  have t8 : lwA [a0, some P.u, a2, some dd.u, some (.seq .lst (vs.map Va.u)), some (.int most), some (.seq .lst (vs.map Va.u)), some (.seq .tup [.bl rs.isSome, valU rs, .obj (h.length + 1), .obj (h.length + 2)]), some (.bl rs.isSome), some (valU rs), some (.obj (h.length + 1)), some (.obj (h.length + 2)), some (.seq .tup [.bl rs.isSome, valU rs, .seq .lst (lg.begun.map Rc.u), .seq .lst (lg.made.map stepU)])] (h ++ [I, .lst (lg.begun.map Rc.u), .lst (lg.made.map stepU)]) = .nx [a0, some P.u, a2, some dd.u, some (.seq .lst (vs.map Va.u)), some (.int most), some (.seq .lst (vs.map Va.u)), some (.seq .tup [.bl rs.isSome, valU rs, .obj (h.length + 1), .obj (h.length + 2)]), some (.bl rs.isSome), some (valU rs), some (.obj (h.length + 1)), some (.obj (h.length + 2)), some (.seq .tup [.bl rs.isSome, valU rs, .seq .lst (lg.begun.map Rc.u), .seq .lst (lg.made.map stepU)])] (h ++ [I, .lst (lg.begun.map Rc.u ++ [.non]), .lst (lg.made.map stepU)]) := by
    unfold lwA
    have s1 : (h ++ [I, .lst (lg.begun.map Rc.u), .lst (lg.made.map stepU)]).set (h.length + 1) (.lst (lg.begun.map Rc.u ++ [.non])) = h ++ [I, .lst (lg.begun.map Rc.u ++ [.non]), .lst (lg.made.map stepU)] := t3_s1
    have hap : mtAppend (.obj (h.length + 1)) [.non] (h ++ [I, .lst (lg.begun.map Rc.u), .lst (lg.made.map stepU)]) = .ok .non (h ++ [I, .lst (lg.begun.map Rc.u ++ [.non]), .lst (lg.made.map stepU)]) := by
      simp only [mtAppend, g1, s1, List.length_map]
      rw [if_pos hl9]
    have hlo : isLo (h ++ [I, .lst (lg.begun.map Rc.u), .lst (lg.made.map stepU)]) (.obj (h.length + 1)) = true := by simp only [isLo, g1]
    generalize h ++ [I, .lst (lg.begun.map Rc.u), .lst (lg.made.map stepU)] = H1 at hap hlo ⊢
    generalize h ++ [I, .lst (lg.begun.map Rc.u ++ [.non]), .lst (lg.made.map stepU)] = H2 at hap ⊢
    simp [hlo, hap]
  have t9 : lwL [a0, some P.u, a2, some dd.u, some (.seq .lst (vs.map Va.u)), some (.int most), some (.seq .lst (vs.map Va.u)), some (.seq .tup [.bl rs.isSome, valU rs, .obj (h.length + 1), .obj (h.length + 2)]), some (.bl rs.isSome), some (valU rs), some (.obj (h.length + 1)), some (.obj (h.length + 2)), some (.seq .tup [.bl rs.isSome, valU rs, .seq .lst (lg.begun.map Rc.u), .seq .lst (lg.made.map stepU)])] (h ++ [I, .lst (lg.begun.map Rc.u ++ [.non]), .lst (lg.made.map stepU)]) = .nx [a0, some P.u, a2, some dd.u, some (.seq .lst (vs.map Va.u)), some (.int most), some (.seq .lst (vs.map Va.u)), some (.seq .tup [.bl rs.isSome, valU rs, .obj (h.length + 1), .obj (h.length + 2)]), some (.bl rs.isSome), some (valU rs), some (.obj (h.length + 1)), some (.obj (h.length + 2)), some (.seq .tup [.bl rs.isSome, valU rs, .seq .lst (lg.begun.map Rc.u), .seq .lst (lg.made.map stepU)])] (h ++ [I, .lst (lg.begun.map Rc.u ++ [.non]), .lst []]) := by
    unfold lwL
    have g3 : (h ++ [I, .lst (lg.begun.map Rc.u ++ [.non]), .lst (lg.made.map stepU)])[h.length + 2]? = some (.lst (lg.made.map stepU)) := t3_2
    have s1 : (h ++ [I, .lst (lg.begun.map Rc.u ++ [.non]), .lst (lg.made.map stepU)]).set (h.length + 2) (.lst []) = h ++ [I, .lst (lg.begun.map Rc.u ++ [.non]), .lst []] := t3_s2
    have hap : mtClear (.obj (h.length + 2)) [] (h ++ [I, .lst (lg.begun.map Rc.u ++ [.non]), .lst (lg.made.map stepU)]) = .ok .non (h ++ [I, .lst (lg.begun.map Rc.u ++ [.non]), .lst []]) := by
      simp only [mtClear, g3, s1]
    have hlo : isLo (h ++ [I, .lst (lg.begun.map Rc.u ++ [.non]), .lst (lg.made.map stepU)]) (.obj (h.length + 2)) = true := by simp only [isLo, g3]
    generalize h ++ [I, .lst (lg.begun.map Rc.u ++ [.non]), .lst (lg.made.map stepU)] = H1 at hap hlo ⊢
    generalize h ++ [I, .lst (lg.begun.map Rc.u ++ [.non]), .lst []] = H2 at hap ⊢
    simp [hlo, hap]
  have hapx : h ++ [I, .lst (lg.begun.map Rc.u ++ [.non]), .lst []] = h ++ [I, .lst (lg.begun.map Rc.u ++ [.non]), .lst []] := rfl
  refine ⟨[I, .lst (lg.begun.map Rc.u ++ [.non]), .lst []] ++ logO (h ++ [I, .lst (lg.begun.map Rc.u ++ [.non]), .lst []]).length most lg, ?_⟩
  rw [← List.append_assoc]
  unfold logO at t4 t5 t6 t7
  rw [hI] at t4 t5 t6 t7
  rw [sSeq_nx t4, sSeq_nx t5, sSeq_nx t6, sSeq_nx t7, sSeq_nx t8, sSeq_nx t9]
  generalize h ++ [I, .lst (lg.begun.map Rc.u ++ [.non]), .lst []] = H3 at e3 ⊢
  have g5 : (H3 ++ logO H3.length most lg)[H3.length + 1]? = some (.lst (lg.begun.map Rc.u)) := logAt_new.bg
  have g6 : (H3 ++ logO H3.length most lg)[H3.length + 2]? = some (.lst (lg.made.map stepU)) := logAt_new.md
  have hq : sEq (trU H3.length R) (.seq .tup [.bl rs.isSome, valU rs, .seq .lst (lg.begun.map Rc.u), .seq .lst (lg.made.map stepU)]) (H3 ++ logO H3.length most lg) = .ok (.bl true) (H3 ++ logO H3.length most lg) := by
    unfold sEq
    rw [eqB_same (a := .seq .tup [.bl rs.isSome, valU rs, .seq .lst (lg.begun.map Rc.u), .seq .lst (lg.made.map stepU)]) ?_ (res_pure _ hk.pure) hk]
    rw [htr]
    have r1 : res (H3 ++ logO H3.length most lg) (valU rs) = some (valU rs) := res_pure _ v1
    have r2 : res (H3 ++ logO H3.length most lg) (.obj (H3.length + 1)) = some (.seq .lst (lg.begun.map Rc.u)) := by
      simp only [res, g5]
      rw [if_pos (rcs_pure _)]
    have r3 : res (H3 ++ logO H3.length most lg) (.obj (H3.length + 2)) = some (.seq .lst (lg.made.map stepU)) := by
      simp only [res, g6]
      rw [if_pos (steps_pure _)]
    have r0 : res (H3 ++ logO H3.length most lg) (.bl rs.isSome) = some (.bl rs.isSome) := by simp [res]
    unfold res
    simp only [ress, r0, r1, r2, r3, Option.map_some]
  unfold lwR
  have hnm := hname H3
  generalize H3 ++ logO H3.length most lg = H4 at e3 hq ⊢
  generalize trU H3.length R = tr at e3 hq
  generalize vs.map Va.u = vu at e3 ⊢
  generalize valU rs = vr at hq ⊢
  generalize dd.u = du at hnm ⊢
  simp [hnm, e3, hq]
end Wk
set_option maxRecDepth 100000
set_option maxHeartbeats 400000
/-! P47: the law. -/
namespace Wk
open PySem PySem.Spec PyProof.Rows L2

theorem m_law_is (S : SemT) : m_law S = sSeq (sSet 1 (eCall (arity 1 (S .law_program)) (aCons (eVar 0) (aNil)))) (sSeq (sSet 2 (eOp sMod (eCall (arity 2 (S .law_cell_at)) (aCons (eVar 0) (aCons (eC (.int 5)) (aNil)))) (eOp sPow (eC (.int 10)) (eC (.int 9))))) (sSeq (sSet 3 (eOp sIx (eVar 1) (eOp sMod (eOp sDiv (eVar 2) (eC (.int 7))) (eCall bLen (aCons (eVar 1) (aNil)))))) (sSeq (sSet 4 (eCall (arity 2 (S .law_args)) (aCons (eVar 3) (aCons (eOp sAdd (eSl (eVar 0) (oSome (eC (.int 30))) (oNone)) (eSl (eVar 0) (oSome (eC (.int 2))) (oSome (eC (.int 6))))) (aNil))))) (sSeq (sSet 5 (eOp sAdd (eC (.int 20)) (eOp sMod (eOp sDiv (eVar 2) (eC (.int 35))) (eC (.int 100))))) (sSeq (sIf (tst (eOp sEq (eOp sMod (eOp sDiv (eVar 2) (eC (.int 3500))) (eC (.int 8))) (eC (.int 3)))) (sSet 5 (eOp sMod (eOp sDiv (eVar 2) (eC (.int 35))) (eC (.int 10)))) (sNil)) (sSeq (sSet 6 (eCall bList (aCons (eVar 4) (aNil)))) (lwTail S))))))) := rfl
theorem sIf_t {c : MT} {a b : MS} {ls : Loc} {h h1 : AH} (e : c ls h = .ok true h1) : sIf c a b ls h = a ls h1 := by rw [sIf_ap, e]; rfl
theorem sIf_f {c : MT} {a b : MS} {ls : Loc} {h h1 : AH} (e : c ls h = .ok false h1) : sIf c a b ls h = b ls h1 := by rw [sIf_ap, e]; rfl
theorem eCall_ok {f : List U → AH → Out U} {ma : MA} {ls : Loc} {h h1 : AH} {us : List U} {r : Out U} (ha : ma ls h = .ok us h1) (hf : f us h1 = r) : eCall f ma ls h = r := by rw [eCall_ap, ha, Out.bind_ok, hf]
theorem aCons_ok {a : ME} {b : MA} {ls : Loc} {h h1 h2 : AH} {u : U} {us : List U} (ha : a ls h = .ok u h1) (hb : b ls h1 = .ok us h2) : aCons a b ls h = .ok (u :: us) h2 := by rw [aCons_ap, ha, Out.bind_ok, hb, Out.bind_ok]
theorem arity_ok {n : Nat} {F : List U → AH → Out U} {us : List U} {h : AH} {r : Out U} (hl : us.length = n) (hf : F us h = r) : arity n F us h = r := by rw [arity_ap, if_pos hl, hf]
theorem eSl_ok {m : ME} {lo hi : MOp} {ls : Loc} {h h1 h2 h3 : AH} {u : U} {l t : Option Int} {r : Out U} (ha : m ls h = .ok u h1) (hl : lo ls h1 = .ok l h2) (hh : hi ls h2 = .ok t h3) (hs : sSl u l t h3 = r) : eSl m lo hi ls h = r := by rw [eSl_ap, ha, Out.bind_ok, hl, Out.bind_ok, hh, Out.bind_ok, hs]
theorem law_seq {S : SemT} {l0 l1 l2 l3 l4 l5 l6 l7 : Loc} {h : AH} {o : OutS} (t1 : sSet 1 (eCall (arity 1 (S .law_program)) (aCons (eVar 0) (aNil))) l0 h = .nx l1 h) (t2 : sSet 2 (eOp sMod (eCall (arity 2 (S .law_cell_at)) (aCons (eVar 0) (aCons (eC (.int 5)) (aNil)))) (eOp sPow (eC (.int 10)) (eC (.int 9)))) l1 h = .nx l2 h) (t3 : sSet 3 (eOp sIx (eVar 1) (eOp sMod (eOp sDiv (eVar 2) (eC (.int 7))) (eCall bLen (aCons (eVar 1) (aNil))))) l2 h = .nx l3 h)
    (t4 : sSet 4 (eCall (arity 2 (S .law_args)) (aCons (eVar 3) (aCons (eOp sAdd (eSl (eVar 0) (oSome (eC (.int 30))) (oNone)) (eSl (eVar 0) (oSome (eC (.int 2))) (oSome (eC (.int 6))))) (aNil)))) l3 h = .nx l4 h) (t5 : sSet 5 (eOp sAdd (eC (.int 20)) (eOp sMod (eOp sDiv (eVar 2) (eC (.int 35))) (eC (.int 100)))) l4 h = .nx l5 h)
    (t6 : sIf (tst (eOp sEq (eOp sMod (eOp sDiv (eVar 2) (eC (.int 3500))) (eC (.int 8))) (eC (.int 3)))) (sSet 5 (eOp sMod (eOp sDiv (eVar 2) (eC (.int 35))) (eC (.int 10)))) (sNil) l5 h = .nx l6 h) (t7 : sSet 6 (eCall bList (aCons (eVar 4) (aNil))) l6 h = .nx l7 h) (t8 : lwTail S l7 h = o) : m_law S l0 h = o := by
  rw [m_law_is, sSeq_nx t1, sSeq_nx t2, sSeq_nx t3, sSeq_nx t4, sSeq_nx t5, sSeq_nx t6, sSeq_nx t7, t8]
theorem law_body_is (S : SemT) (us : List U) (H : AH) : bodyOf S .law us H = Wk.runC 13 (m_law S) us H := rfl
theorem law_at (us : List U) (H : AH) : sem 200 .law us H = Wk.runC 13 (m_law (sem 199)) us H := (sem_suc 199 .law us H).trans (law_body_is _ us H)
theorem law_true (ns : List Int) (hns : ns.length ≤ 63) : ∃ k, sem 200 .law [.seq .ro (ns.map U.int)] [] = .ok (.bl true) k := by
  have ok : Okh [] := rfl
  obtain ⟨P, hP, hne, eP⟩ := f_program (k := 188) (ns := ns) ok
  have eP : sem 199 .law_program [.seq .ro (ns.map U.int)] [] = .ok P.u [] := eP
  have ca : sem 199 .law_cell_at [.seq .ro (ns.map U.int), .int 5] [] = .ok (.int (ns.getD 5 0)) [] := f_cell_at (k := 198) (i := 5) ok
  have ep : ∀ H : AH, sPow (.int 10) (.int 9) H = .ok (.int M9) H := fun H => sPow10 (by decide) (by decide)
  have em : ∀ (c : Int) (H : AH), sMod (.int c) (.int M9) H = .ok (.int (c % M9)) H := fun c H => sMod_pos (by decide)
  obtain ⟨q, hq, hq0⟩ : ∃ q : Int, ns.getD 5 0 % M9 = q ∧ 0 ≤ q := ⟨_, rfl, Int.emod_nonneg _ (by decide)⟩
  have em := em (ns.getD 5 0)
  rw [hq] at em
  obtain ⟨dd, hd, ed⟩ := pick_at (φ := Fd.u) (c := q / 7) hne
  have hat := at_mem hP.nd hd
  have fo := hP.ok dd hd
  obtain ⟨c1, hc1⟩ := cut_some (xs := ns) (lo := some 30) (hi := none)
  obtain ⟨c2, hc2⟩ := cut_some (xs := ns) (lo := some 2) (hi := some 6)
  have hl1 : c1.length ≤ 63 := by
    have := congrArg List.length hc1
    rw [List.length_map] at this
    rw [← this]
    unfold cutU
    simp; omega
  have hl2 : c2.length ≤ 63 := by
    have := congrArg List.length hc2
    rw [List.length_map] at this
    rw [← this]
    unfold cutU
    simp; omega
  obtain ⟨vs, hv, eA⟩ := f_args (k := 196) ok (dd := dd) (cs := c1 ++ c2) fo.few
  have eA : sem 199 .law_args [dd.u, .seq .lst ((c1 ++ c2).map U.int)] [] = .ok (.seq .lst (vs.map Va.u)) [] := eA
  have hsig : P.sig dd.name = some (dd.params.map (·.2), dd.gives) := by
    unfold Pg.sig
    rw [hat]
    rfl
  have hpl : 0 < P.length := List.length_pos_iff.mpr hne
  obtain ⟨most, hm, hmost⟩ : ∃ most : Nat, most ≤ 119 ∧ ((q / 3500 % 8 = 3 ∧ q / 35 % 10 = (most : Int)) ∨ (q / 3500 % 8 ≠ 3 ∧ 20 + q / 35 % 100 = (most : Int))) := by
    by_cases h3 : q / 3500 % 8 = 3
    · exact ⟨(q / 35 % 10).toNat, by omega, .inl ⟨h3, by omega⟩⟩
    · exact ⟨(20 + q / 35 % 100).toNat, by omega, .inr ⟨h3, by omega⟩⟩
  obtain ⟨X, eT⟩ := lw_tail hP ok (a0 := some (.seq .ro (ns.map U.int))) (a2 := some (.int q)) hm hsig hv
  rw [List.nil_append] at eT
  have t1 : sSet 1 (eCall (arity 1 (sem 199 .law_program)) (aCons (eVar 0) (aNil))) [some (.seq .ro (ns.map U.int)), none, none, none, none, none, none, none, none, none, none, none, none] [] = .nx [some (.seq .ro (ns.map U.int)), some P.u, none, none, none, none, none, none, none, none, none, none, none] [] := by
    generalize sem 199 = S at eP ⊢
    simp [eP]
  have t2 : sSet 2 (eOp sMod (eCall (arity 2 (sem 199 .law_cell_at)) (aCons (eVar 0) (aCons (eC (.int 5)) (aNil)))) (eOp sPow (eC (.int 10)) (eC (.int 9)))) [some (.seq .ro (ns.map U.int)), some P.u, none, none, none, none, none, none, none, none, none, none, none] [] = .nx [some (.seq .ro (ns.map U.int)), some P.u, some (.int q), none, none, none, none, none, none, none, none, none, none] [] := by
    generalize ns.getD 5 0 = c5 at ca em
    generalize sem 199 = S at ca ⊢
    simp [-sIntC_int, ca, ep, em]
  have t3 : sSet 3 (eOp sIx (eVar 1) (eOp sMod (eOp sDiv (eVar 2) (eC (.int 7))) (eCall bLen (aCons (eVar 1) (aNil))))) [some (.seq .ro (ns.map U.int)), some P.u, some (.int q), none, none, none, none, none, none, none, none, none, none] [] = .nx [some (.seq .ro (ns.map U.int)), some P.u, some (.int q), some dd.u, none, none, none, none, none, none, none, none, none] [] := by
    have b1 : bLen [P.u] [] = .ok (.int (P.length : Int)) [] := by simp [bLen, asSeq, Pg.u]
    have b2 : sIx P.u (.int (q / 7 % (P.length : Int))) [] = .ok dd.u [] := by
      unfold Pg.u
      rw [sIx_seq, ed]
    exact sSet_ok (eOp_ok (h1 := []) rfl (eOp_ok (eOp_ok rfl rfl (sDiv_pos (by decide) (by decide))) b1 (sMod_pos (by omega))) b2) rfl
  have t4 : sSet 4 (eCall (arity 2 (sem 199 .law_args)) (aCons (eVar 3) (aCons (eOp sAdd (eSl (eVar 0) (oSome (eC (.int 30))) (oNone)) (eSl (eVar 0) (oSome (eC (.int 2))) (oSome (eC (.int 6))))) (aNil)))) [some (.seq .ro (ns.map U.int)), some P.u, some (.int q), some dd.u, none, none, none, none, none, none, none, none, none] [] = .nx [some (.seq .ro (ns.map U.int)), some P.u, some (.int q), some dd.u, some (.seq .lst (vs.map Va.u)), none, none, none, none, none, none, none, none] [] := by
    have b1 : sSl (.seq .ro (ns.map U.int)) (some 30) none [] = .ok (.seq .lst (c1.map U.int)) [] := by rw [← hc1]; rfl
    have b2 : sSl (.seq .ro (ns.map U.int)) (some 2) (some 6) [] = .ok (.seq .lst (c2.map U.int)) [] := by rw [← hc2]; rfl
    have b3 : sAdd (.seq .lst (c1.map U.int)) (.seq .lst (c2.map U.int)) [] = .ok (.seq .lst ((c1 ++ c2).map U.int)) [] := by rw [sAdd_lst (by simp; omega), List.map_append]
    exact sSet_ok (eCall_ok (aCons_ok rfl (aCons_ok (eOp_ok (eSl_ok rfl rfl rfl b1) (eSl_ok rfl rfl rfl b2) b3) rfl)) (arity_ok rfl eA)) rfl
  have d35 : ∀ H : AH, sDiv (.int q) (.int 35) H = .ok (.int (q / 35)) H := fun H => sDiv_pos (by decide) (by decide)
  have d3500 : ∀ H : AH, sDiv (.int q) (.int 3500) H = .ok (.int (q / 3500)) H := fun H => sDiv_pos (by decide) (by decide)
  have t5 : sSet 5 (eOp sAdd (eC (.int 20)) (eOp sMod (eOp sDiv (eVar 2) (eC (.int 35))) (eC (.int 100)))) [some (.seq .ro (ns.map U.int)), some P.u, some (.int q), some dd.u, some (.seq .lst (vs.map Va.u)), none, none, none, none, none, none, none, none] [] = .nx [some (.seq .ro (ns.map U.int)), some P.u, some (.int q), some dd.u, some (.seq .lst (vs.map Va.u)), some (.int (20 + q / 35 % 100)), none, none, none, none, none, none, none] [] :=
    sSet_ok (eOp_ok (h1 := []) rfl (eOp_ok (eOp_ok rfl rfl (d35 _)) rfl (sMod_pos (by decide))) rfl) rfl
  have t6 : sIf (tst (eOp sEq (eOp sMod (eOp sDiv (eVar 2) (eC (.int 3500))) (eC (.int 8))) (eC (.int 3)))) (sSet 5 (eOp sMod (eOp sDiv (eVar 2) (eC (.int 35))) (eC (.int 10)))) (sNil) [some (.seq .ro (ns.map U.int)), some P.u, some (.int q), some dd.u, some (.seq .lst (vs.map Va.u)), some (.int (20 + q / 35 % 100)), none, none, none, none, none, none, none] [] = .nx [some (.seq .ro (ns.map U.int)), some P.u, some (.int q), some dd.u, some (.seq .lst (vs.map Va.u)), some (.int most), none, none, none, none, none, none, none] [] := by
    have hc : (tst (eOp sEq (eOp sMod (eOp sDiv (eVar 2) (eC (.int 3500))) (eC (.int 8))) (eC (.int 3)))) [some (.seq .ro (ns.map U.int)), some P.u, some (.int q), some dd.u, some (.seq .lst (vs.map Va.u)), some (.int (20 + q / 35 % 100)), none, none, none, none, none, none, none] [] = .ok (decide (q / 3500 % 8 = 3)) [] := by
      rw [tst_ap, eOp_ok (eOp_ok (eOp_ok rfl rfl (d3500 _)) rfl (sMod_pos (by decide))) rfl sEq_int]
      rfl
    rcases hmost with ⟨h1, h2⟩ | ⟨h1, h2⟩
    · rw [decide_eq_true h1] at hc
      rw [sIf_t hc]
      exact sSet_ok (eOp_ok (eOp_ok rfl rfl (d35 _)) rfl (sMod_pos (by decide))) (by rw [h2]; rfl)
    · rw [decide_eq_false h1] at hc
      rw [sIf_f hc, h2]
      rfl
  have t7 : sSet 6 (eCall bList (aCons (eVar 4) (aNil))) [some (.seq .ro (ns.map U.int)), some P.u, some (.int q), some dd.u, some (.seq .lst (vs.map Va.u)), some (.int most), none, none, none, none, none, none, none] [] = .nx [some (.seq .ro (ns.map U.int)), some P.u, some (.int q), some dd.u, some (.seq .lst (vs.map Va.u)), some (.int most), some (.seq .lst (vs.map Va.u)), none, none, none, none, none, none] [] := rfl
  have e : runB 13 (m_law (sem 199)) [.seq .ro (ns.map U.int)] [] = .ok (.bl true) X := by
    rw [runB_ap]
    have e9 : ([U.seq .ro (ns.map U.int)].map some ++ List.replicate (13 - [U.seq .ro (ns.map U.int)].length) none : Loc) = [some (.seq .ro (ns.map U.int)), none, none, none, none, none, none, none, none, none, none, none, none] := rfl
    rw [e9, law_seq t1 t2 t3 t4 t5 t6 t7 eT]
    rfl
  refine ⟨[], ?_⟩
  rw [law_at, runC_ap, e]
  have := clean_app (u := .bl true) (h := []) (t := X) (n := 0) rfl ok rfl
  simpa using this
end Wk
set_option maxRecDepth 100000
set_option maxHeartbeats 4000000
/-! Tc0: the derivations. Printed by gen.py. -/
namespace Wk
open PySem PySem.Spec PyProof.Rows L2
theorem sc_log_init : FnScope (slo .log_init) (prs .log_init) (defScope (st .log_init)) := ⟨rfl, rfl, rfl, by decide +kernel, rfl, by decide +kernel, by decide +kernel⟩
theorem ok_log_init {P : Program} {w : World} {mg : Str → Option Value} {base : Heap} {g : Gd} {ad : Fn → Addr} {fd : Fn → FuncData} (T : Txt g mg ad fd) : FnOk P w g.K mg base (L2.CX P w) 1 (ad .log_init) (fd .log_init) (prs .log_init) (spU g 2 (runB 2 m_log_init)) := by
  have SC := sc_log_init
  refine def_raw (T.fn .log_init) SC rfl rfl fun ex cdv A outer s H E hr C => ?_
  exact sm_seq (sm_stoF C T.cls T.na_most (ps_fld (pm_var (pv 0)) (pm_var (pv 1)) (by rfl))) (sm_seq (sm_stoF C T.cls T.na_begun (ps_fld (pm_var (pv 0)) (pm_new (pm_anil)) (by rfl))) (sm_one (sm_stoF C T.cls T.na_made (ps_fld (pm_var (pv 0)) (pm_new (pm_anil)) (by rfl)))))
end Wk
set_option maxRecDepth 100000
set_option maxHeartbeats 4000000
/-! Tc1: the derivations. Printed by gen.py. -/
namespace Wk
open PySem PySem.Spec PyProof.Rows L2
theorem sc_is_whole : FnScope (slo .is_whole) (prs .is_whole) (defScope (st .is_whole)) := ⟨rfl, rfl, rfl, by decide +kernel, rfl, by decide +kernel, by decide +kernel⟩
theorem ok_is_whole {P : Program} {w : World} {mg : Str → Option Value} {base : Heap} {g : Gd} {ad : Fn → Addr} {fd : Fn → FuncData} {k : Nat} {S : SemT} (T : Txt g mg ad fd) (hk : 2 ≤ k) (hS : ∀ n, FnOk P w g.K mg base (L2.CX P w) k (ad n) (fd n) (prs n) (spU g (ari n) (S n))) :
    FnOk P w g.K mg base (L2.CX P w) (k + 1) (ad .is_whole) (fd .is_whole) (prs .is_whole) (spU g 1 (runC 1 (m_is_whole S))) := by
  have SC := sc_is_whole
  refine def_clean (T.fn .is_whole) SC rfl rfl fun ex cdv A outer s H E hr C => ?_
  unfold m_is_whole
  exact sm_one (sm_ret (pm_andV (pm_isi C .int (by rfl) T.b_isinstance (by rfl) (pm_var (pv 0)) (by rfl) T.b_int (by rfl)) (pm_oneV (pm_notV (pm_isi C .bool (by rfl) T.b_isinstance (by rfl) (pm_var (pv 0)) (by rfl) T.b_bool (by rfl))))))
theorem sc_size_of : FnScope (slo .size_of) (prs .size_of) (defScope (st .size_of)) := ⟨rfl, rfl, rfl, by decide +kernel, rfl, by decide +kernel, by decide +kernel⟩
theorem ok_size_of {P : Program} {w : World} {mg : Str → Option Value} {base : Heap} {g : Gd} {ad : Fn → Addr} {fd : Fn → FuncData} {k : Nat} {S : SemT} (T : Txt g mg ad fd) (hk : 2 ≤ k) (hS : ∀ n, FnOk P w g.K mg base (L2.CX P w) k (ad n) (fd n) (prs n) (spU g (ari n) (S n))) :
    FnOk P w g.K mg base (L2.CX P w) (k + 1) (ad .size_of) (fd .size_of) (prs .size_of) (spU g 2 (runC 5 (m_size_of S))) := by
  have SC := sc_size_of
  refine def_clean (T.fn .size_of) SC rfl rfl fun ex cdv A outer s H E hr C => ?_
  unfold m_size_of
  exact sm_seq (sm_if (pm_cmpT (ou_eq C) (pm_var (pv 0)) (pm_str) (by rfl)) (sm_one (sm_ret (pm_int))) (sm_nil)) (sm_seq (sm_if (pm_cmpT (ou_eq C) (pm_var (pv 0)) (pm_str) (by rfl)) (sm_one (sm_ret (pm_callB (cu_len C) (by rfl) T.b_len (by rfl) (pm_acons (pm_var (pv 1)) (pm_anil))))) (sm_nil)) (sm_seq (sm_set (ps_set (i := 2) SC.nd rfl (by first | exact Or.inl rfl | exact Or.inr rfl) (pm_int))) (sm_seq (sm_set (ps_set (i := 3) SC.nd rfl (by first | exact Or.inl rfl | exact Or.inr rfl) (pm_new (pm_acons (pm_var (pv 1)) (pm_anil))))) (sm_seq (sm_while (N := NN) (passes_of rfl) (pm_cmpT (ou_gt) (pm_callB (cu_len C) (by rfl) T.b_len (by rfl) (pm_acons (pm_var (pv 3)) (pm_anil))) (pm_int) (by rfl)) (sm_seq (sm_set (ps_set (i := 4) SC.nd rfl (by first | exact Or.inl rfl | exact Or.inr rfl) (pm_pop C (pm_var (pv 3))))) (sm_one (sm_if (pm_cmpT (ou_notN) (pm_var (pv 4)) (pm_non) (by rfl)) (sm_seq (sm_inc (ps_aug (i := 2) SC.nd rfl (by first | exact Or.inl rfl | exact Or.inr rfl) (pm_int) ip_add)) (sm_seq (sm_expr (ps_expr (pm_append C (pm_var (pv 3)) (pm_acons (pm_ix C (pm_var (pv 4)) (pm_int) (fun _ _ => rfl)) (pm_anil))))) (sm_one (sm_expr (ps_expr (pm_append C (pm_var (pv 3)) (pm_acons (pm_ix C (pm_var (pv 4)) (pm_int) (fun _ _ => rfl)) (pm_anil)))))))) (sm_nil))))) (sm_one (sm_ret (pm_var (pv 2))))))))
theorem sc_value_by : FnScope (slo .value_by) (prs .value_by) (defScope (st .value_by)) := ⟨rfl, rfl, rfl, by decide +kernel, rfl, by decide +kernel, by decide +kernel⟩
theorem ok_value_by {P : Program} {w : World} {mg : Str → Option Value} {base : Heap} {g : Gd} {ad : Fn → Addr} {fd : Fn → FuncData} {k : Nat} {S : SemT} (T : Txt g mg ad fd) (hk : 2 ≤ k) (hS : ∀ n, FnOk P w g.K mg base (L2.CX P w) k (ad n) (fd n) (prs n) (spU g (ari n) (S n))) :
    FnOk P w g.K mg base (L2.CX P w) (k + 1) (ad .value_by) (fd .value_by) (prs .value_by) (spU g 5 (runC 8 (m_value_by S))) := by
  have SC := sc_value_by
  refine def_clean (T.fn .value_by) SC rfl rfl fun ex cdv A outer s H E hr C => ?_
  unfold m_value_by
  exact sm_seq (sm_if (pm_cmpT (ou_eq C) (pm_ix C (pm_var (pv 1)) (pm_int) (fun _ _ => rfl)) (pm_str) (by rfl)) (sm_one (sm_ret (pm_ix C (pm_var (pv 1)) (pm_int) (fun _ _ => rfl)))) (sm_nil)) (sm_seq (sm_if (pm_cmpT (ou_eq C) (pm_ix C (pm_var (pv 1)) (pm_int) (fun _ _ => rfl)) (pm_str) (by rfl)) (sm_one (sm_ret (pm_get C (pm_var (pv 2)) (pm_ix C (pm_var (pv 1)) (pm_int) (fun _ _ => rfl)) (fun _ _ => rfl)))) (sm_nil)) (sm_seq (sm_if (pm_cmpT (ou_eq C) (pm_ix C (pm_var (pv 1)) (pm_int) (fun _ _ => rfl)) (pm_str) (by rfl)) (sm_one (sm_ret (pm_tup (pm_anil)))) (sm_nil)) (sm_seq (sm_if (pm_cmpT (ou_eq C) (pm_ix C (pm_var (pv 1)) (pm_int) (fun _ _ => rfl)) (pm_str) (by rfl)) (sm_one (sm_ret (pm_non))) (sm_nil)) (sm_seq (sm_if (pm_cmpT (ou_eq C) (pm_ix C (pm_var (pv 1)) (pm_int) (fun _ _ => rfl)) (pm_str) (by rfl)) (sm_seq (sm_setLc (i := 6) C rfl rfl (takes_of rfl rfl rfl rfl) rfl rfl (sw_true rfl rfl rfl rfl) (im_seq C (pm_ix C (pm_var (pv 1)) (pm_int) (fun _ _ => rfl))) (own := [(("part" : Str), 7)]) (blkOk_by (by rfl)) (fun s H Ca cl fp xe => by exact pg_name (i := 7) SC.nd rfl (by first | exact Or.inl rfl | exact Or.inr rfl)) (gg := gName 7) (ix := [7]) (fun ex => gu_name) (by decide) (BTs.nil) (fun ex s H Ca cl fp xe C => pm_def C (hS .value_by) hr (by rfl) (T.mf .value_by rfl) (T.fn .value_by).kp (T.bd .value_by) (pm_acons (pm_var (pv 0)) (pm_acons (pm_var (pv 7)) (pm_acons (pm_var (pv 2)) (pm_acons (pm_var (pv 3)) (pm_acons (pm_var (pv 4)) (pm_anil)))))))) (sm_one (sm_ret (pm_def C (hS .call_value) hr (by rfl) (T.mf .call_value rfl) (T.fn .call_value).kp (T.bd .call_value) (pm_acons (pm_var (pv 0)) (pm_acons (pm_ix C (pm_var (pv 1)) (pm_int) (fun _ _ => rfl)) (pm_acons (pm_var (pv 6)) (pm_acons (pm_var (pv 3)) (pm_acons (pm_var (pv 4)) (pm_anil)))))))))) (sm_nil)) (sm_seq (sm_setLc (i := 5) C rfl rfl (takes_of rfl rfl rfl rfl) rfl rfl (sw_true rfl rfl rfl rfl) (im_seq C (pm_sl C (pm_var (pv 1)) (pm_osome (pm_int)) (pm_onone))) (own := [(("part" : Str), 7)]) (blkOk_by (by rfl)) (fun s H Ca cl fp xe => by exact pg_name (i := 7) SC.nd rfl (by first | exact Or.inl rfl | exact Or.inr rfl)) (gg := gName 7) (ix := [7]) (fun ex => gu_name) (by decide) (BTs.nil) (fun ex s H Ca cl fp xe C => pm_def C (hS .value_by) hr (by rfl) (T.mf .value_by rfl) (T.fn .value_by).kp (T.bd .value_by) (pm_acons (pm_var (pv 0)) (pm_acons (pm_var (pv 7)) (pm_acons (pm_var (pv 2)) (pm_acons (pm_var (pv 3)) (pm_acons (pm_var (pv 4)) (pm_anil)))))))) (sm_one (sm_ret (pm_def C (hS .made_of) hr (by rfl) (T.mf .made_of rfl) (T.fn .made_of).kp (T.bd .made_of) (pm_acons (pm_ix C (pm_var (pv 1)) (pm_int) (fun _ _ => rfl)) (pm_acons (pm_var (pv 5)) (pm_acons (pm_ix C (pm_var (pv 3)) (pm_neg (pm_int)) (fun _ _ => rfl)) (pm_acons (pm_var (pv 4)) (pm_anil)))))))))))))
theorem sc_law_cell_at : FnScope (slo .law_cell_at) (prs .law_cell_at) (defScope (st .law_cell_at)) := ⟨rfl, rfl, rfl, by decide +kernel, rfl, by decide +kernel, by decide +kernel⟩
theorem ok_law_cell_at {P : Program} {w : World} {mg : Str → Option Value} {base : Heap} {g : Gd} {ad : Fn → Addr} {fd : Fn → FuncData} {k : Nat} {S : SemT} (T : Txt g mg ad fd) (hk : 2 ≤ k) (hS : ∀ n, FnOk P w g.K mg base (L2.CX P w) k (ad n) (fd n) (prs n) (spU g (ari n) (S n))) :
    FnOk P w g.K mg base (L2.CX P w) (k + 1) (ad .law_cell_at) (fd .law_cell_at) (prs .law_cell_at) (spU g 2 (runC 2 (m_law_cell_at S))) := by
  have SC := sc_law_cell_at
  refine def_clean (T.fn .law_cell_at) SC rfl rfl fun ex cdv A outer s H E hr C => ?_
  unfold m_law_cell_at
  exact sm_seq (sm_if (pm_cmpT (ou_lt) (pm_var (pv 1)) (pm_callB (cu_len C) (by rfl) T.b_len (by rfl) (pm_acons (pm_var (pv 0)) (pm_anil))) (by rfl)) (sm_one (sm_ret (pm_ix C (pm_var (pv 0)) (pm_var (pv 1)) (fun _ _ => rfl)))) (sm_nil)) (sm_one (sm_ret (pm_int)))
theorem sc_law_number : FnScope (slo .law_number) (prs .law_number) (defScope (st .law_number)) := ⟨rfl, rfl, rfl, by decide +kernel, rfl, by decide +kernel, by decide +kernel⟩
theorem ok_law_number {P : Program} {w : World} {mg : Str → Option Value} {base : Heap} {g : Gd} {ad : Fn → Addr} {fd : Fn → FuncData} {k : Nat} {S : SemT} (T : Txt g mg ad fd) (hk : 2 ≤ k) (hS : ∀ n, FnOk P w g.K mg base (L2.CX P w) k (ad n) (fd n) (prs n) (spU g (ari n) (S n))) :
    FnOk P w g.K mg base (L2.CX P w) (k + 1) (ad .law_number) (fd .law_number) (prs .law_number) (spU g 1 (runC 1 (m_law_number S))) := by
  have SC := sc_law_number
  refine def_clean (T.fn .law_number) SC rfl rfl fun ex cdv A outer s H E hr C => ?_
  unfold m_law_number
  exact sm_one (sm_ret (pm_op (ou_add C) (pm_op (ou_sub) (pm_op (ou_mod) (pm_var (pv 0)) (pm_op (ou_sub) (pm_op (ou_mul) (pm_int) (pm_op (ou_pow) (pm_int) (pm_int))) (pm_int))) (pm_op (ou_pow) (pm_int) (pm_int))) (pm_int)))
theorem sc_law_names : FnScope (slo .law_names) (prs .law_names) (defScope (st .law_names)) := ⟨rfl, rfl, rfl, by decide +kernel, rfl, by decide +kernel, by decide +kernel⟩
theorem ok_law_names {P : Program} {w : World} {mg : Str → Option Value} {base : Heap} {g : Gd} {ad : Fn → Addr} {fd : Fn → FuncData} {k : Nat} {S : SemT} (T : Txt g mg ad fd) (hk : 2 ≤ k) (hS : ∀ n, FnOk P w g.K mg base (L2.CX P w) k (ad n) (fd n) (prs n) (spU g (ari n) (S n))) :
    FnOk P w g.K mg base (L2.CX P w) (k + 1) (ad .law_names) (fd .law_names) (prs .law_names) (spU g 2 (runC 9 (m_law_names S))) := by
  have SC := sc_law_names
  refine def_clean (T.fn .law_names) SC rfl rfl fun ex cdv A outer s H E hr C => ?_
  unfold m_law_names
  exact sm_seq (sm_set (ps_set (i := 2) SC.nd rfl (by first | exact Or.inl rfl | exact Or.inr rfl) (pm_str))) (sm_seq (sm_set (ps_set (i := 0) SC.nd rfl (by first | exact Or.inl rfl | exact Or.inr rfl) (pm_op (ou_mod) (pm_var (pv 0)) (pm_op (ou_pow) (pm_int) (pm_int))))) (sm_seq (sm_setLc (i := 3) C rfl rfl (takes_of rfl rfl rfl rfl) rfl rfl (sw_true rfl rfl rfl rfl) (im_range (by rfl) T.b_range (pm_op (ou_add C) (pm_int) (pm_op (ou_mod) (pm_var (pv 0)) (pm_int)))) (own := [(("_law_k" : Str), 6)]) (blkOk_by (by rfl)) (fun s H Ca cl fp xe => by exact pg_name (i := 6) SC.nd rfl (by first | exact Or.inl rfl | exact Or.inr rfl)) (gg := gName 6) (ix := [6]) (fun ex => gu_name) (by decide) (BTs.nil) (fun ex s H Ca cl fp xe C => pm_op (ou_mod) (pm_op (ou_add C) (pm_op (ou_div) (pm_var (pv 0)) (pm_op (ou_add C) (pm_var (pv 6)) (pm_int))) (pm_op (ou_mul) (pm_var (pv 6)) (pm_var (pv 6)))) (pm_int))) (sm_seq (sm_set (ps_set (i := 4) SC.nd rfl (by first | exact Or.inl rfl | exact Or.inr rfl) (pm_op (ou_mod) (pm_op (ou_div) (pm_var (pv 0)) (pm_int)) (pm_callB (cu_len C) (by rfl) T.b_len (by rfl) (pm_acons (pm_var (pv 3)) (pm_anil)))))) (sm_seq (sm_set (ps_set (i := 5) SC.nd rfl (by first | exact Or.inl rfl | exact Or.inr rfl) (pm_new (pm_anil)))) (sm_seq (sm_for (N := NN) (passes_of rfl) C (im_range (by rfl) T.b_range (pm_var (pv 1))) (pg_name (i := 6) SC.nd rfl (by first | exact Or.inl rfl | exact Or.inr rfl)) (gu_name) (sm_seq (sm_set (ps_set (i := 7) SC.nd rfl (by first | exact Or.inl rfl | exact Or.inr rfl) (pm_callTy (cu_listN C) (by rfl) T.b_list (by rfl) (pm_acons (pm_var (pv 3)) (pm_anil))))) (sm_seq (sm_stoL (ps_asg (pm_op (ou_mod) (pm_op (ou_add C) (pm_ix C (pm_var (pv 3)) (pm_var (pv 4)) (fun _ _ => rfl)) (pm_var (pv 6))) (pm_int)) (pg_sub (pm_var (pv 7)) (pm_var (pv 4)) set_list))) (sm_one (sm_expr (ps_expr (pm_append C (pm_var (pv 5)) (pm_acons (pm_join C (pm_str) (pm_lc C rfl rfl (takes_of rfl rfl rfl rfl) (im_seq C (pm_var (pv 7))) (own := [(("_law_part" : Str), 8)]) (blkOk_by (by rfl)) (fun s H Ca cl fp xe => by exact pg_name (i := 8) SC.nd rfl (by first | exact Or.inl rfl | exact Or.inr rfl)) (gg := gName 8) (ix := [8]) (fun ex => gu_name) (by decide) (BTs.nil) (fun ex s H Ca cl fp xe C => pm_ix C (pm_var (pv 2)) (pm_var (pv 8)) (fun _ _ => rfl)))) (pm_anil))))))))) (sm_one (sm_ret (pm_var (pv 5)))))))))
theorem sc_law_expression : FnScope (slo .law_expression) (prs .law_expression) (defScope (st .law_expression)) := ⟨rfl, rfl, rfl, by decide +kernel, rfl, by decide +kernel, by decide +kernel⟩
theorem ok_law_expression {P : Program} {w : World} {mg : Str → Option Value} {base : Heap} {g : Gd} {ad : Fn → Addr} {fd : Fn → FuncData} {k : Nat} {S : SemT} (T : Txt g mg ad fd) (hk : 2 ≤ k) (hS : ∀ n, FnOk P w g.K mg base (L2.CX P w) k (ad n) (fd n) (prs n) (spU g (ari n) (S n))) :
    FnOk P w g.K mg base (L2.CX P w) (k + 1) (ad .law_expression) (fd .law_expression) (prs .law_expression) (spU g 4 (runC 13 (m_law_expression S))) := by
  have SC := sc_law_expression
  refine def_clean (T.fn .law_expression) SC rfl rfl fun ex cdv A outer s H E hr C => ?_
  unfold m_law_expression
  exact sm_seq (sm_set (ps_set (i := 4) SC.nd rfl (by first | exact Or.inl rfl | exact Or.inr rfl) (pm_def C (hS .law_take) hr (by rfl) (T.mf .law_take rfl) (T.fn .law_take).kp (T.bd .law_take) (pm_acons (pm_var (pv 0)) (pm_anil))))) (sm_seq (sm_set (ps_set (i := 5) SC.nd rfl (by first | exact Or.inl rfl | exact Or.inr rfl) (pm_op (ou_mod) (pm_var (pv 4)) (pm_int)))) (sm_seq (sm_set (ps_set (i := 4) SC.nd rfl (by first | exact Or.inl rfl | exact Or.inr rfl) (pm_op (ou_div) (pm_var (pv 4)) (pm_int)))) (sm_seq (sm_setLc (i := 6) C rfl rfl (takes_of rfl rfl rfl rfl) rfl rfl (sw_true rfl rfl rfl rfl) (im_seq C (pm_var (pv 1))) (own := [(("_law_name" : Str), 11), (("_law_kind" : Str), 12)]) (blkOk_by (by rfl)) (fun s H Ca cl fp xe => by exact pg_tup rfl (pgs_cons (pg_name (i := 11) SC.nd rfl (by first | exact Or.inl rfl | exact Or.inr rfl)) (pgs_cons (pg_name (i := 12) SC.nd rfl (by first | exact Or.inl rfl | exact Or.inr rfl)) (pgs_nil)))) (gg := gTup g.K 2 (gM [11, 12])) (ix := [11, 12]) (fun ex => gu_tup (is := [11, 12])) (by decide) (BTs.one (fun ex s H Ca cl fp xe C => pm_cmpT (ou_eq C) (pm_var (pv 12)) (pm_var (pv 3)) (by rfl))) (fun ex s H Ca cl fp xe C => pm_var (pv 11))) (sm_seq (sm_setLc (i := 7) C rfl rfl (takes_of rfl rfl rfl rfl) rfl rfl (sw_true rfl rfl rfl rfl) (im_seq C (pm_ix C (pm_var (pv 0)) (pm_int) (fun _ _ => rfl))) (own := [(("_law_head_here" : Str), 8)]) (blkOk_by (by rfl)) (fun s H Ca cl fp xe => by exact pg_name (i := 8) SC.nd rfl (by first | exact Or.inl rfl | exact Or.inr rfl)) (gg := gName 8) (ix := [8]) (fun ex => gu_name) (by decide) (BTs.one (fun ex s H Ca cl fp xe C => pm_cmpT (ou_eq C) (pm_ix C (pm_ix C (pm_var (pv 8)) (pm_int) (fun _ _ => rfl)) (pm_int) (fun _ _ => rfl)) (pm_var (pv 3)) (by rfl))) (fun ex s H Ca cl fp xe C => pm_var (pv 8))) (sm_seq (sm_if ((pw_andM (pm_cmpT (ou_lt) (pm_var (pv 2)) (pm_int) (by rfl)) (pw_andM (pm_cmpT (ou_eq C) (pm_var (pv 5)) (pm_int) (by rfl)) (pw_and1M (pm_cmpT (ou_gt) (pm_callB (cu_len C) (by rfl) T.b_len (by rfl) (pm_acons (pm_var (pv 7)) (pm_anil))) (pm_int) (by rfl))))).pt) (sm_seq (sm_set (ps_set (i := 8) SC.nd rfl (by first | exact Or.inl rfl | exact Or.inr rfl) (pm_ix C (pm_var (pv 7)) (pm_op (ou_mod) (pm_var (pv 4)) (pm_callB (cu_len C) (by rfl) T.b_len (by rfl) (pm_acons (pm_var (pv 7)) (pm_anil)))) (fun _ _ => rfl)))) (sm_one (sm_ret (pm_tup (pm_acons (pm_str) (pm_acons (pm_ix C (pm_var (pv 8)) (pm_int) (fun _ _ => rfl)) (pm_acons (pm_callTy (cu_tuple C) (by rfl) T.b_tuple (by rfl) (pm_acons (pm_lc C rfl rfl (takes_of rfl rfl rfl rfl) (im_seq C (pm_ix C (pm_var (pv 8)) (pm_int) (fun _ _ => rfl))) (own := [(("_law_name" : Str), 11), (("_law_kind" : Str), 12)]) (blkOk_by (by rfl)) (fun s H Ca cl fp xe => by exact pg_tup rfl (pgs_cons (pg_name (i := 11) SC.nd rfl (by first | exact Or.inl rfl | exact Or.inr rfl)) (pgs_cons (pg_name (i := 12) SC.nd rfl (by first | exact Or.inl rfl | exact Or.inr rfl)) (pgs_nil)))) (gg := gTup g.K 2 (gM [11, 12])) (ix := [11, 12]) (fun ex => gu_tup (is := [11, 12])) (by decide) (BTs.nil) (fun ex s H Ca cl fp xe C => pm_def C (hS .law_expression) hr (by rfl) (T.mf .law_expression rfl) (T.fn .law_expression).kp (T.bd .law_expression) (pm_acons (pm_var (pv 0)) (pm_acons (pm_var (pv 1)) (pm_acons (pm_op (ou_add C) (pm_var (pv 2)) (pm_int)) (pm_acons (pm_var (pv 12)) (pm_anil))))))) (pm_anil))) (pm_anil)))))))) (sm_nil)) (sm_seq (sm_if ((pw_andM (pm_cmpT (ou_lt) (pm_var (pv 2)) (pm_int) (by rfl)) (pw_and1M (pm_cmpT (ou_in C) (pm_var (pv 5)) (pm_tup (pm_acons (pm_int) (pm_acons (pm_int) (pm_anil)))) (by rfl)))).pt) (sm_seq (sm_set (ps_set (i := 9) SC.nd rfl (by first | exact Or.inl rfl | exact Or.inr rfl) (pm_dispget C (dps_cons (pm_lst (pm_acons (pm_str) (pm_acons (pm_str) (pm_anil)))) (dps_cons (pm_lst (pm_acons (pm_str) (pm_acons (pm_str) (pm_anil)))) (dps_cons (pm_lst (pm_acons (pm_str) (pm_acons (pm_str) (pm_acons (pm_str) (pm_anil))))) (dps_nil)))) (pm_var (pv 3))))) (sm_seq (sm_set (ps_set (i := 10) SC.nd rfl (by first | exact Or.inl rfl | exact Or.inr rfl) (pm_dispget C (dps_cons (pm_ix C (pm_lst (pm_acons (pm_str) (pm_acons (pm_str) (pm_anil)))) (pm_op (ou_mod) (pm_var (pv 4)) (pm_int)) (fun _ _ => rfl)) (dps_cons (pm_str) (dps_cons (pm_str) (dps_nil)))) (pm_var (pv 3))))) (sm_one (sm_ret (pm_op (ou_add C) (pm_tup (pm_acons (pm_var (pv 10)) (pm_anil))) (pm_callTy (cu_tuple C) (by rfl) T.b_tuple (by rfl) (pm_acons (pm_lc C rfl rfl (takes_of rfl rfl rfl rfl) (im_seq C (pm_var (pv 9))) (own := [(("_law_kind" : Str), 12)]) (blkOk_by (by rfl)) (fun s H Ca cl fp xe => by exact pg_name (i := 12) SC.nd rfl (by first | exact Or.inl rfl | exact Or.inr rfl)) (gg := gName 12) (ix := [12]) (fun ex => gu_name) (by decide) (BTs.nil) (fun ex s H Ca cl fp xe C => pm_def C (hS .law_expression) hr (by rfl) (T.mf .law_expression rfl) (T.fn .law_expression).kp (T.bd .law_expression) (pm_acons (pm_var (pv 0)) (pm_acons (pm_var (pv 1)) (pm_acons (pm_op (ou_add C) (pm_var (pv 2)) (pm_int)) (pm_acons (pm_var (pv 12)) (pm_anil))))))) (pm_anil)))))))) (sm_nil)) (sm_seq (sm_if ((pw_andM (pm_cmpT (ou_ne C) (pm_var (pv 5)) (pm_int) (by rfl)) (pw_and1M (pm_cmpT (ou_gt) (pm_callB (cu_len C) (by rfl) T.b_len (by rfl) (pm_acons (pm_var (pv 6)) (pm_anil))) (pm_int) (by rfl)))).pt) (sm_one (sm_ret (pm_tup (pm_acons (pm_str) (pm_acons (pm_ix C (pm_var (pv 6)) (pm_op (ou_mod) (pm_var (pv 4)) (pm_callB (cu_len C) (by rfl) T.b_len (by rfl) (pm_acons (pm_var (pv 6)) (pm_anil)))) (fun _ _ => rfl)) (pm_anil)))))) (sm_nil)) (sm_seq (sm_if (pm_cmpT (ou_eq C) (pm_var (pv 3)) (pm_str) (by rfl)) (sm_one (sm_ret (pm_tup (pm_acons (pm_str) (pm_acons (pm_op (ou_mul) (pm_op (ou_div) (pm_var (pv 4)) (pm_int)) (pm_op (ou_sub) (pm_int) (pm_op (ou_mul) (pm_int) (pm_op (ou_mod) (pm_var (pv 4)) (pm_int))))) (pm_anil)))))) (sm_nil)) (sm_one (sm_ret (pm_ix C (pm_lst (pm_acons (pm_tup (pm_acons (pm_str) (pm_anil))) (pm_acons (pm_tup (pm_acons (pm_str) (pm_anil))) (pm_anil)))) (pm_callTy (cu_int) (by rfl) T.b_int (by rfl) (pm_acons (pm_cmp (ou_eq C) (pm_var (pv 3)) (pm_str) (by rfl)) (pm_anil))) (fun _ _ => rfl))))))))))))
theorem sc_law_told : FnScope (slo .law_told) (prs .law_told) (defScope (st .law_told)) := ⟨rfl, rfl, rfl, by decide +kernel, rfl, by decide +kernel, by decide +kernel⟩
theorem ok_law_told {P : Program} {w : World} {mg : Str → Option Value} {base : Heap} {g : Gd} {ad : Fn → Addr} {fd : Fn → FuncData} {k : Nat} {S : SemT} (T : Txt g mg ad fd) (hk : 2 ≤ k) (hS : ∀ n, FnOk P w g.K mg base (L2.CX P w) k (ad n) (fd n) (prs n) (spU g (ari n) (S n))) :
    FnOk P w g.K mg base (L2.CX P w) (k + 1) (ad .law_told) (fd .law_told) (prs .law_told) (spU g 3 (runC 5 (m_law_told S))) := by
  have SC := sc_law_told
  refine def_clean (T.fn .law_told) SC rfl rfl fun ex cdv A outer s H E hr C => ?_
  unfold m_law_told
  exact sm_seq (sm_if ((pw_orM (pm_not (pm_val (pm_isi C .tuple (by rfl) T.b_isinstance (by rfl) (pm_var (pv 1)) (by rfl) T.b_tuple (by rfl)))) (pw_orM (pm_cmpT (ou_ne C) (pm_callB (cu_len C) (by rfl) T.b_len (by rfl) (pm_acons (pm_var (pv 1)) (pm_anil))) (pm_int) (by rfl)) (pw_or1M (pm_not (pm_val (pm_isi C .bool (by rfl) T.b_isinstance (by rfl) (pm_ix C (pm_var (pv 1)) (pm_int) (fun _ _ => rfl)) (by rfl) T.b_bool (by rfl))))))).pt) (sm_one (sm_ret (pm_bl))) (sm_nil)) (sm_seq (sm_if ((pw_orM (pm_not (pm_val (pm_isi C .list (by rfl) T.b_isinstance (by rfl) (pm_ix C (pm_var (pv 1)) (pm_int) (fun _ _ => rfl)) (by rfl) T.b_list (by rfl)))) (pw_orM (pm_not (pm_val (pm_isi C .list (by rfl) T.b_isinstance (by rfl) (pm_ix C (pm_var (pv 1)) (pm_int) (fun _ _ => rfl)) (by rfl) T.b_list (by rfl)))) (pw_or1M (pm_cmpT (ou_gt) (pm_callB (cu_len C) (by rfl) T.b_len (by rfl) (pm_acons (pm_ix C (pm_var (pv 1)) (pm_int) (fun _ _ => rfl)) (pm_anil))) (pm_var (pv 2)) (by rfl))))).pt) (sm_one (sm_ret (pm_bl))) (sm_nil)) (sm_seq (sm_for (N := NN) (passes_of rfl) C (im_range (by rfl) T.b_range (pm_callB (cu_len C) (by rfl) T.b_len (by rfl) (pm_acons (pm_ix C (pm_var (pv 1)) (pm_int) (fun _ _ => rfl)) (pm_anil)))) (pg_name (i := 3) SC.nd rfl (by first | exact Or.inl rfl | exact Or.inr rfl)) (gu_name) (sm_one (sm_if (pm_not (pm_val (pm_def C (hS .law_call_told) hr (by rfl) (T.mf .law_call_told rfl) (T.fn .law_call_told).kp (T.bd .law_call_told) (pm_acons (pm_var (pv 0)) (pm_acons (pm_var (pv 3)) (pm_acons (pm_ix C (pm_ix C (pm_var (pv 1)) (pm_int) (fun _ _ => rfl)) (pm_var (pv 3)) (fun _ _ => rfl)) (pm_anil))))))) (sm_one (sm_ret (pm_bl))) (sm_nil)))) (sm_seq (sm_for (N := NN) (passes_of rfl) C (im_seq C (pm_ix C (pm_var (pv 1)) (pm_int) (fun _ _ => rfl))) (pg_name (i := 4) SC.nd rfl (by first | exact Or.inl rfl | exact Or.inr rfl)) (gu_name) (sm_seq (sm_if ((pw_orM (pm_not (pm_val (pm_isi C .tuple (by rfl) T.b_isinstance (by rfl) (pm_var (pv 4)) (by rfl) T.b_tuple (by rfl)))) (pw_orM (pm_cmpT (ou_ne C) (pm_callB (cu_len C) (by rfl) T.b_len (by rfl) (pm_acons (pm_var (pv 4)) (pm_anil))) (pm_int) (by rfl)) (pw_or1M (pm_not (pm_val (pm_isi C .str (by rfl) T.b_isinstance (by rfl) (pm_ix C (pm_var (pv 4)) (pm_int) (fun _ _ => rfl)) (by rfl) T.b_str (by rfl))))))).pt) (sm_one (sm_ret (pm_bl))) (sm_nil)) (sm_one (sm_if ((pw_orM (pm_not (pm_val (pm_def C (hS .law_whole) hr (by rfl) (T.mf .law_whole rfl) (T.fn .law_whole).kp (T.bd .law_whole) (pm_acons (pm_ix C (pm_var (pv 4)) (pm_int) (fun _ _ => rfl)) (pm_anil))))) (pw_orM (pm_cmpT (ou_lt) (pm_ix C (pm_var (pv 4)) (pm_int) (fun _ _ => rfl)) (pm_int) (by rfl)) (pw_or1M (pm_cmpT (ou_ge) (pm_ix C (pm_var (pv 4)) (pm_int) (fun _ _ => rfl)) (pm_callB (cu_len C) (by rfl) T.b_len (by rfl) (pm_acons (pm_ix C (pm_var (pv 1)) (pm_int) (fun _ _ => rfl)) (pm_anil))) (by rfl))))).pt) (sm_one (sm_ret (pm_bl))) (sm_nil))))) (sm_one (sm_ret (pm_bl))))))
theorem sc_law_given : FnScope (slo .law_given) (prs .law_given) (defScope (st .law_given)) := ⟨rfl, rfl, rfl, by decide +kernel, rfl, by decide +kernel, by decide +kernel⟩
theorem ok_law_given {P : Program} {w : World} {mg : Str → Option Value} {base : Heap} {g : Gd} {ad : Fn → Addr} {fd : Fn → FuncData} {k : Nat} {S : SemT} (T : Txt g mg ad fd) (hk : 2 ≤ k) (hS : ∀ n, FnOk P w g.K mg base (L2.CX P w) k (ad n) (fd n) (prs n) (spU g (ari n) (S n))) :
    FnOk P w g.K mg base (L2.CX P w) (k + 1) (ad .law_given) (fd .law_given) (prs .law_given) (spU g 3 (runC 5 (m_law_given S))) := by
  have SC := sc_law_given
  refine def_clean (T.fn .law_given) SC rfl rfl fun ex cdv A outer s H E hr C => ?_
  unfold m_law_given
  exact sm_seq (sm_while (N := NN) (passes_of rfl) ((pw_andM (pm_not (pm_val (pm_ix C (pm_var (pv 0)) (pm_int) (fun _ _ => rfl)))) (pw_and1M (pm_cmpT (ou_ne C) (pm_ix C (pm_var (pv 1)) (pm_int) (fun _ _ => rfl)) (pm_str) (by rfl)))).pt) (sm_one (sm_if (pm_cmpT (ou_eq C) (pm_ix C (pm_var (pv 1)) (pm_int) (fun _ _ => rfl)) (pm_str) (by rfl)) (sm_seq (sm_stoD C (ps_dput (by have := C.room; omega) (pm_var (pv 2)) (pm_ix C (pm_var (pv 1)) (pm_int) (fun _ _ => rfl)) (pm_def C (hS .law_value) hr (by rfl) (T.mf .law_value rfl) (T.fn .law_value).kp (T.bd .law_value) (pm_acons (pm_var (pv 0)) (pm_acons (pm_ix C (pm_var (pv 1)) (pm_int) (fun _ _ => rfl)) (pm_acons (pm_var (pv 2)) (pm_anil))))) (by rfl))) (sm_seq (sm_set (ps_set (i := 1) SC.nd rfl (by first | exact Or.inl rfl | exact Or.inr rfl) (pm_ix C (pm_var (pv 1)) (pm_int) (fun _ _ => rfl)))) (sm_one (sm_if (pm_not (pm_val (pm_ix C (pm_var (pv 0)) (pm_int) (fun _ _ => rfl)))) (sm_one (sm_expr (ps_expr (pm_append C (pm_ix C (pm_var (pv 0)) (pm_int) (fun _ _ => rfl)) (pm_acons (pm_str) (pm_anil)))))) (sm_nil))))) (sm_one (sm_if (pm_cmpT (ou_eq C) (pm_ix C (pm_var (pv 1)) (pm_int) (fun _ _ => rfl)) (pm_str) (by rfl)) (sm_seq (sm_set (ps_set (i := 3) SC.nd rfl (by first | exact Or.inl rfl | exact Or.inr rfl) (pm_def C (hS .law_value) hr (by rfl) (T.mf .law_value rfl) (T.fn .law_value).kp (T.bd .law_value) (pm_acons (pm_var (pv 0)) (pm_acons (pm_ix C (pm_var (pv 1)) (pm_int) (fun _ _ => rfl)) (pm_acons (pm_var (pv 2)) (pm_anil))))))) (sm_seq (sm_set (ps_set (i := 4) SC.nd rfl (by first | exact Or.inl rfl | exact Or.inr rfl) (pm_def C (hS .law_value) hr (by rfl) (T.mf .law_value rfl) (T.fn .law_value).kp (T.bd .law_value) (pm_acons (pm_var (pv 0)) (pm_acons (pm_ix C (pm_var (pv 1)) (pm_int) (fun _ _ => rfl)) (pm_acons (pm_var (pv 2)) (pm_anil))))))) (sm_one (sm_if (pm_not (pm_val (pm_ix C (pm_var (pv 0)) (pm_int) (fun _ _ => rfl)))) (sm_seq (sm_expr (ps_expr (pm_append C (pm_ix C (pm_var (pv 0)) (pm_int) (fun _ _ => rfl)) (pm_acons (pm_str) (pm_anil))))) (sm_one (sm_set (ps_set (i := 1) SC.nd rfl (by first | exact Or.inl rfl | exact Or.inr rfl) (pm_ix C (pm_var (pv 1)) (pm_op (ou_add C) (pm_int) (pm_callTy (cu_int) (by rfl) T.b_int (by rfl) (pm_acons (pm_cmp (ou_ge) (pm_var (pv 3)) (pm_var (pv 4)) (by rfl)) (pm_anil)))) (fun _ _ => rfl)))))) (sm_nil))))) (sm_seq (sm_expr (ps_expr (pm_append C (pm_ix C (pm_var (pv 0)) (pm_int) (fun _ _ => rfl)) (pm_acons (pm_str) (pm_anil))))) (sm_one (sm_set (ps_set (i := 1) SC.nd rfl (by first | exact Or.inl rfl | exact Or.inr rfl) (pm_def C (hS .law_opened) hr (by rfl) (T.mf .law_opened rfl) (T.fn .law_opened).kp (T.bd .law_opened) (pm_acons (pm_var (pv 1)) (pm_acons (pm_var (pv 2)) (pm_anil))))))))))))) (sm_seq (sm_if (pm_val (pm_ix C (pm_var (pv 0)) (pm_int) (fun _ _ => rfl))) (sm_one (sm_ret (pm_non))) (sm_nil)) (sm_one (sm_ret (pm_def C (hS .law_value) hr (by rfl) (T.mf .law_value rfl) (T.fn .law_value).kp (T.bd .law_value) (pm_acons (pm_var (pv 0)) (pm_acons (pm_ix C (pm_var (pv 1)) (pm_int) (fun _ _ => rfl)) (pm_acons (pm_var (pv 2)) (pm_anil))))))))
end Wk
set_option maxRecDepth 100000
set_option maxHeartbeats 4000000
/-! Tc2: the derivations. Printed by gen.py. -/
namespace Wk
open PySem PySem.Spec PyProof.Rows L2
theorem sc_is_row : FnScope (slo .is_row) (prs .is_row) (defScope (st .is_row)) := ⟨rfl, rfl, rfl, by decide +kernel, rfl, by decide +kernel, by decide +kernel⟩
theorem ok_is_row {P : Program} {w : World} {mg : Str → Option Value} {base : Heap} {g : Gd} {ad : Fn → Addr} {fd : Fn → FuncData} {k : Nat} {S : SemT} (T : Txt g mg ad fd) (hk : 2 ≤ k) (hS : ∀ n, FnOk P w g.K mg base (L2.CX P w) k (ad n) (fd n) (prs n) (spU g (ari n) (S n))) :
    FnOk P w g.K mg base (L2.CX P w) (k + 1) (ad .is_row) (fd .is_row) (prs .is_row) (spU g 1 (runC 2 (m_is_row S))) := by
  have SC := sc_is_row
  refine def_clean (T.fn .is_row) SC rfl rfl fun ex cdv A outer s H E hr C => ?_
  unfold m_is_row
  exact sm_seq (sm_if (pm_not (pm_val (pm_isi C .tuple (by rfl) T.b_isinstance (by rfl) (pm_var (pv 0)) (by rfl) T.b_tuple (by rfl)))) (sm_one (sm_ret (pm_bl))) (sm_nil)) (sm_seq (sm_for (N := NN) (passes_of rfl) C (im_seq C (pm_var (pv 0))) (pg_name (i := 1) SC.nd rfl (by first | exact Or.inl rfl | exact Or.inr rfl)) (gu_name) (sm_one (sm_if (pm_not (pm_val (pm_def C (hS .is_whole) hr (by rfl) (T.mf .is_whole rfl) (T.fn .is_whole).kp (T.bd .is_whole) (pm_acons (pm_var (pv 1)) (pm_anil))))) (sm_one (sm_ret (pm_bl))) (sm_nil)))) (sm_one (sm_ret (pm_bl))))
theorem sc_log_step : FnScope (slo .log_step) (prs .log_step) (defScope (st .log_step)) := ⟨rfl, rfl, rfl, by decide +kernel, rfl, by decide +kernel, by decide +kernel⟩
theorem ok_log_step {P : Program} {w : World} {mg : Str → Option Value} {base : Heap} {g : Gd} {ad : Fn → Addr} {fd : Fn → FuncData} {k : Nat} {S : SemT} (T : Txt g mg ad fd) (hk : 2 ≤ k) (hS : ∀ n, FnOk P w g.K mg base (L2.CX P w) k (ad n) (fd n) (prs n) (spU g (ari n) (S n))) :
    FnOk P w g.K mg base (L2.CX P w) (k + 1) (ad .log_step) (fd .log_step) (prs .log_step) (spU g 3 (runC 3 (m_log_step S))) := by
  have SC := sc_log_step
  refine def_clean (T.fn .log_step) SC rfl rfl fun ex cdv A outer s H E hr C => ?_
  unfold m_log_step
  exact sm_seq (sm_if (pm_cmpT (ou_ge) (pm_callB (cu_len C) (by rfl) T.b_len (by rfl) (pm_acons (pm_fldK (by rfl) (pm_var (pv 0)) T.cls T.na_made) (pm_anil))) (pm_fldK (by rfl) (pm_var (pv 0)) T.cls T.na_most) (by rfl)) (sm_one (sm_raiseC (W := fun _ _ _ _ => True) C (takes_of rfl rfl rfl rfl) PySem.F.excBase_Exception T.xi T.g_Cut T.kC (raises_own T.exC T.tyC) (by rfl))) (sm_nil)) (sm_one (sm_expr (ps_expr (pm_append C (pm_fldK (by rfl) (pm_var (pv 0)) T.cls T.na_made) (pm_acons (pm_tup (pm_acons (pm_var (pv 1)) (pm_acons (pm_var (pv 2)) (pm_anil)))) (pm_anil))))))
theorem sc_log_end : FnScope (slo .log_end) (prs .log_end) (defScope (st .log_end)) := ⟨rfl, rfl, rfl, by decide +kernel, rfl, by decide +kernel, by decide +kernel⟩
theorem ok_log_end {P : Program} {w : World} {mg : Str → Option Value} {base : Heap} {g : Gd} {ad : Fn → Addr} {fd : Fn → FuncData} {k : Nat} {S : SemT} (T : Txt g mg ad fd) (hk : 2 ≤ k) (hS : ∀ n, FnOk P w g.K mg base (L2.CX P w) k (ad n) (fd n) (prs n) (spU g (ari n) (S n))) :
    FnOk P w g.K mg base (L2.CX P w) (k + 1) (ad .log_end) (fd .log_end) (prs .log_end) (spU g 3 (runC 8 (m_log_end S))) := by
  have SC := sc_log_end
  refine def_clean (T.fn .log_end) SC rfl rfl fun ex cdv A outer s H E hr C => ?_
  unfold m_log_end
  exact sm_seq (sm_asg (tg := .Name "" ⟨0, 0, 0, 0⟩) (ps_asg (pm_ix C (pm_fldK (by rfl) (pm_var (pv 0)) T.cls T.na_begun) (pm_var (pv 1)) (fun _ _ => rfl)) (pg_tup rfl (pgs_cons (pg_name (i := 3) SC.nd rfl (by first | exact Or.inl rfl | exact Or.inr rfl)) (pgs_cons (pg_name (i := 4) SC.nd rfl (by first | exact Or.inl rfl | exact Or.inr rfl)) (pgs_cons (pg_name (i := 5) SC.nd rfl (by first | exact Or.inl rfl | exact Or.inr rfl)) (pgs_cons (pg_name (i := 6) SC.nd rfl (by first | exact Or.inl rfl | exact Or.inr rfl)) (pgs_cons (pg_name (i := 7) SC.nd rfl (by first | exact Or.inl rfl | exact Or.inr rfl)) (pgs_nil)))))))) (gu_tup (is := [3, 4, 5, 6, 7]))) (sm_one (sm_stoL (ps_asg (pm_tup (pm_acons (pm_var (pv 3)) (pm_acons (pm_var (pv 4)) (pm_acons (pm_var (pv 5)) (pm_acons (pm_bl) (pm_acons (pm_var (pv 2)) (pm_anil))))))) (pg_sub (pm_fldK (by rfl) (pm_var (pv 0)) T.cls T.na_begun) (pm_var (pv 1)) set_list))))
theorem sc_body_value : FnScope (slo .body_value) (prs .body_value) (defScope (st .body_value)) := ⟨rfl, rfl, rfl, by decide +kernel, rfl, by decide +kernel, by decide +kernel⟩
theorem ok_body_value {P : Program} {w : World} {mg : Str → Option Value} {base : Heap} {g : Gd} {ad : Fn → Addr} {fd : Fn → FuncData} {k : Nat} {S : SemT} (T : Txt g mg ad fd) (hk : 2 ≤ k) (hS : ∀ n, FnOk P w g.K mg base (L2.CX P w) k (ad n) (fd n) (prs n) (spU g (ari n) (S n))) :
    FnOk P w g.K mg base (L2.CX P w) (k + 1) (ad .body_value) (fd .body_value) (prs .body_value) (spU g 5 (runC 7 (m_body_value S))) := by
  have SC := sc_body_value
  refine def_clean (T.fn .body_value) SC rfl rfl fun ex cdv A outer s H E hr C => ?_
  unfold m_body_value
  exact sm_seq (sm_while (N := NN) (passes_of rfl) (pm_cmpT (ou_ne C) (pm_ix C (pm_var (pv 1)) (pm_int) (fun _ _ => rfl)) (pm_str) (by rfl)) (sm_one (sm_if (pm_cmpT (ou_eq C) (pm_ix C (pm_var (pv 1)) (pm_int) (fun _ _ => rfl)) (pm_str) (by rfl)) (sm_seq (sm_stoD C (ps_dput (by have := C.room; omega) (pm_var (pv 2)) (pm_ix C (pm_var (pv 1)) (pm_int) (fun _ _ => rfl)) (pm_def C (hS .value_by) hr (by rfl) (T.mf .value_by rfl) (T.fn .value_by).kp (T.bd .value_by) (pm_acons (pm_var (pv 0)) (pm_acons (pm_ix C (pm_var (pv 1)) (pm_int) (fun _ _ => rfl)) (pm_acons (pm_var (pv 2)) (pm_acons (pm_var (pv 3)) (pm_acons (pm_var (pv 4)) (pm_anil))))))) (by rfl))) (sm_seq (sm_expr (ps_expr (pm_meth C rfl (hS .log_step) hr T.cls T.me_step (T.bd .log_step) (pm_var (pv 4)) (pm_acons (pm_ix C (pm_var (pv 3)) (pm_neg (pm_int)) (fun _ _ => rfl)) (pm_acons (pm_str) (pm_anil)))))) (sm_one (sm_set (ps_set (i := 1) SC.nd rfl (by first | exact Or.inl rfl | exact Or.inr rfl) (pm_ix C (pm_var (pv 1)) (pm_int) (fun _ _ => rfl))))))) (sm_one (sm_if (pm_cmpT (ou_eq C) (pm_ix C (pm_var (pv 1)) (pm_int) (fun _ _ => rfl)) (pm_str) (by rfl)) (sm_seq (sm_set (ps_set (i := 5) SC.nd rfl (by first | exact Or.inl rfl | exact Or.inr rfl) (pm_def C (hS .value_by) hr (by rfl) (T.mf .value_by rfl) (T.fn .value_by).kp (T.bd .value_by) (pm_acons (pm_var (pv 0)) (pm_acons (pm_ix C (pm_var (pv 1)) (pm_int) (fun _ _ => rfl)) (pm_acons (pm_var (pv 2)) (pm_acons (pm_var (pv 3)) (pm_acons (pm_var (pv 4)) (pm_anil))))))))) (sm_seq (sm_set (ps_set (i := 6) SC.nd rfl (by first | exact Or.inl rfl | exact Or.inr rfl) (pm_def C (hS .value_by) hr (by rfl) (T.mf .value_by rfl) (T.fn .value_by).kp (T.bd .value_by) (pm_acons (pm_var (pv 0)) (pm_acons (pm_ix C (pm_var (pv 1)) (pm_int) (fun _ _ => rfl)) (pm_acons (pm_var (pv 2)) (pm_acons (pm_var (pv 3)) (pm_acons (pm_var (pv 4)) (pm_anil))))))))) (sm_seq (sm_expr (ps_expr (pm_meth C rfl (hS .log_step) hr T.cls T.me_step (T.bd .log_step) (pm_var (pv 4)) (pm_acons (pm_ix C (pm_var (pv 3)) (pm_neg (pm_int)) (fun _ _ => rfl)) (pm_acons (pm_str) (pm_anil)))))) (sm_one (sm_if (pm_cmpT (ou_lt) (pm_var (pv 5)) (pm_var (pv 6)) (by rfl)) (sm_one (sm_set (ps_set (i := 1) SC.nd rfl (by first | exact Or.inl rfl | exact Or.inr rfl) (pm_ix C (pm_var (pv 1)) (pm_int) (fun _ _ => rfl))))) (sm_one (sm_set (ps_set (i := 1) SC.nd rfl (by first | exact Or.inl rfl | exact Or.inr rfl) (pm_ix C (pm_var (pv 1)) (pm_int) (fun _ _ => rfl)))))))))) (sm_seq (sm_expr (ps_expr (pm_meth C rfl (hS .log_step) hr T.cls T.me_step (T.bd .log_step) (pm_var (pv 4)) (pm_acons (pm_ix C (pm_var (pv 3)) (pm_neg (pm_int)) (fun _ _ => rfl)) (pm_acons (pm_str) (pm_anil)))))) (sm_one (sm_set (ps_set (i := 1) SC.nd rfl (by first | exact Or.inl rfl | exact Or.inr rfl) (pm_def C (hS .open_body) hr (by rfl) (T.mf .open_body rfl) (T.fn .open_body).kp (T.bd .open_body) (pm_acons (pm_var (pv 1)) (pm_acons (pm_var (pv 2)) (pm_anil))))))))))))) (sm_one (sm_ret (pm_def C (hS .value_by) hr (by rfl) (T.mf .value_by rfl) (T.fn .value_by).kp (T.bd .value_by) (pm_acons (pm_var (pv 0)) (pm_acons (pm_ix C (pm_var (pv 1)) (pm_int) (fun _ _ => rfl)) (pm_acons (pm_var (pv 2)) (pm_acons (pm_var (pv 3)) (pm_acons (pm_var (pv 4)) (pm_anil)))))))))
theorem sc_law_putting : FnScope (slo .law_putting) (prs .law_putting) (defScope (st .law_putting)) := ⟨rfl, rfl, rfl, by decide +kernel, rfl, by decide +kernel, by decide +kernel⟩
theorem ok_law_putting {P : Program} {w : World} {mg : Str → Option Value} {base : Heap} {g : Gd} {ad : Fn → Addr} {fd : Fn → FuncData} {k : Nat} {S : SemT} (T : Txt g mg ad fd) (hk : 2 ≤ k) (hS : ∀ n, FnOk P w g.K mg base (L2.CX P w) k (ad n) (fd n) (prs n) (spU g (ari n) (S n))) :
    FnOk P w g.K mg base (L2.CX P w) (k + 1) (ad .law_putting) (fd .law_putting) (prs .law_putting) (spU g 2 (runC 10 (m_law_putting S))) := by
  have SC := sc_law_putting
  refine def_clean (T.fn .law_putting) SC rfl rfl fun ex cdv A outer s H E hr C => ?_
  unfold m_law_putting
  exact sm_seq (sm_asg (tg := .Name "" ⟨0, 0, 0, 0⟩) (ps_asg (pm_sl C (pm_var (pv 1)) (pm_onone) (pm_osome (pm_int))) (pg_unl rfl (pgs_cons (pg_name (i := 2) SC.nd rfl (by first | exact Or.inl rfl | exact Or.inr rfl)) (pgs_cons (pg_name (i := 3) SC.nd rfl (by first | exact Or.inl rfl | exact Or.inr rfl)) (pgs_cons (pg_name (i := 4) SC.nd rfl (by first | exact Or.inl rfl | exact Or.inr rfl)) (pgs_cons (pg_name (i := 5) SC.nd rfl (by first | exact Or.inl rfl | exact Or.inr rfl)) (pgs_nil))))))) (gu_lst (is := [2, 3, 4, 5]))) (sm_seq (sm_set (ps_set (i := 6) SC.nd rfl (by first | exact Or.inl rfl | exact Or.inr rfl) (pm_tup (pm_acons (pm_str) (pm_acons (pm_tup (pm_acons (pm_str) (pm_acons (pm_tup (pm_acons (pm_str) (pm_acons (pm_var (pv 2)) (pm_anil)))) (pm_acons (pm_tup (pm_acons (pm_str) (pm_anil))) (pm_anil))))) (pm_anil)))))) (sm_seq (sm_set (ps_set (i := 7) SC.nd rfl (by first | exact Or.inl rfl | exact Or.inr rfl) (pm_tup (pm_acons (pm_str) (pm_acons (pm_tup (pm_acons (pm_str) (pm_acons (pm_tup (pm_acons (pm_str) (pm_acons (pm_var (pv 2)) (pm_anil)))) (pm_acons (pm_tup (pm_acons (pm_str) (pm_acons (pm_var (pv 3)) (pm_anil)))) (pm_anil))))) (pm_anil)))))) (sm_seq (sm_set (ps_set (i := 8) SC.nd rfl (by first | exact Or.inl rfl | exact Or.inr rfl) (pm_tup (pm_acons (pm_str) (pm_acons (pm_tup (pm_acons (pm_str) (pm_acons (pm_tup (pm_acons (pm_str) (pm_acons (pm_var (pv 4)) (pm_anil)))) (pm_acons (pm_tup (pm_acons (pm_str) (pm_acons (pm_var (pv 0)) (pm_acons (pm_tup (pm_acons (pm_tup (pm_acons (pm_str) (pm_acons (pm_var (pv 2)) (pm_anil)))) (pm_acons (pm_tup (pm_acons (pm_str) (pm_acons (pm_var (pv 5)) (pm_anil)))) (pm_anil)))) (pm_anil))))) (pm_anil))))) (pm_anil)))))) (sm_seq (sm_set (ps_set (i := 9) SC.nd rfl (by first | exact Or.inl rfl | exact Or.inr rfl) (pm_tup (pm_acons (pm_str) (pm_acons (pm_var (pv 3)) (pm_acons (pm_var (pv 6)) (pm_acons (pm_var (pv 4)) (pm_acons (pm_var (pv 5)) (pm_acons (pm_tup (pm_acons (pm_str) (pm_acons (pm_tup (pm_acons (pm_str) (pm_acons (pm_var (pv 2)) (pm_anil)))) (pm_acons (pm_tup (pm_acons (pm_str) (pm_acons (pm_var (pv 4)) (pm_anil)))) (pm_acons (pm_var (pv 7)) (pm_acons (pm_var (pv 8)) (pm_anil))))))) (pm_anil)))))))))) (sm_one (sm_ret (pm_tup (pm_acons (pm_var (pv 0)) (pm_acons (pm_tup (pm_acons (pm_tup (pm_acons (pm_var (pv 2)) (pm_acons (pm_str) (pm_anil)))) (pm_acons (pm_tup (pm_acons (pm_var (pv 3)) (pm_acons (pm_str) (pm_anil)))) (pm_anil)))) (pm_acons (pm_tup (pm_acons (pm_str) (pm_acons (pm_tup (pm_acons (pm_int) (pm_acons (pm_int) (pm_acons (pm_int) (pm_anil))))) (pm_anil)))) (pm_acons (pm_var (pv 9)) (pm_anil))))))))))))
theorem sc_law_program : FnScope (slo .law_program) (prs .law_program) (defScope (st .law_program)) := ⟨rfl, rfl, rfl, by decide +kernel, rfl, by decide +kernel, by decide +kernel⟩
theorem ok_law_program {P : Program} {w : World} {mg : Str → Option Value} {base : Heap} {g : Gd} {ad : Fn → Addr} {fd : Fn → FuncData} {k : Nat} {S : SemT} (T : Txt g mg ad fd) (hk : 2 ≤ k) (hS : ∀ n, FnOk P w g.K mg base (L2.CX P w) k (ad n) (fd n) (prs n) (spU g (ari n) (S n))) :
    FnOk P w g.K mg base (L2.CX P w) (k + 1) (ad .law_program) (fd .law_program) (prs .law_program) (spU g 1 (runC 10 (m_law_program S))) := by
  have SC := sc_law_program
  refine def_clean (T.fn .law_program) SC rfl rfl fun ex cdv A outer s H E hr C => ?_
  unfold m_law_program
  exact sm_seq (sm_set (ps_set (i := 1) SC.nd rfl (by first | exact Or.inl rfl | exact Or.inr rfl) (pm_op (ou_mod) (pm_def C (hS .law_cell_at) hr (by rfl) (T.mf .law_cell_at rfl) (T.fn .law_cell_at).kp (T.bd .law_cell_at) (pm_acons (pm_var (pv 0)) (pm_acons (pm_int) (pm_anil)))) (pm_op (ou_pow) (pm_int) (pm_int))))) (sm_seq (sm_set (ps_set (i := 2) SC.nd rfl (by first | exact Or.inl rfl | exact Or.inr rfl) (pm_def C (hS .law_names) hr (by rfl) (T.mf .law_names rfl) (T.fn .law_names).kp (T.bd .law_names) (pm_acons (pm_def C (hS .law_cell_at) hr (by rfl) (T.mf .law_cell_at rfl) (T.fn .law_cell_at).kp (T.bd .law_cell_at) (pm_acons (pm_var (pv 0)) (pm_acons (pm_int) (pm_anil)))) (pm_acons (pm_int) (pm_anil)))))) (sm_seq (sm_set (ps_set (i := 3) SC.nd rfl (by first | exact Or.inl rfl | exact Or.inr rfl) (pm_new (pm_acons (pm_def C (hS .law_putting) hr (by rfl) (T.mf .law_putting rfl) (T.fn .law_putting).kp (T.bd .law_putting) (pm_acons (pm_ix C (pm_var (pv 2)) (pm_int) (fun _ _ => rfl)) (pm_acons (pm_sl C (pm_var (pv 2)) (pm_osome (pm_int)) (pm_onone)) (pm_anil)))) (pm_anil))))) (sm_seq (sm_setLc (i := 4) C rfl rfl (takes_of rfl rfl rfl rfl) rfl rfl (sw_true rfl rfl rfl rfl) (im_range (by rfl) T.b_range (pm_op (ou_add C) (pm_int) (pm_op (ou_mod) (pm_var (pv 1)) (pm_int)))) (own := [(("_law_k" : Str), 8)]) (blkOk_by (by rfl)) (fun s H Ca cl fp xe => by exact pg_name (i := 8) SC.nd rfl (by first | exact Or.inl rfl | exact Or.inr rfl)) (gg := gName 8) (ix := [8]) (fun ex => gu_name) (by decide) (BTs.nil) (fun ex s H Ca cl fp xe C => pm_def C (hS .law_head) hr (by rfl) (T.mf .law_head rfl) (T.fn .law_head).kp (T.bd .law_head) (pm_acons (pm_ix C (pm_var (pv 2)) (pm_op (ou_add C) (pm_int) (pm_var (pv 8))) (fun _ _ => rfl)) (pm_acons (pm_var (pv 2)) (pm_acons (pm_def C (hS .law_cell_at) hr (by rfl) (T.mf .law_cell_at rfl) (T.fn .law_cell_at).kp (T.bd .law_cell_at) (pm_acons (pm_var (pv 0)) (pm_acons (pm_op (ou_add C) (pm_int) (pm_var (pv 8))) (pm_anil)))) (pm_anil)))))) (sm_seq (sm_set (ps_set (i := 5) SC.nd rfl (by first | exact Or.inl rfl | exact Or.inr rfl) (pm_new (pm_acons (pm_sl C (pm_var (pv 0)) (pm_osome (pm_int)) (pm_osome (pm_int))) (pm_acons (pm_int) (pm_acons (pm_var (pv 2)) (pm_acons (pm_op (ou_add C) (pm_lc C rfl rfl (takes_of rfl rfl rfl rfl) (im_seq C (pm_var (pv 3))) (own := [(("_law_one_here" : Str), 9)]) (blkOk_by (by rfl)) (fun s H Ca cl fp xe => by exact pg_name (i := 9) SC.nd rfl (by first | exact Or.inl rfl | exact Or.inr rfl)) (gg := gName 9) (ix := [9]) (fun ex => gu_name) (by decide) (BTs.nil) (fun ex s H Ca cl fp xe C => pm_sl C (pm_var (pv 9)) (pm_onone) (pm_osome (pm_int)))) (pm_var (pv 4))) (pm_anil)))))))) (sm_seq (sm_for (N := NN) (passes_of rfl) C (im_seq C (pm_var (pv 4))) (pg_name (i := 6) SC.nd rfl (by first | exact Or.inl rfl | exact Or.inr rfl)) (gu_name) (sm_one (sm_expr (ps_expr (pm_append C (pm_var (pv 3)) (pm_acons (pm_op (ou_add C) (pm_var (pv 6)) (pm_tup (pm_acons (pm_def C (hS .law_body) hr (by rfl) (T.mf .law_body rfl) (T.fn .law_body).kp (T.bd .law_body) (pm_acons (pm_var (pv 5)) (pm_acons (pm_callTy (cu_list C) (by rfl) T.b_list (by rfl) (pm_acons (pm_ix C (pm_var (pv 6)) (pm_int) (fun _ _ => rfl)) (pm_anil))) (pm_acons (pm_int) (pm_acons (pm_ix C (pm_ix C (pm_var (pv 6)) (pm_int) (fun _ _ => rfl)) (pm_int) (fun _ _ => rfl)) (pm_anil)))))) (pm_anil)))) (pm_anil))))))) (sm_seq (sm_set (ps_set (i := 7) SC.nd rfl (by first | exact Or.inl rfl | exact Or.inr rfl) (pm_op (ou_mod) (pm_op (ou_div) (pm_var (pv 1)) (pm_int)) (pm_callB (cu_len C) (by rfl) T.b_len (by rfl) (pm_acons (pm_var (pv 3)) (pm_anil)))))) (sm_one (sm_ret (pm_callTy (cu_tuple C) (by rfl) T.b_tuple (by rfl) (pm_acons (pm_op (ou_add C) (pm_sl C (pm_var (pv 3)) (pm_osome (pm_var (pv 7))) (pm_onone)) (pm_sl C (pm_var (pv 3)) (pm_onone) (pm_osome (pm_var (pv 7))))) (pm_anil)))))))))))
theorem sc_law_whole : FnScope (slo .law_whole) (prs .law_whole) (defScope (st .law_whole)) := ⟨rfl, rfl, rfl, by decide +kernel, rfl, by decide +kernel, by decide +kernel⟩
theorem ok_law_whole {P : Program} {w : World} {mg : Str → Option Value} {base : Heap} {g : Gd} {ad : Fn → Addr} {fd : Fn → FuncData} {k : Nat} {S : SemT} (T : Txt g mg ad fd) (hk : 2 ≤ k) (hS : ∀ n, FnOk P w g.K mg base (L2.CX P w) k (ad n) (fd n) (prs n) (spU g (ari n) (S n))) :
    FnOk P w g.K mg base (L2.CX P w) (k + 1) (ad .law_whole) (fd .law_whole) (prs .law_whole) (spU g 1 (runC 1 (m_law_whole S))) := by
  have SC := sc_law_whole
  refine def_clean (T.fn .law_whole) SC rfl rfl fun ex cdv A outer s H E hr C => ?_
  unfold m_law_whole
  exact sm_one (sm_ret (pm_andV (pm_isi C .int (by rfl) T.b_isinstance (by rfl) (pm_var (pv 0)) (by rfl) T.b_int (by rfl)) (pm_oneV (pm_notV (pm_isi C .bool (by rfl) T.b_isinstance (by rfl) (pm_var (pv 0)) (by rfl) T.b_bool (by rfl))))))
theorem sc_law_size : FnScope (slo .law_size) (prs .law_size) (defScope (st .law_size)) := ⟨rfl, rfl, rfl, by decide +kernel, rfl, by decide +kernel, by decide +kernel⟩
theorem ok_law_size {P : Program} {w : World} {mg : Str → Option Value} {base : Heap} {g : Gd} {ad : Fn → Addr} {fd : Fn → FuncData} {k : Nat} {S : SemT} (T : Txt g mg ad fd) (hk : 2 ≤ k) (hS : ∀ n, FnOk P w g.K mg base (L2.CX P w) k (ad n) (fd n) (prs n) (spU g (ari n) (S n))) :
    FnOk P w g.K mg base (L2.CX P w) (k + 1) (ad .law_size) (fd .law_size) (prs .law_size) (spU g 2 (runC 5 (m_law_size S))) := by
  have SC := sc_law_size
  refine def_clean (T.fn .law_size) SC rfl rfl fun ex cdv A outer s H E hr C => ?_
  unfold m_law_size
  exact sm_seq (sm_if (pm_cmpT (ou_eq C) (pm_var (pv 0)) (pm_str) (by rfl)) (sm_one (sm_ret (pm_op (ou_sub) (pm_callTy (cu_int) (by rfl) T.b_int (by rfl) (pm_acons (pm_def C (hS .law_whole) hr (by rfl) (T.mf .law_whole rfl) (T.fn .law_whole).kp (T.bd .law_whole) (pm_acons (pm_var (pv 1)) (pm_anil))) (pm_anil))) (pm_int)))) (sm_nil)) (sm_seq (sm_if (pm_cmpT (ou_eq C) (pm_var (pv 0)) (pm_str) (by rfl)) (sm_seq (sm_if ((pw_orM (pm_not (pm_val (pm_isi C .tuple (by rfl) T.b_isinstance (by rfl) (pm_var (pv 1)) (by rfl) T.b_tuple (by rfl)))) (pw_or1M (pm_cmpT (ou_gt) (pm_callB (cu_len C) (by rfl) T.b_len (by rfl) (pm_acons (pm_lc C rfl rfl (takes_of rfl rfl rfl rfl) (im_seq C (pm_var (pv 1))) (own := [(("_law_part" : Str), 4)]) (blkOk_by (by rfl)) (fun s H Ca cl fp xe => by exact pg_name (i := 4) SC.nd rfl (by first | exact Or.inl rfl | exact Or.inr rfl)) (gg := gName 4) (ix := [4]) (fun ex => gu_name) (by decide) (BTs.one (fun ex s H Ca cl fp xe C => pm_not (pm_val (pm_def C (hS .law_whole) hr (by rfl) (T.mf .law_whole rfl) (T.fn .law_whole).kp (T.bd .law_whole) (pm_acons (pm_var (pv 4)) (pm_anil)))))) (fun ex s H Ca cl fp xe C => pm_var (pv 4))) (pm_anil))) (pm_int) (by rfl)))).pt) (sm_one (sm_ret (pm_neg (pm_int)))) (sm_nil)) (sm_one (sm_ret (pm_callB (cu_len C) (by rfl) T.b_len (by rfl) (pm_acons (pm_var (pv 1)) (pm_anil)))))) (sm_nil)) (sm_seq (sm_set (ps_set (i := 2) SC.nd rfl (by first | exact Or.inl rfl | exact Or.inr rfl) (pm_int))) (sm_seq (sm_set (ps_set (i := 3) SC.nd rfl (by first | exact Or.inl rfl | exact Or.inr rfl) (pm_new (pm_acons (pm_var (pv 1)) (pm_anil))))) (sm_seq (sm_while (N := NN) (passes_of rfl) (pm_cmpT (ou_gt) (pm_callB (cu_len C) (by rfl) T.b_len (by rfl) (pm_acons (pm_var (pv 3)) (pm_anil))) (pm_int) (by rfl)) (sm_seq (sm_set (ps_set (i := 4) SC.nd rfl (by first | exact Or.inl rfl | exact Or.inr rfl) (pm_pop C (pm_var (pv 3))))) (sm_one (sm_if (pm_cmpT (ou_notN) (pm_var (pv 4)) (pm_non) (by rfl)) (sm_seq (sm_if ((pw_orM (pm_not (pm_val (pm_isi C .tuple (by rfl) T.b_isinstance (by rfl) (pm_var (pv 4)) (by rfl) T.b_tuple (by rfl)))) (pw_orM (pm_cmpT (ou_ne C) (pm_callB (cu_len C) (by rfl) T.b_len (by rfl) (pm_acons (pm_var (pv 4)) (pm_anil))) (pm_int) (by rfl)) (pw_or1M (pm_not (pm_val (pm_def C (hS .law_whole) hr (by rfl) (T.mf .law_whole rfl) (T.fn .law_whole).kp (T.bd .law_whole) (pm_acons (pm_ix C (pm_var (pv 4)) (pm_int) (fun _ _ => rfl)) (pm_anil)))))))).pt) (sm_one (sm_ret (pm_neg (pm_int)))) (sm_nil)) (sm_seq (sm_set (ps_set (i := 2) SC.nd rfl (by first | exact Or.inl rfl | exact Or.inr rfl) (pm_op (ou_add C) (pm_var (pv 2)) (pm_int)))) (sm_one (sm_set (ps_set (i := 3) SC.nd rfl (by first | exact Or.inl rfl | exact Or.inr rfl) (pm_op (ou_addN) (pm_var (pv 3)) (pm_lst (pm_acons (pm_ix C (pm_var (pv 4)) (pm_int) (fun _ _ => rfl)) (pm_acons (pm_ix C (pm_var (pv 4)) (pm_int) (fun _ _ => rfl)) (pm_anil)))))))))) (sm_nil))))) (sm_one (sm_ret (pm_var (pv 2))))))))
theorem sc_law_child : FnScope (slo .law_child) (prs .law_child) (defScope (st .law_child)) := ⟨rfl, rfl, rfl, by decide +kernel, rfl, by decide +kernel, by decide +kernel⟩
theorem ok_law_child {P : Program} {w : World} {mg : Str → Option Value} {base : Heap} {g : Gd} {ad : Fn → Addr} {fd : Fn → FuncData} {k : Nat} {S : SemT} (T : Txt g mg ad fd) (hk : 2 ≤ k) (hS : ∀ n, FnOk P w g.K mg base (L2.CX P w) k (ad n) (fd n) (prs n) (spU g (ari n) (S n))) :
    FnOk P w g.K mg base (L2.CX P w) (k + 1) (ad .law_child) (fd .law_child) (prs .law_child) (spU g 3 (runC 4 (m_law_child S))) := by
  have SC := sc_law_child
  refine def_clean (T.fn .law_child) SC rfl rfl fun ex cdv A outer s H E hr C => ?_
  unfold m_law_child
  exact sm_seq (sm_if (pm_val (pm_ix C (pm_var (pv 0)) (pm_int) (fun _ _ => rfl))) (sm_one (sm_ret (pm_non))) (sm_nil)) (sm_seq (sm_expr (ps_expr (pm_append C (pm_ix C (pm_var (pv 0)) (pm_int) (fun _ _ => rfl)) (pm_acons (pm_tup (pm_acons (pm_var (pv 1)) (pm_acons (pm_var (pv 2)) (pm_anil)))) (pm_anil))))) (sm_seq (sm_if (pm_cmpT (ou_lt) (pm_ix C (pm_var (pv 0)) (pm_int) (fun _ _ => rfl)) (pm_callB (cu_len C) (by rfl) T.b_len (by rfl) (pm_acons (pm_ix C (pm_var (pv 0)) (pm_int) (fun _ _ => rfl)) (pm_anil))) (by rfl)) (sm_seq (sm_set (ps_set (i := 3) SC.nd rfl (by first | exact Or.inl rfl | exact Or.inr rfl) (pm_ix C (pm_ix C (pm_var (pv 0)) (pm_int) (fun _ _ => rfl)) (pm_ix C (pm_var (pv 0)) (pm_int) (fun _ _ => rfl)) (fun _ _ => rfl)))) (sm_seq (sm_stoL (ps_asg (pm_op (ou_add C) (pm_ix C (pm_var (pv 0)) (pm_int) (fun _ _ => rfl)) (pm_int)) (pg_sub (pm_var (pv 0)) (pm_int) set_list))) (sm_one (sm_if ((pw_andM (pm_cmpT (ou_eq C) (pm_ix C (pm_var (pv 3)) (pm_int) (fun _ _ => rfl)) (pm_var (pv 1)) (by rfl)) (pw_andM (pm_cmpT (ou_eq C) (pm_ix C (pm_var (pv 3)) (pm_int) (fun _ _ => rfl)) (pm_var (pv 2)) (by rfl)) (pw_and1M (pm_val (pm_ix C (pm_var (pv 3)) (pm_int) (fun _ _ => rfl)))))).pt) (sm_one (sm_ret (pm_ix C (pm_var (pv 3)) (pm_int) (fun _ _ => rfl)))) (sm_nil))))) (sm_nil)) (sm_seq (sm_stoL (ps_asg (pm_bl) (pg_sub (pm_var (pv 0)) (pm_int) set_list))) (sm_one (sm_ret (pm_non))))))
theorem sc_law_opened : FnScope (slo .law_opened) (prs .law_opened) (defScope (st .law_opened)) := ⟨rfl, rfl, rfl, by decide +kernel, rfl, by decide +kernel, by decide +kernel⟩
theorem ok_law_opened {P : Program} {w : World} {mg : Str → Option Value} {base : Heap} {g : Gd} {ad : Fn → Addr} {fd : Fn → FuncData} {k : Nat} {S : SemT} (T : Txt g mg ad fd) (hk : 2 ≤ k) (hS : ∀ n, FnOk P w g.K mg base (L2.CX P w) k (ad n) (fd n) (prs n) (spU g (ari n) (S n))) :
    FnOk P w g.K mg base (L2.CX P w) (k + 1) (ad .law_opened) (fd .law_opened) (prs .law_opened) (spU g 2 (runC 4 (m_law_opened S))) := by
  have SC := sc_law_opened
  refine def_clean (T.fn .law_opened) SC rfl rfl fun ex cdv A outer s H E hr C => ?_
  unfold m_law_opened
  exact sm_seq (sm_set (ps_set (i := 2) SC.nd rfl (by first | exact Or.inl rfl | exact Or.inr rfl) (pm_get C (pm_var (pv 1)) (pm_ix C (pm_var (pv 0)) (pm_int) (fun _ _ => rfl)) (fun _ _ => rfl)))) (sm_seq (sm_if ((pw_andM (pm_cmpT (ou_eq C) (pm_ix C (pm_var (pv 0)) (pm_int) (fun _ _ => rfl)) (pm_str) (by rfl)) (pw_and1M (pm_cmpT (ou_ne C) (pm_var (pv 2)) (pm_tup (pm_anil)) (by rfl)))).pt) (sm_one (sm_set (ps_set (i := 2) SC.nd rfl (by first | exact Or.inl rfl | exact Or.inr rfl) (pm_tup (pm_acons (pm_ix C (pm_var (pv 2)) (pm_int) (fun _ _ => rfl)) (pm_acons (pm_sl C (pm_var (pv 2)) (pm_osome (pm_int)) (pm_onone)) (pm_anil))))))) (sm_one (sm_if ((pw_orM (pm_cmpT (ou_eq C) (pm_ix C (pm_var (pv 0)) (pm_int) (fun _ _ => rfl)) (pm_str) (by rfl)) (pw_or1M (pm_cmpT (ou_isN) (pm_var (pv 2)) (pm_non) (by rfl)))).pt) (sm_one (sm_ret (pm_ix C (pm_var (pv 0)) (pm_int) (fun _ _ => rfl)))) (sm_nil)))) (sm_seq (sm_for (N := NN) (passes_of rfl) C (im_range (by rfl) T.b_range (pm_callB (cu_len C) (by rfl) T.b_len (by rfl) (pm_acons (pm_var (pv 2)) (pm_anil)))) (pg_name (i := 3) SC.nd rfl (by first | exact Or.inl rfl | exact Or.inr rfl)) (gu_name) (sm_one (sm_stoD C (ps_dput (by have := C.room; omega) (pm_var (pv 1)) (pm_ix C (pm_var (pv 0)) (pm_op (ou_add C) (pm_int) (pm_var (pv 3))) (fun _ _ => rfl)) (pm_ix C (pm_var (pv 2)) (pm_var (pv 3)) (fun _ _ => rfl)) (by rfl))))) (sm_one (sm_ret (pm_ix C (pm_var (pv 0)) (pm_neg (pm_int)) (fun _ _ => rfl))))))
theorem sc_law_in_order : FnScope (slo .law_in_order) (prs .law_in_order) (defScope (st .law_in_order)) := ⟨rfl, rfl, rfl, by decide +kernel, rfl, by decide +kernel, by decide +kernel⟩
theorem ok_law_in_order {P : Program} {w : World} {mg : Str → Option Value} {base : Heap} {g : Gd} {ad : Fn → Addr} {fd : Fn → FuncData} {k : Nat} {S : SemT} (T : Txt g mg ad fd) (hk : 2 ≤ k) (hS : ∀ n, FnOk P w g.K mg base (L2.CX P w) k (ad n) (fd n) (prs n) (spU g (ari n) (S n))) :
    FnOk P w g.K mg base (L2.CX P w) (k + 1) (ad .law_in_order) (fd .law_in_order) (prs .law_in_order) (spU g 4 (runC 6 (m_law_in_order S))) := by
  have SC := sc_law_in_order
  refine def_clean (T.fn .law_in_order) SC rfl rfl fun ex cdv A outer s H E hr C => ?_
  unfold m_law_in_order
  exact sm_seq (sm_expr (ps_expr (pm_append C (pm_var (pv 3)) (pm_acons (pm_tup (pm_acons (pm_var (pv 2)) (pm_acons (pm_str) (pm_anil)))) (pm_anil))))) (sm_seq (sm_set (ps_set (i := 4) SC.nd rfl (by first | exact Or.inl rfl | exact Or.inr rfl) (pm_int))) (sm_one (sm_for (N := NN) (passes_of rfl) C (im_seq C (pm_ix C (pm_var (pv 0)) (pm_var (pv 2)) (fun _ _ => rfl))) (pg_name (i := 5) SC.nd rfl (by first | exact Or.inl rfl | exact Or.inr rfl)) (gu_name) (sm_one (sm_if (pm_val (pm_isi C .tuple (by rfl) T.b_isinstance (by rfl) (pm_var (pv 5)) (by rfl) T.b_tuple (by rfl))) (sm_seq (sm_expr (ps_expr (pm_def C (hS .law_in_order) hr (by rfl) (T.mf .law_in_order rfl) (T.fn .law_in_order).kp (T.bd .law_in_order) (pm_acons (pm_var (pv 0)) (pm_acons (pm_var (pv 1)) (pm_acons (pm_ix C (pm_ix C (pm_var (pv 1)) (pm_var (pv 2)) (fun _ _ => rfl)) (pm_var (pv 4)) (fun _ _ => rfl)) (pm_acons (pm_var (pv 3)) (pm_anil)))))))) (sm_one (sm_set (ps_set (i := 4) SC.nd rfl (by first | exact Or.inl rfl | exact Or.inr rfl) (pm_op (ou_add C) (pm_var (pv 4)) (pm_int)))))) (sm_one (sm_expr (ps_expr (pm_append C (pm_var (pv 3)) (pm_acons (pm_tup (pm_acons (pm_var (pv 2)) (pm_acons (pm_var (pv 5)) (pm_anil)))) (pm_anil)))))))))))
theorem sc_law_call_holds : FnScope (slo .law_call_holds) (prs .law_call_holds) (defScope (st .law_call_holds)) := ⟨rfl, rfl, rfl, by decide +kernel, rfl, by decide +kernel, by decide +kernel⟩
theorem ok_law_call_holds {P : Program} {w : World} {mg : Str → Option Value} {base : Heap} {g : Gd} {ad : Fn → Addr} {fd : Fn → FuncData} {k : Nat} {S : SemT} (T : Txt g mg ad fd) (hk : 2 ≤ k) (hS : ∀ n, FnOk P w g.K mg base (L2.CX P w) k (ad n) (fd n) (prs n) (spU g (ari n) (S n))) :
    FnOk P w g.K mg base (L2.CX P w) (k + 1) (ad .law_call_holds) (fd .law_call_holds) (prs .law_call_holds) (spU g 6 (runC 13 (m_law_call_holds S))) := by
  have SC := sc_law_call_holds
  refine def_clean (T.fn .law_call_holds) SC rfl rfl fun ex cdv A outer s H E hr C => ?_
  unfold m_law_call_holds
  exact sm_seq (sm_set (ps_set (i := 6) SC.nd rfl (by first | exact Or.inl rfl | exact Or.inr rfl) (pm_def C (hS .law_one) hr (by rfl) (T.mf .law_one rfl) (T.fn .law_one).kp (T.bd .law_one) (pm_acons (pm_var (pv 0)) (pm_acons (pm_ix C (pm_var (pv 1)) (pm_int) (fun _ _ => rfl)) (pm_anil)))))) (sm_seq (sm_set (ps_set (i := 7) SC.nd rfl (by first | exact Or.inl rfl | exact Or.inr rfl) (pm_new (pm_acons (pm_new (pm_anil)) (pm_acons (pm_var (pv 2)) (pm_acons (pm_int) (pm_acons (pm_bl) (pm_anil)))))))) (sm_seq (sm_set (ps_set (i := 8) SC.nd rfl (by first | exact Or.inl rfl | exact Or.inr rfl) (pm_dict))) (sm_seq (sm_for (N := NN) (passes_of rfl) C (im_zip C (by rfl) T.b_zip (pm_ix C (pm_var (pv 6)) (pm_int) (fun _ _ => rfl)) (pm_ix C (pm_var (pv 1)) (pm_int) (fun _ _ => rfl))) (pg_tup rfl (pgs_cons (pg_name (i := 9) SC.nd rfl (by first | exact Or.inl rfl | exact Or.inr rfl)) (pgs_cons (pg_name (i := 10) SC.nd rfl (by first | exact Or.inl rfl | exact Or.inr rfl)) (pgs_nil)))) (gu_tup (is := [9, 10])) (sm_one (sm_stoD C (ps_dput (by have := C.room; omega) (pm_var (pv 8)) (pm_ix C (pm_var (pv 9)) (pm_int) (fun _ _ => rfl)) (pm_var (pv 10)) (by rfl))))) (sm_seq (sm_set (ps_set (i := 11) SC.nd rfl (by first | exact Or.inl rfl | exact Or.inr rfl) (pm_def C (hS .law_given) hr (by rfl) (T.mf .law_given rfl) (T.fn .law_given).kp (T.bd .law_given) (pm_acons (pm_var (pv 7)) (pm_acons (pm_ix C (pm_var (pv 6)) (pm_int) (fun _ _ => rfl)) (pm_acons (pm_var (pv 8)) (pm_anil))))))) (sm_seq (sm_if (pm_val (pm_ix C (pm_var (pv 1)) (pm_int) (fun _ _ => rfl))) (sm_one (sm_ret (pm_andV (pm_notV (pm_ix C (pm_var (pv 7)) (pm_int) (fun _ _ => rfl))) (pm_andV (pm_cmp (ou_eq C) (pm_ix C (pm_var (pv 7)) (pm_int) (fun _ _ => rfl)) (pm_var (pv 3)) (by rfl)) (pm_oneV (pm_cmp (ou_eq C) (pm_var (pv 11)) (pm_ix C (pm_var (pv 1)) (pm_int) (fun _ _ => rfl)) (by rfl))))))) (sm_nil)) (sm_seq (sm_if ((pw_andM (pm_cmpT (ou_gt) (pm_callB (cu_len C) (by rfl) T.b_len (by rfl) (pm_acons (pm_var (pv 2)) (pm_anil))) (pm_int) (by rfl)) (pw_and1M (pm_not (pm_val (pm_ix C (pm_ix C (pm_var (pv 2)) (pm_neg (pm_int)) (fun _ _ => rfl)) (pm_int) (fun _ _ => rfl)))))).pt) (sm_one (sm_ret (pm_andV (pm_ix C (pm_var (pv 7)) (pm_int) (fun _ _ => rfl)) (pm_oneV (pm_cmp (ou_eq C) (pm_ix C (pm_var (pv 7)) (pm_int) (fun _ _ => rfl)) (pm_var (pv 3)) (by rfl)))))) (sm_nil)) (sm_seq (sm_if ((pw_orM (pm_cmpT (ou_le) (pm_callB (cu_len C) (by rfl) T.b_len (by rfl) (pm_acons (pm_ix C (pm_var (pv 7)) (pm_int) (fun _ _ => rfl)) (pm_anil))) (pm_callB (cu_len C) (by rfl) T.b_len (by rfl) (pm_acons (pm_var (pv 3)) (pm_anil))) (by rfl)) (pw_or1M (pm_cmpT (ou_ne C) (pm_sl C (pm_ix C (pm_var (pv 7)) (pm_int) (fun _ _ => rfl)) (pm_onone) (pm_osome (pm_callB (cu_len C) (by rfl) T.b_len (by rfl) (pm_acons (pm_var (pv 3)) (pm_anil))))) (pm_var (pv 3)) (by rfl)))).pt) (sm_one (sm_ret (pm_bl))) (sm_nil)) (sm_seq (sm_set (ps_set (i := 12) SC.nd rfl (by first | exact Or.inl rfl | exact Or.inr rfl) (pm_ix C (pm_ix C (pm_var (pv 7)) (pm_int) (fun _ _ => rfl)) (pm_callB (cu_len C) (by rfl) T.b_len (by rfl) (pm_acons (pm_var (pv 3)) (pm_anil))) (fun _ _ => rfl)))) (sm_one (sm_ret (pm_orV (pm_var (pv 4)) (pm_orV (pm_cmp (ou_eq C) (pm_var (pv 12)) (pm_str) (by rfl)) (pm_oneV (pm_andV (pm_isi C .tuple (by rfl) T.b_isinstance (by rfl) (pm_var (pv 12)) (by rfl) T.b_tuple (by rfl)) (pm_oneV (pm_cmp (ou_eq C) (pm_var (pv 5)) (pm_int) (by rfl)))))))))))))))))
end Wk
set_option maxRecDepth 100000
set_option maxHeartbeats 4000000
/-! Tc3: the derivations. Printed by gen.py. -/
namespace Wk
open PySem PySem.Spec PyProof.Rows L2
theorem sc_is_tree : FnScope (slo .is_tree) (prs .is_tree) (defScope (st .is_tree)) := ⟨rfl, rfl, rfl, by decide +kernel, rfl, by decide +kernel, by decide +kernel⟩
theorem ok_is_tree {P : Program} {w : World} {mg : Str → Option Value} {base : Heap} {g : Gd} {ad : Fn → Addr} {fd : Fn → FuncData} {k : Nat} {S : SemT} (T : Txt g mg ad fd) (hk : 2 ≤ k) (hS : ∀ n, FnOk P w g.K mg base (L2.CX P w) k (ad n) (fd n) (prs n) (spU g (ari n) (S n))) :
    FnOk P w g.K mg base (L2.CX P w) (k + 1) (ad .is_tree) (fd .is_tree) (prs .is_tree) (spU g 1 (runC 3 (m_is_tree S))) := by
  have SC := sc_is_tree
  refine def_clean (T.fn .is_tree) SC rfl rfl fun ex cdv A outer s H E hr C => ?_
  unfold m_is_tree
  exact sm_seq (sm_set (ps_set (i := 1) SC.nd rfl (by first | exact Or.inl rfl | exact Or.inr rfl) (pm_new (pm_acons (pm_var (pv 0)) (pm_anil))))) (sm_seq (sm_while (N := NN) (passes_of rfl) (pm_cmpT (ou_gt) (pm_callB (cu_len C) (by rfl) T.b_len (by rfl) (pm_acons (pm_var (pv 1)) (pm_anil))) (pm_int) (by rfl)) (sm_seq (sm_set (ps_set (i := 2) SC.nd rfl (by first | exact Or.inl rfl | exact Or.inr rfl) (pm_pop C (pm_var (pv 1))))) (sm_seq (sm_if (pm_cmpT (ou_isN) (pm_var (pv 2)) (pm_non) (by rfl)) (sm_one (sm_cont)) (sm_nil)) (sm_seq (sm_if ((pw_orM (pm_not (pm_val (pm_isi C .tuple (by rfl) T.b_isinstance (by rfl) (pm_var (pv 2)) (by rfl) T.b_tuple (by rfl)))) (pw_orM (pm_cmpT (ou_ne C) (pm_callB (cu_len C) (by rfl) T.b_len (by rfl) (pm_acons (pm_var (pv 2)) (pm_anil))) (pm_int) (by rfl)) (pw_or1M (pm_not (pm_val (pm_def C (hS .is_whole) hr (by rfl) (T.mf .is_whole rfl) (T.fn .is_whole).kp (T.bd .is_whole) (pm_acons (pm_ix C (pm_var (pv 2)) (pm_int) (fun _ _ => rfl)) (pm_anil)))))))).pt) (sm_one (sm_ret (pm_bl))) (sm_nil)) (sm_seq (sm_expr (ps_expr (pm_append C (pm_var (pv 1)) (pm_acons (pm_ix C (pm_var (pv 2)) (pm_int) (fun _ _ => rfl)) (pm_anil))))) (sm_one (sm_expr (ps_expr (pm_append C (pm_var (pv 1)) (pm_acons (pm_ix C (pm_var (pv 2)) (pm_int) (fun _ _ => rfl)) (pm_anil))))))))))) (sm_one (sm_ret (pm_bl))))
theorem sc_function_of : FnScope (slo .function_of) (prs .function_of) (defScope (st .function_of)) := ⟨rfl, rfl, rfl, by decide +kernel, rfl, by decide +kernel, by decide +kernel⟩
theorem ok_function_of {P : Program} {w : World} {mg : Str → Option Value} {base : Heap} {g : Gd} {ad : Fn → Addr} {fd : Fn → FuncData} {k : Nat} {S : SemT} (T : Txt g mg ad fd) (hk : 2 ≤ k) (hS : ∀ n, FnOk P w g.K mg base (L2.CX P w) k (ad n) (fd n) (prs n) (spU g (ari n) (S n))) :
    FnOk P w g.K mg base (L2.CX P w) (k + 1) (ad .function_of) (fd .function_of) (prs .function_of) (spU g 2 (runC 3 (m_function_of S))) := by
  have SC := sc_function_of
  refine def_clean (T.fn .function_of) SC rfl rfl fun ex cdv A outer s H E hr C => ?_
  unfold m_function_of
  exact sm_seq (sm_for (N := NN) (passes_of rfl) C (im_seq C (pm_var (pv 0))) (pg_name (i := 2) SC.nd rfl (by first | exact Or.inl rfl | exact Or.inr rfl)) (gu_name) (sm_one (sm_if (pm_cmpT (ou_eq C) (pm_ix C (pm_var (pv 2)) (pm_int) (fun _ _ => rfl)) (pm_var (pv 1)) (by rfl)) (sm_one (sm_ret (pm_var (pv 2)))) (sm_nil)))) (sm_one (sm_ret (pm_non)))
theorem sc_open_body : FnScope (slo .open_body) (prs .open_body) (defScope (st .open_body)) := ⟨rfl, rfl, rfl, by decide +kernel, rfl, by decide +kernel, by decide +kernel⟩
theorem ok_open_body {P : Program} {w : World} {mg : Str → Option Value} {base : Heap} {g : Gd} {ad : Fn → Addr} {fd : Fn → FuncData} {k : Nat} {S : SemT} (T : Txt g mg ad fd) (hk : 2 ≤ k) (hS : ∀ n, FnOk P w g.K mg base (L2.CX P w) k (ad n) (fd n) (prs n) (spU g (ari n) (S n))) :
    FnOk P w g.K mg base (L2.CX P w) (k + 1) (ad .open_body) (fd .open_body) (prs .open_body) (spU g 2 (runC 3 (m_open_body S))) := by
  have SC := sc_open_body
  refine def_clean (T.fn .open_body) SC rfl rfl fun ex cdv A outer s H E hr C => ?_
  unfold m_open_body
  exact sm_seq (sm_set (ps_set (i := 2) SC.nd rfl (by first | exact Or.inl rfl | exact Or.inr rfl) (pm_get C (pm_var (pv 1)) (pm_ix C (pm_var (pv 0)) (pm_int) (fun _ _ => rfl)) (fun _ _ => rfl)))) (sm_seq (sm_if (pm_cmpT (ou_eq C) (pm_ix C (pm_var (pv 0)) (pm_int) (fun _ _ => rfl)) (pm_str) (by rfl)) (sm_seq (sm_if (pm_cmpT (ou_eq C) (pm_callB (cu_len C) (by rfl) T.b_len (by rfl) (pm_acons (pm_var (pv 2)) (pm_anil))) (pm_int) (by rfl)) (sm_one (sm_ret (pm_ix C (pm_var (pv 0)) (pm_int) (fun _ _ => rfl)))) (sm_nil)) (sm_seq (sm_stoD C (ps_dput (by have := C.room; omega) (pm_var (pv 1)) (pm_ix C (pm_var (pv 0)) (pm_int) (fun _ _ => rfl)) (pm_ix C (pm_var (pv 2)) (pm_int) (fun _ _ => rfl)) (by rfl))) (sm_seq (sm_stoD C (ps_dput (by have := C.room; omega) (pm_var (pv 1)) (pm_ix C (pm_var (pv 0)) (pm_int) (fun _ _ => rfl)) (pm_sl C (pm_var (pv 2)) (pm_osome (pm_int)) (pm_onone)) (by rfl))) (sm_one (sm_ret (pm_ix C (pm_var (pv 0)) (pm_int) (fun _ _ => rfl))))))) (sm_nil)) (sm_seq (sm_if (pm_cmpT (ou_isN) (pm_var (pv 2)) (pm_non) (by rfl)) (sm_one (sm_ret (pm_ix C (pm_var (pv 0)) (pm_int) (fun _ _ => rfl)))) (sm_nil)) (sm_seq (sm_stoD C (ps_dput (by have := C.room; omega) (pm_var (pv 1)) (pm_ix C (pm_var (pv 0)) (pm_int) (fun _ _ => rfl)) (pm_ix C (pm_var (pv 2)) (pm_int) (fun _ _ => rfl)) (by rfl))) (sm_seq (sm_stoD C (ps_dput (by have := C.room; omega) (pm_var (pv 1)) (pm_ix C (pm_var (pv 0)) (pm_int) (fun _ _ => rfl)) (pm_ix C (pm_var (pv 2)) (pm_int) (fun _ _ => rfl)) (by rfl))) (sm_seq (sm_stoD C (ps_dput (by have := C.room; omega) (pm_var (pv 1)) (pm_ix C (pm_var (pv 0)) (pm_int) (fun _ _ => rfl)) (pm_ix C (pm_var (pv 2)) (pm_int) (fun _ _ => rfl)) (by rfl))) (sm_one (sm_ret (pm_ix C (pm_var (pv 0)) (pm_int) (fun _ _ => rfl)))))))))
theorem sc_call_value : FnScope (slo .call_value) (prs .call_value) (defScope (st .call_value)) := ⟨rfl, rfl, rfl, by decide +kernel, rfl, by decide +kernel, by decide +kernel⟩
theorem ok_call_value {P : Program} {w : World} {mg : Str → Option Value} {base : Heap} {g : Gd} {ad : Fn → Addr} {fd : Fn → FuncData} {k : Nat} {S : SemT} (T : Txt g mg ad fd) (hk : 2 ≤ k) (hS : ∀ n, FnOk P w g.K mg base (L2.CX P w) k (ad n) (fd n) (prs n) (spU g (ari n) (S n))) :
    FnOk P w g.K mg base (L2.CX P w) (k + 1) (ad .call_value) (fd .call_value) (prs .call_value) (spU g 5 (runC 12 (m_call_value S))) := by
  have SC := sc_call_value
  refine def_clean (T.fn .call_value) SC rfl rfl fun ex cdv A outer s H E hr C => ?_
  unfold m_call_value
  exact sm_seq (sm_if (pm_cmpT (ou_ge) (pm_callB (cu_len C) (by rfl) T.b_len (by rfl) (pm_acons (pm_var (pv 3)) (pm_anil))) ((let ⟨_, q⟩ := T.g_MOST_CALLS; pm_glob (by rfl) q)) (by rfl)) (sm_one (sm_raiseC (W := fun _ _ _ _ => True) C (takes_of rfl rfl rfl rfl) PySem.F.excBase_Exception T.xi T.g_Cut T.kC (raises_own T.exC T.tyC) (by rfl))) (sm_nil)) (sm_seq (sm_set (ps_set (i := 5) SC.nd rfl (by first | exact Or.inl rfl | exact Or.inr rfl) (pm_non))) (sm_seq (sm_if (pm_cmpT (ou_gt) (pm_callB (cu_len C) (by rfl) T.b_len (by rfl) (pm_acons (pm_var (pv 3)) (pm_anil))) (pm_int) (by rfl)) (sm_one (sm_set (ps_set (i := 5) SC.nd rfl (by first | exact Or.inl rfl | exact Or.inr rfl) (pm_ix C (pm_var (pv 3)) (pm_neg (pm_int)) (fun _ _ => rfl))))) (sm_nil)) (sm_seq (sm_set (ps_set (i := 6) SC.nd rfl (by first | exact Or.inl rfl | exact Or.inr rfl) (pm_meth C rfl (hS .log_begin) hr T.cls T.me_begin (T.bd .log_begin) (pm_var (pv 4)) (pm_acons (pm_var (pv 1)) (pm_acons (pm_var (pv 2)) (pm_acons (pm_var (pv 5)) (pm_anil))))))) (sm_seq (sm_set (ps_set (i := 7) SC.nd rfl (by first | exact Or.inl rfl | exact Or.inr rfl) (pm_def C (hS .function_of) hr (by rfl) (T.mf .function_of rfl) (T.fn .function_of).kp (T.bd .function_of) (pm_acons (pm_var (pv 0)) (pm_acons (pm_var (pv 1)) (pm_anil)))))) (sm_seq (sm_set (ps_set (i := 8) SC.nd rfl (by first | exact Or.inl rfl | exact Or.inr rfl) (pm_dict))) (sm_seq (sm_for (N := NN) (passes_of rfl) C (im_zip C (by rfl) T.b_zip (pm_ix C (pm_var (pv 7)) (pm_int) (fun _ _ => rfl)) (pm_var (pv 2))) (pg_tup rfl (pgs_cons (pg_name (i := 9) SC.nd rfl (by first | exact Or.inl rfl | exact Or.inr rfl)) (pgs_cons (pg_name (i := 10) SC.nd rfl (by first | exact Or.inl rfl | exact Or.inr rfl)) (pgs_nil)))) (gu_tup (is := [9, 10])) (sm_one (sm_stoD C (ps_dput (by have := C.room; omega) (pm_var (pv 8)) (pm_ix C (pm_var (pv 9)) (pm_int) (fun _ _ => rfl)) (pm_var (pv 10)) (by rfl))))) (sm_seq (sm_set (ps_set (i := 11) SC.nd rfl (by first | exact Or.inl rfl | exact Or.inr rfl) (pm_def C (hS .body_value) hr (by rfl) (T.mf .body_value rfl) (T.fn .body_value).kp (T.bd .body_value) (pm_acons (pm_var (pv 0)) (pm_acons (pm_ix C (pm_var (pv 7)) (pm_int) (fun _ _ => rfl)) (pm_acons (pm_var (pv 8)) (pm_acons (pm_op (ou_add C) (pm_var (pv 3)) (pm_lst (pm_acons (pm_var (pv 6)) (pm_anil)))) (pm_acons (pm_var (pv 4)) (pm_anil))))))))) (sm_seq (sm_expr (ps_expr (pm_meth C rfl (hS .log_end) hr T.cls T.me_end (T.bd .log_end) (pm_var (pv 4)) (pm_acons (pm_var (pv 6)) (pm_acons (pm_var (pv 11)) (pm_anil)))))) (sm_one (sm_ret (pm_var (pv 11))))))))))))
theorem sc_law_head : FnScope (slo .law_head) (prs .law_head) (defScope (st .law_head)) := ⟨rfl, rfl, rfl, by decide +kernel, rfl, by decide +kernel, by decide +kernel⟩
theorem ok_law_head {P : Program} {w : World} {mg : Str → Option Value} {base : Heap} {g : Gd} {ad : Fn → Addr} {fd : Fn → FuncData} {k : Nat} {S : SemT} (T : Txt g mg ad fd) (hk : 2 ≤ k) (hS : ∀ n, FnOk P w g.K mg base (L2.CX P w) k (ad n) (fd n) (prs n) (spU g (ari n) (S n))) :
    FnOk P w g.K mg base (L2.CX P w) (k + 1) (ad .law_head) (fd .law_head) (prs .law_head) (spU g 3 (runC 9 (m_law_head S))) := by
  have SC := sc_law_head
  refine def_clean (T.fn .law_head) SC rfl rfl fun ex cdv A outer s H E hr C => ?_
  unfold m_law_head
  exact sm_seq (sm_set (ps_set (i := 2) SC.nd rfl (by first | exact Or.inl rfl | exact Or.inr rfl) (pm_op (ou_mod) (pm_var (pv 2)) (pm_op (ou_pow) (pm_int) (pm_int))))) (sm_seq (sm_set (ps_set (i := 3) SC.nd rfl (by first | exact Or.inl rfl | exact Or.inr rfl) (pm_new (pm_anil)))) (sm_seq (sm_set (ps_set (i := 4) SC.nd rfl (by first | exact Or.inl rfl | exact Or.inr rfl) (pm_new (pm_acons (pm_op (ou_mod) (pm_op (ou_div) (pm_var (pv 2)) (pm_int)) (pm_int)) (pm_anil))))) (sm_seq (sm_for (N := NN) (passes_of rfl) C (im_range (by rfl) T.b_range (pm_op (ou_add C) (pm_int) (pm_op (ou_mod) (pm_op (ou_div) (pm_var (pv 2)) (pm_int)) (pm_int)))) (pg_name (i := 5) SC.nd rfl (by first | exact Or.inl rfl | exact Or.inr rfl)) (gu_name) (sm_seq (sm_set (ps_set (i := 7) SC.nd rfl (by first | exact Or.inl rfl | exact Or.inr rfl) (pm_ix C (pm_lst (pm_acons (pm_str) (pm_acons (pm_str) (pm_acons (pm_str) (pm_anil))))) (pm_op (ou_mod) (pm_op (ou_div) (pm_var (pv 2)) (pm_ix C (pm_lst (pm_acons (pm_int) (pm_acons (pm_int) (pm_acons (pm_int) (pm_anil))))) (pm_var (pv 5)) (fun _ _ => rfl))) (pm_int)) (fun _ _ => rfl)))) (sm_seq (sm_expr (ps_expr (pm_append C (pm_var (pv 3)) (pm_acons (pm_tup (pm_acons (pm_ix C (pm_var (pv 1)) (pm_var (pv 5)) (fun _ _ => rfl)) (pm_acons (pm_var (pv 7)) (pm_anil)))) (pm_anil))))) (sm_one (sm_expr (ps_expr (pm_append C (pm_var (pv 4)) (pm_acons (pm_op (ou_mul) (pm_callTy (cu_int) (by rfl) T.b_int (by rfl) (pm_acons (pm_cmp (ou_ne C) (pm_var (pv 7)) (pm_str) (by rfl)) (pm_anil))) (pm_op (ou_mod) (pm_op (ou_div) (pm_var (pv 2)) (pm_ix C (pm_lst (pm_acons (pm_int) (pm_acons (pm_int) (pm_acons (pm_int) (pm_anil))))) (pm_var (pv 5)) (fun _ _ => rfl))) (pm_int))) (pm_anil))))))))) (sm_seq (sm_set (ps_set (i := 6) SC.nd rfl (by first | exact Or.inl rfl | exact Or.inr rfl) (pm_ix C (pm_lst (pm_acons (pm_str) (pm_acons (pm_str) (pm_acons (pm_str) (pm_anil))))) (pm_op (ou_mod) (pm_var (pv 2)) (pm_int)) (fun _ _ => rfl)))) (sm_seq (sm_if (pm_cmpT (ou_eq C) (pm_var (pv 6)) (pm_str) (by rfl)) (sm_one (sm_setLc (i := 4) C rfl rfl (takes_of rfl rfl rfl rfl) rfl rfl (sw_true rfl rfl rfl rfl) (im_seq C (pm_var (pv 4))) (own := [(("_law_part" : Str), 8)]) (blkOk_by (by rfl)) (fun s H Ca cl fp xe => by exact pg_name (i := 8) SC.nd rfl (by first | exact Or.inl rfl | exact Or.inr rfl)) (gg := gName 8) (ix := [8]) (fun ex => gu_name) (by decide) (BTs.nil) (fun ex s H Ca cl fp xe C => pm_int))) (sm_nil)) (sm_one (sm_ret (pm_tup (pm_acons (pm_var (pv 0)) (pm_acons (pm_callTy (cu_tuple C) (by rfl) T.b_tuple (by rfl) (pm_acons (pm_var (pv 3)) (pm_anil))) (pm_acons (pm_tup (pm_acons (pm_var (pv 6)) (pm_acons (pm_callTy (cu_tuple C) (by rfl) T.b_tuple (by rfl) (pm_acons (pm_var (pv 4)) (pm_anil))) (pm_anil)))) (pm_anil))))))))))))
theorem sc_law_tree : FnScope (slo .law_tree) (prs .law_tree) (defScope (st .law_tree)) := ⟨rfl, rfl, rfl, by decide +kernel, rfl, by decide +kernel, by decide +kernel⟩
theorem ok_law_tree {P : Program} {w : World} {mg : Str → Option Value} {base : Heap} {g : Gd} {ad : Fn → Addr} {fd : Fn → FuncData} {k : Nat} {S : SemT} (T : Txt g mg ad fd) (hk : 2 ≤ k) (hS : ∀ n, FnOk P w g.K mg base (L2.CX P w) k (ad n) (fd n) (prs n) (spU g (ari n) (S n))) :
    FnOk P w g.K mg base (L2.CX P w) (k + 1) (ad .law_tree) (fd .law_tree) (prs .law_tree) (spU g 1 (runC 4 (m_law_tree S))) := by
  have SC := sc_law_tree
  refine def_clean (T.fn .law_tree) SC rfl rfl fun ex cdv A outer s H E hr C => ?_
  unfold m_law_tree
  exact sm_seq (sm_set (ps_set (i := 1) SC.nd rfl (by first | exact Or.inl rfl | exact Or.inr rfl) (pm_non))) (sm_seq (sm_for (N := NN) (passes_of rfl) C (im_seq C (pm_sl C (pm_var (pv 0)) (pm_onone) (pm_osome (pm_int)))) (pg_name (i := 2) SC.nd rfl (by first | exact Or.inl rfl | exact Or.inr rfl)) (gu_name) (sm_seq (sm_set (ps_set (i := 3) SC.nd rfl (by first | exact Or.inl rfl | exact Or.inr rfl) (pm_def C (hS .law_number) hr (by rfl) (T.mf .law_number rfl) (T.fn .law_number).kp (T.bd .law_number) (pm_acons (pm_op (ou_div) (pm_var (pv 2)) (pm_int)) (pm_anil))))) (sm_one (sm_set (ps_set (i := 1) SC.nd rfl (by first | exact Or.inl rfl | exact Or.inr rfl) (pm_ix C (pm_lst (pm_acons (pm_tup (pm_acons (pm_var (pv 1)) (pm_acons (pm_var (pv 3)) (pm_acons (pm_non) (pm_anil))))) (pm_acons (pm_tup (pm_acons (pm_non) (pm_acons (pm_var (pv 3)) (pm_acons (pm_var (pv 1)) (pm_anil))))) (pm_acons (pm_tup (pm_acons (pm_var (pv 1)) (pm_acons (pm_var (pv 3)) (pm_acons (pm_tup (pm_acons (pm_non) (pm_acons (pm_var (pv 3)) (pm_acons (pm_non) (pm_anil))))) (pm_anil))))) (pm_anil))))) (pm_op (ou_mod) (pm_var (pv 2)) (pm_int)) (fun _ _ => rfl))))))) (sm_one (sm_ret (pm_var (pv 1)))))
theorem sc_law_args : FnScope (slo .law_args) (prs .law_args) (defScope (st .law_args)) := ⟨rfl, rfl, rfl, by decide +kernel, rfl, by decide +kernel, by decide +kernel⟩
theorem ok_law_args {P : Program} {w : World} {mg : Str → Option Value} {base : Heap} {g : Gd} {ad : Fn → Addr} {fd : Fn → FuncData} {k : Nat} {S : SemT} (T : Txt g mg ad fd) (hk : 2 ≤ k) (hS : ∀ n, FnOk P w g.K mg base (L2.CX P w) k (ad n) (fd n) (prs n) (spU g (ari n) (S n))) :
    FnOk P w g.K mg base (L2.CX P w) (k + 1) (ad .law_args) (fd .law_args) (prs .law_args) (spU g 2 (runC 6 (m_law_args S))) := by
  have SC := sc_law_args
  refine def_clean (T.fn .law_args) SC rfl rfl fun ex cdv A outer s H E hr C => ?_
  unfold m_law_args
  exact sm_seq (sm_set (ps_set (i := 2) SC.nd rfl (by first | exact Or.inl rfl | exact Or.inr rfl) (pm_new (pm_anil)))) (sm_seq (sm_for (N := NN) (passes_of rfl) C (im_range (by rfl) T.b_range (pm_callB (cu_len C) (by rfl) T.b_len (by rfl) (pm_acons (pm_ix C (pm_var (pv 0)) (pm_int) (fun _ _ => rfl)) (pm_anil)))) (pg_name (i := 3) SC.nd rfl (by first | exact Or.inl rfl | exact Or.inr rfl)) (gu_name) (sm_seq (sm_set (ps_set (i := 4) SC.nd rfl (by first | exact Or.inl rfl | exact Or.inr rfl) (pm_sl C (pm_sl3 C (pm_var (pv 1)) (pm_osome (pm_var (pv 3))) (pm_onone) (pm_osome (pm_callB (cu_len C) (by rfl) T.b_len (by rfl) (pm_acons (pm_ix C (pm_var (pv 0)) (pm_int) (fun _ _ => rfl)) (pm_anil))))) (pm_onone) (pm_osome (pm_int))))) (sm_one (sm_if (pm_cmpT (ou_eq C) (pm_ix C (pm_ix C (pm_ix C (pm_var (pv 0)) (pm_int) (fun _ _ => rfl)) (pm_var (pv 3)) (fun _ _ => rfl)) (pm_int) (fun _ _ => rfl)) (pm_str) (by rfl)) (sm_one (sm_expr (ps_expr (pm_append C (pm_var (pv 2)) (pm_acons (pm_callTy (cu_tuple C) (by rfl) T.b_tuple (by rfl) (pm_acons (pm_lc C rfl rfl (takes_of rfl rfl rfl rfl) (im_seq C (pm_var (pv 4))) (own := [(("_law_part" : Str), 5)]) (blkOk_by (by rfl)) (fun s H Ca cl fp xe => by exact pg_name (i := 5) SC.nd rfl (by first | exact Or.inl rfl | exact Or.inr rfl)) (gg := gName 5) (ix := [5]) (fun ex => gu_name) (by decide) (BTs.nil) (fun ex s H Ca cl fp xe C => pm_def C (hS .law_number) hr (by rfl) (T.mf .law_number rfl) (T.fn .law_number).kp (T.bd .law_number) (pm_acons (pm_var (pv 5)) (pm_anil)))) (pm_anil))) (pm_anil)))))) (sm_one (sm_if (pm_cmpT (ou_eq C) (pm_ix C (pm_ix C (pm_ix C (pm_var (pv 0)) (pm_int) (fun _ _ => rfl)) (pm_var (pv 3)) (fun _ _ => rfl)) (pm_int) (fun _ _ => rfl)) (pm_str) (by rfl)) (sm_one (sm_expr (ps_expr (pm_append C (pm_var (pv 2)) (pm_acons (pm_def C (hS .law_tree) hr (by rfl) (T.mf .law_tree rfl) (T.fn .law_tree).kp (T.bd .law_tree) (pm_acons (pm_var (pv 4)) (pm_anil))) (pm_anil)))))) (sm_one (sm_expr (ps_expr (pm_append C (pm_var (pv 2)) (pm_acons (pm_def C (hS .law_number) hr (by rfl) (T.mf .law_number rfl) (T.fn .law_number).kp (T.bd .law_number) (pm_acons (pm_callB (cu_sum C) (by rfl) T.b_sum (by rfl) (pm_acons (pm_var (pv 4)) (pm_anil))) (pm_anil))) (pm_anil)))))))))))) (sm_one (sm_ret (pm_var (pv 2)))))
theorem sc_law_one : FnScope (slo .law_one) (prs .law_one) (defScope (st .law_one)) := ⟨rfl, rfl, rfl, by decide +kernel, rfl, by decide +kernel, by decide +kernel⟩
theorem ok_law_one {P : Program} {w : World} {mg : Str → Option Value} {base : Heap} {g : Gd} {ad : Fn → Addr} {fd : Fn → FuncData} {k : Nat} {S : SemT} (T : Txt g mg ad fd) (hk : 2 ≤ k) (hS : ∀ n, FnOk P w g.K mg base (L2.CX P w) k (ad n) (fd n) (prs n) (spU g (ari n) (S n))) :
    FnOk P w g.K mg base (L2.CX P w) (k + 1) (ad .law_one) (fd .law_one) (prs .law_one) (spU g 2 (runC 3 (m_law_one S))) := by
  have SC := sc_law_one
  refine def_clean (T.fn .law_one) SC rfl rfl fun ex cdv A outer s H E hr C => ?_
  unfold m_law_one
  exact sm_seq (sm_for (N := NN) (passes_of rfl) C (im_seq C (pm_var (pv 0))) (pg_name (i := 2) SC.nd rfl (by first | exact Or.inl rfl | exact Or.inr rfl)) (gu_name) (sm_one (sm_if (pm_cmpT (ou_eq C) (pm_ix C (pm_var (pv 2)) (pm_int) (fun _ _ => rfl)) (pm_var (pv 1)) (by rfl)) (sm_one (sm_ret (pm_var (pv 2)))) (sm_nil)))) (sm_one (sm_ret (pm_non)))
theorem sc_law_call_told : FnScope (slo .law_call_told) (prs .law_call_told) (defScope (st .law_call_told)) := ⟨rfl, rfl, rfl, by decide +kernel, rfl, by decide +kernel, by decide +kernel⟩
theorem ok_law_call_told {P : Program} {w : World} {mg : Str → Option Value} {base : Heap} {g : Gd} {ad : Fn → Addr} {fd : Fn → FuncData} {k : Nat} {S : SemT} (T : Txt g mg ad fd) (hk : 2 ≤ k) (hS : ∀ n, FnOk P w g.K mg base (L2.CX P w) k (ad n) (fd n) (prs n) (spU g (ari n) (S n))) :
    FnOk P w g.K mg base (L2.CX P w) (k + 1) (ad .law_call_told) (fd .law_call_told) (prs .law_call_told) (spU g 3 (runC 6 (m_law_call_told S))) := by
  have SC := sc_law_call_told
  refine def_clean (T.fn .law_call_told) SC rfl rfl fun ex cdv A outer s H E hr C => ?_
  unfold m_law_call_told
  exact sm_seq (sm_if ((pw_orM (pm_not (pm_val (pm_isi C .tuple (by rfl) T.b_isinstance (by rfl) (pm_var (pv 2)) (by rfl) T.b_tuple (by rfl)))) (pw_orM (pm_cmpT (ou_ne C) (pm_callB (cu_len C) (by rfl) T.b_len (by rfl) (pm_acons (pm_var (pv 2)) (pm_anil))) (pm_int) (by rfl)) (pw_or1M (pm_not (pm_val (pm_isi C .bool (by rfl) T.b_isinstance (by rfl) (pm_ix C (pm_var (pv 2)) (pm_int) (fun _ _ => rfl)) (by rfl) T.b_bool (by rfl))))))).pt) (sm_one (sm_ret (pm_bl))) (sm_nil)) (sm_seq (sm_set (ps_set (i := 3) SC.nd rfl (by first | exact Or.inl rfl | exact Or.inr rfl) (pm_def C (hS .law_one) hr (by rfl) (T.mf .law_one rfl) (T.fn .law_one).kp (T.bd .law_one) (pm_acons (pm_var (pv 0)) (pm_acons (pm_ix C (pm_var (pv 2)) (pm_int) (fun _ _ => rfl)) (pm_anil)))))) (sm_seq (sm_if ((pw_orM (pm_cmpT (ou_isN) (pm_var (pv 3)) (pm_non) (by rfl)) (pw_orM (pm_not (pm_val (pm_isi C .tuple (by rfl) T.b_isinstance (by rfl) (pm_ix C (pm_var (pv 2)) (pm_int) (fun _ _ => rfl)) (by rfl) T.b_tuple (by rfl)))) (pw_or1M (pm_cmpT (ou_ne C) (pm_callB (cu_len C) (by rfl) T.b_len (by rfl) (pm_acons (pm_ix C (pm_var (pv 2)) (pm_int) (fun _ _ => rfl)) (pm_anil))) (pm_callB (cu_len C) (by rfl) T.b_len (by rfl) (pm_acons (pm_ix C (pm_var (pv 3)) (pm_int) (fun _ _ => rfl)) (pm_anil))) (by rfl))))).pt) (sm_one (sm_ret (pm_bl))) (sm_nil)) (sm_seq (sm_if (pm_cmpT (ou_lt) (pm_callB (cu_min C) (by rfl) T.b_min (by rfl) (pm_acons (pm_lc C rfl rfl (takes_of rfl rfl rfl rfl) (im_zip C (by rfl) T.b_zip (pm_ix C (pm_var (pv 3)) (pm_int) (fun _ _ => rfl)) (pm_ix C (pm_var (pv 2)) (pm_int) (fun _ _ => rfl))) (own := [(("_law_part" : Str), 4), (("_law_thing" : Str), 5)]) (blkOk_by (by rfl)) (fun s H Ca cl fp xe => by exact pg_tup rfl (pgs_cons (pg_name (i := 4) SC.nd rfl (by first | exact Or.inl rfl | exact Or.inr rfl)) (pgs_cons (pg_name (i := 5) SC.nd rfl (by first | exact Or.inl rfl | exact Or.inr rfl)) (pgs_nil)))) (gg := gTup g.K 2 (gM [4, 5])) (ix := [4, 5]) (fun ex => gu_tup (is := [4, 5])) (by decide) (BTs.nil) (fun ex s H Ca cl fp xe C => pm_def C (hS .law_size) hr (by rfl) (T.mf .law_size rfl) (T.fn .law_size).kp (T.bd .law_size) (pm_acons (pm_ix C (pm_var (pv 4)) (pm_int) (fun _ _ => rfl)) (pm_acons (pm_var (pv 5)) (pm_anil))))) (pm_anil))) (pm_int) (by rfl)) (sm_one (sm_ret (pm_bl))) (sm_nil)) (sm_seq (sm_if ((pw_andM (pm_cmpT (ou_gt) (pm_var (pv 1)) (pm_int) (by rfl)) (pw_and1M ((pw_orM (pm_not (pm_val (pm_def C (hS .law_whole) hr (by rfl) (T.mf .law_whole rfl) (T.fn .law_whole).kp (T.bd .law_whole) (pm_acons (pm_ix C (pm_var (pv 2)) (pm_int) (fun _ _ => rfl)) (pm_anil))))) (pw_orM (pm_cmpT (ou_lt) (pm_ix C (pm_var (pv 2)) (pm_int) (fun _ _ => rfl)) (pm_int) (by rfl)) (pw_or1M (pm_cmpT (ou_ge) (pm_ix C (pm_var (pv 2)) (pm_int) (fun _ _ => rfl)) (pm_var (pv 1)) (by rfl))))).pt))).pt) (sm_one (sm_ret (pm_bl))) (sm_nil)) (sm_seq (sm_if (pm_not (pm_val (pm_ix C (pm_var (pv 2)) (pm_int) (fun _ _ => rfl)))) (sm_one (sm_ret (pm_cmp (ou_isN) (pm_ix C (pm_var (pv 2)) (pm_int) (fun _ _ => rfl)) (pm_non) (by rfl)))) (sm_nil)) (sm_one (sm_ret (pm_cmp (ou_ge) (pm_def C (hS .law_size) hr (by rfl) (T.mf .law_size rfl) (T.fn .law_size).kp (T.bd .law_size) (pm_acons (pm_ix C (pm_ix C (pm_var (pv 3)) (pm_int) (fun _ _ => rfl)) (pm_int) (fun _ _ => rfl)) (pm_acons (pm_ix C (pm_var (pv 2)) (pm_int) (fun _ _ => rfl)) (pm_anil)))) (pm_int) (by rfl)))))))))
theorem sc_law_value : FnScope (slo .law_value) (prs .law_value) (defScope (st .law_value)) := ⟨rfl, rfl, rfl, by decide +kernel, rfl, by decide +kernel, by decide +kernel⟩
theorem ok_law_value {P : Program} {w : World} {mg : Str → Option Value} {base : Heap} {g : Gd} {ad : Fn → Addr} {fd : Fn → FuncData} {k : Nat} {S : SemT} (T : Txt g mg ad fd) (hk : 2 ≤ k) (hS : ∀ n, FnOk P w g.K mg base (L2.CX P w) k (ad n) (fd n) (prs n) (spU g (ari n) (S n))) :
    FnOk P w g.K mg base (L2.CX P w) (k + 1) (ad .law_value) (fd .law_value) (prs .law_value) (spU g 3 (runC 6 (m_law_value S))) := by
  have SC := sc_law_value
  refine def_clean (T.fn .law_value) SC rfl rfl fun ex cdv A outer s H E hr C => ?_
  unfold m_law_value
  exact sm_seq (sm_if ((pw_orM (pm_val (pm_ix C (pm_var (pv 0)) (pm_int) (fun _ _ => rfl))) (pw_or1M (pm_cmpT (ou_eq C) (pm_ix C (pm_var (pv 1)) (pm_int) (fun _ _ => rfl)) (pm_str) (by rfl)))).pt) (sm_one (sm_ret (pm_non))) (sm_nil)) (sm_seq (sm_if (pm_cmpT (ou_eq C) (pm_ix C (pm_var (pv 1)) (pm_int) (fun _ _ => rfl)) (pm_str) (by rfl)) (sm_one (sm_ret (pm_ix C (pm_var (pv 1)) (pm_int) (fun _ _ => rfl)))) (sm_nil)) (sm_seq (sm_if (pm_cmpT (ou_eq C) (pm_ix C (pm_var (pv 1)) (pm_int) (fun _ _ => rfl)) (pm_str) (by rfl)) (sm_one (sm_ret (pm_get C (pm_var (pv 2)) (pm_ix C (pm_var (pv 1)) (pm_int) (fun _ _ => rfl)) (fun _ _ => rfl)))) (sm_nil)) (sm_seq (sm_if (pm_cmpT (ou_eq C) (pm_ix C (pm_var (pv 1)) (pm_int) (fun _ _ => rfl)) (pm_str) (by rfl)) (sm_one (sm_ret (pm_tup (pm_anil)))) (sm_nil)) (sm_seq (sm_if (pm_cmpT (ou_eq C) (pm_ix C (pm_var (pv 1)) (pm_int) (fun _ _ => rfl)) (pm_str) (by rfl)) (sm_seq (sm_setLc (i := 4) C rfl rfl (takes_of rfl rfl rfl rfl) rfl rfl (sw_true rfl rfl rfl rfl) (im_seq C (pm_ix C (pm_var (pv 1)) (pm_int) (fun _ _ => rfl))) (own := [(("_law_part" : Str), 5)]) (blkOk_by (by rfl)) (fun s H Ca cl fp xe => by exact pg_name (i := 5) SC.nd rfl (by first | exact Or.inl rfl | exact Or.inr rfl)) (gg := gName 5) (ix := [5]) (fun ex => gu_name) (by decide) (BTs.nil) (fun ex s H Ca cl fp xe C => pm_def C (hS .law_value) hr (by rfl) (T.mf .law_value rfl) (T.fn .law_value).kp (T.bd .law_value) (pm_acons (pm_var (pv 0)) (pm_acons (pm_var (pv 5)) (pm_acons (pm_var (pv 2)) (pm_anil)))))) (sm_one (sm_ret (pm_def C (hS .law_child) hr (by rfl) (T.mf .law_child rfl) (T.fn .law_child).kp (T.bd .law_child) (pm_acons (pm_var (pv 0)) (pm_acons (pm_ix C (pm_var (pv 1)) (pm_int) (fun _ _ => rfl)) (pm_acons (pm_callTy (cu_tuple C) (by rfl) T.b_tuple (by rfl) (pm_acons (pm_var (pv 4)) (pm_anil))) (pm_anil)))))))) (sm_nil)) (sm_seq (sm_setLc (i := 3) C rfl rfl (takes_of rfl rfl rfl rfl) rfl rfl (sw_true rfl rfl rfl rfl) (im_seq C (pm_sl C (pm_var (pv 1)) (pm_osome (pm_int)) (pm_onone))) (own := [(("_law_part" : Str), 5)]) (blkOk_by (by rfl)) (fun s H Ca cl fp xe => by exact pg_name (i := 5) SC.nd rfl (by first | exact Or.inl rfl | exact Or.inr rfl)) (gg := gName 5) (ix := [5]) (fun ex => gu_name) (by decide) (BTs.nil) (fun ex s H Ca cl fp xe C => pm_def C (hS .law_value) hr (by rfl) (T.mf .law_value rfl) (T.fn .law_value).kp (T.bd .law_value) (pm_acons (pm_var (pv 0)) (pm_acons (pm_var (pv 5)) (pm_acons (pm_var (pv 2)) (pm_anil)))))) (sm_one (sm_ret (pm_def C (hS .law_made) hr (by rfl) (T.mf .law_made rfl) (T.fn .law_made).kp (T.bd .law_made) (pm_acons (pm_var (pv 0)) (pm_acons (pm_ix C (pm_var (pv 1)) (pm_int) (fun _ _ => rfl)) (pm_acons (pm_var (pv 3)) (pm_anil))))))))))))
theorem sc_law_walked : FnScope (slo .law_walked) (prs .law_walked) (defScope (st .law_walked)) := ⟨rfl, rfl, rfl, by decide +kernel, rfl, by decide +kernel, by decide +kernel⟩
theorem ok_law_walked {P : Program} {w : World} {mg : Str → Option Value} {base : Heap} {g : Gd} {ad : Fn → Addr} {fd : Fn → FuncData} {k : Nat} {S : SemT} (T : Txt g mg ad fd) (hk : 2 ≤ k) (hS : ∀ n, FnOk P w g.K mg base (L2.CX P w) k (ad n) (fd n) (prs n) (spU g (ari n) (S n))) :
    FnOk P w g.K mg base (L2.CX P w) (k + 1) (ad .law_walked) (fd .law_walked) (prs .law_walked) (spU g 4 (runC 12 (m_law_walked S))) := by
  have SC := sc_law_walked
  refine def_clean (T.fn .law_walked) SC rfl rfl fun ex cdv A outer s H E hr C => ?_
  unfold m_law_walked
  exact sm_seq (sm_set (ps_set (i := 4) SC.nd rfl (by first | exact Or.inl rfl | exact Or.inr rfl) (pm_def C (hS .law_events) hr (by rfl) (T.mf .law_events rfl) (T.fn .law_events).kp (T.bd .law_events) (pm_acons (pm_var (pv 1)) (pm_acons (pm_var (pv 2)) (pm_anil)))))) (sm_seq (sm_if (pm_cmpT (ou_isN) (pm_var (pv 4)) (pm_non) (by rfl)) (sm_one (sm_ret (pm_bl))) (sm_nil)) (sm_seq (sm_setLc (i := 5) C rfl rfl (takes_of rfl rfl rfl rfl) rfl rfl (sw_true rfl rfl rfl rfl) (im_seq C (pm_var (pv 1))) (own := [(("_law_call" : Str), 10)]) (blkOk_by (by rfl)) (fun s H Ca cl fp xe => by exact pg_name (i := 10) SC.nd rfl (by first | exact Or.inl rfl | exact Or.inr rfl)) (gg := gName 10) (ix := [10]) (fun ex => gu_name) (by decide) (BTs.nil) (fun ex s H Ca cl fp xe C => pm_new (pm_anil))) (sm_seq (sm_set (ps_set (i := 6) SC.nd rfl (by first | exact Or.inl rfl | exact Or.inr rfl) (pm_new (pm_anil)))) (sm_seq (sm_for (N := NN) (passes_of rfl) C (im_range (by rfl) T.b_range (pm_callB (cu_len C) (by rfl) T.b_len (by rfl) (pm_acons (pm_var (pv 1)) (pm_anil)))) (pg_name (i := 7) SC.nd rfl (by first | exact Or.inl rfl | exact Or.inr rfl)) (gu_name) (sm_seq (sm_expr (ps_expr (pm_append C (pm_var (pv 6)) (pm_acons (pm_int) (pm_anil))))) (sm_seq (sm_if (pm_cmpT (ou_gt) (pm_var (pv 7)) (pm_int) (by rfl)) (sm_seq (sm_expr (ps_expr (pm_append C (pm_ix C (pm_var (pv 5)) (pm_ix C (pm_ix C (pm_var (pv 1)) (pm_var (pv 7)) (fun _ _ => rfl)) (pm_int) (fun _ _ => rfl)) (fun _ _ => rfl)) (pm_acons (pm_var (pv 7)) (pm_anil))))) (sm_one (sm_stoL (ps_asg (pm_op (ou_add C) (pm_ix C (pm_var (pv 6)) (pm_ix C (pm_ix C (pm_var (pv 1)) (pm_var (pv 7)) (fun _ _ => rfl)) (pm_int) (fun _ _ => rfl)) (fun _ _ => rfl)) (pm_int)) (pg_sub (pm_var (pv 6)) (pm_var (pv 7)) set_list))))) (sm_nil)) (sm_one (sm_if (pm_cmpT (ou_gt) (pm_ix C (pm_var (pv 6)) (pm_var (pv 7)) (fun _ _ => rfl)) (pm_int) (by rfl)) (sm_one (sm_ret (pm_bl))) (sm_nil)))))) (sm_seq (sm_set (ps_set (i := 8) SC.nd rfl (by first | exact Or.inl rfl | exact Or.inr rfl) (pm_new (pm_anil)))) (sm_seq (sm_expr (ps_expr (pm_def C (hS .law_in_order) hr (by rfl) (T.mf .law_in_order rfl) (T.fn .law_in_order).kp (T.bd .law_in_order) (pm_acons (pm_var (pv 4)) (pm_acons (pm_var (pv 5)) (pm_acons (pm_int) (pm_acons (pm_var (pv 8)) (pm_anil)))))))) (sm_seq (sm_if (pm_cmpT (ou_ne C) (pm_var (pv 8)) (pm_var (pv 2)) (by rfl)) (sm_one (sm_ret (pm_bl))) (sm_nil)) (sm_seq (sm_for (N := NN) (passes_of rfl) C (im_range (by rfl) T.b_range (pm_callB (cu_len C) (by rfl) T.b_len (by rfl) (pm_acons (pm_var (pv 1)) (pm_anil)))) (pg_name (i := 7) SC.nd rfl (by first | exact Or.inl rfl | exact Or.inr rfl)) (gu_name) (sm_seq (sm_setLc (i := 9) C rfl rfl (takes_of rfl rfl rfl rfl) rfl rfl (sw_true rfl rfl rfl rfl) (im_seq C (pm_ix C (pm_var (pv 5)) (pm_var (pv 7)) (fun _ _ => rfl))) (own := [(("_law_at" : Str), 11)]) (blkOk_by (by rfl)) (fun s H Ca cl fp xe => by exact pg_name (i := 11) SC.nd rfl (by first | exact Or.inl rfl | exact Or.inr rfl)) (gg := gName 11) (ix := [11]) (fun ex => gu_name) (by decide) (BTs.nil) (fun ex s H Ca cl fp xe C => pm_ix C (pm_var (pv 1)) (pm_var (pv 11)) (fun _ _ => rfl))) (sm_one (sm_if (pm_not (pm_val (pm_def C (hS .law_call_holds) hr (by rfl) (T.mf .law_call_holds rfl) (T.fn .law_call_holds).kp (T.bd .law_call_holds) (pm_acons (pm_var (pv 0)) (pm_acons (pm_ix C (pm_var (pv 1)) (pm_var (pv 7)) (fun _ _ => rfl)) (pm_acons (pm_var (pv 9)) (pm_acons (pm_ix C (pm_var (pv 4)) (pm_var (pv 7)) (fun _ _ => rfl)) (pm_acons (pm_cmp (ou_eq C) (pm_callB (cu_len C) (by rfl) T.b_len (by rfl) (pm_acons (pm_var (pv 2)) (pm_anil))) (pm_var (pv 3)) (by rfl)) (pm_acons (pm_ix C (pm_var (pv 6)) (pm_var (pv 7)) (fun _ _ => rfl)) (pm_anil)))))))))) (sm_one (sm_ret (pm_bl))) (sm_nil))))) (sm_one (sm_ret (pm_bl)))))))))))
end Wk
set_option maxRecDepth 100000
set_option maxHeartbeats 4000000
/-! Tc4: the derivations. Printed by gen.py. -/
namespace Wk
open PySem PySem.Spec PyProof.Rows L2
theorem sc_fits : FnScope (slo .fits) (prs .fits) (defScope (st .fits)) := ⟨rfl, rfl, rfl, by decide +kernel, rfl, by decide +kernel, by decide +kernel⟩
theorem ok_fits {P : Program} {w : World} {mg : Str → Option Value} {base : Heap} {g : Gd} {ad : Fn → Addr} {fd : Fn → FuncData} {k : Nat} {S : SemT} (T : Txt g mg ad fd) (hk : 2 ≤ k) (hS : ∀ n, FnOk P w g.K mg base (L2.CX P w) k (ad n) (fd n) (prs n) (spU g (ari n) (S n))) :
    FnOk P w g.K mg base (L2.CX P w) (k + 1) (ad .fits) (fd .fits) (prs .fits) (spU g 2 (runC 2 (m_fits S))) := by
  have SC := sc_fits
  refine def_clean (T.fn .fits) SC rfl rfl fun ex cdv A outer s H E hr C => ?_
  unfold m_fits
  exact sm_seq (sm_if (pm_cmpT (ou_eq C) (pm_var (pv 0)) (pm_str) (by rfl)) (sm_one (sm_ret (pm_def C (hS .is_whole) hr (by rfl) (T.mf .is_whole rfl) (T.fn .is_whole).kp (T.bd .is_whole) (pm_acons (pm_var (pv 1)) (pm_anil))))) (sm_nil)) (sm_seq (sm_if (pm_cmpT (ou_eq C) (pm_var (pv 0)) (pm_str) (by rfl)) (sm_one (sm_ret (pm_def C (hS .is_row) hr (by rfl) (T.mf .is_row rfl) (T.fn .is_row).kp (T.bd .is_row) (pm_acons (pm_var (pv 1)) (pm_anil))))) (sm_nil)) (sm_one (sm_ret (pm_def C (hS .is_tree) hr (by rfl) (T.mf .is_tree rfl) (T.fn .is_tree).kp (T.bd .is_tree) (pm_acons (pm_var (pv 1)) (pm_anil))))))
theorem sc_log_begin : FnScope (slo .log_begin) (prs .log_begin) (defScope (st .log_begin)) := ⟨rfl, rfl, rfl, by decide +kernel, rfl, by decide +kernel, by decide +kernel⟩
theorem ok_log_begin {P : Program} {w : World} {mg : Str → Option Value} {base : Heap} {g : Gd} {ad : Fn → Addr} {fd : Fn → FuncData} {k : Nat} {S : SemT} (T : Txt g mg ad fd) (hk : 2 ≤ k) (hS : ∀ n, FnOk P w g.K mg base (L2.CX P w) k (ad n) (fd n) (prs n) (spU g (ari n) (S n))) :
    FnOk P w g.K mg base (L2.CX P w) (k + 1) (ad .log_begin) (fd .log_begin) (prs .log_begin) (spU g 4 (runC 5 (m_log_begin S))) := by
  have SC := sc_log_begin
  refine def_clean (T.fn .log_begin) SC rfl rfl fun ex cdv A outer s H E hr C => ?_
  unfold m_log_begin
  exact sm_seq (sm_set (ps_set (i := 4) SC.nd rfl (by first | exact Or.inl rfl | exact Or.inr rfl) (pm_callB (cu_len C) (by rfl) T.b_len (by rfl) (pm_acons (pm_fldK (by rfl) (pm_var (pv 0)) T.cls T.na_begun) (pm_anil))))) (sm_seq (sm_expr (ps_expr (pm_meth C rfl (hS .log_step) hr T.cls T.me_step (T.bd .log_step) (pm_var (pv 0)) (pm_acons (pm_var (pv 4)) (pm_acons (pm_str) (pm_anil)))))) (sm_seq (sm_expr (ps_expr (pm_append C (pm_fldK (by rfl) (pm_var (pv 0)) T.cls T.na_begun) (pm_acons (pm_tup (pm_acons (pm_var (pv 1)) (pm_acons (pm_callTy (cu_tuple C) (by rfl) T.b_tuple (by rfl) (pm_acons (pm_var (pv 2)) (pm_anil))) (pm_acons (pm_var (pv 3)) (pm_acons (pm_bl) (pm_acons (pm_non) (pm_anil))))))) (pm_anil))))) (sm_one (sm_ret (pm_var (pv 4))))))
theorem sc_made_of : FnScope (slo .made_of) (prs .made_of) (defScope (st .made_of)) := ⟨rfl, rfl, rfl, by decide +kernel, rfl, by decide +kernel, by decide +kernel⟩
theorem ok_made_of {P : Program} {w : World} {mg : Str → Option Value} {base : Heap} {g : Gd} {ad : Fn → Addr} {fd : Fn → FuncData} {k : Nat} {S : SemT} (T : Txt g mg ad fd) (hk : 2 ≤ k) (hS : ∀ n, FnOk P w g.K mg base (L2.CX P w) k (ad n) (fd n) (prs n) (spU g (ari n) (S n))) :
    FnOk P w g.K mg base (L2.CX P w) (k + 1) (ad .made_of) (fd .made_of) (prs .made_of) (spU g 4 (runC 4 (m_made_of S))) := by
  have SC := sc_made_of
  refine def_clean (T.fn .made_of) SC rfl rfl fun ex cdv A outer s H E hr C => ?_
  unfold m_made_of
  exact sm_seq (sm_if (pm_cmpT (ou_eq C) (pm_var (pv 0)) (pm_str) (by rfl)) (sm_seq (sm_expr (ps_expr (pm_meth C rfl (hS .log_step) hr T.cls T.me_step (T.bd .log_step) (pm_var (pv 3)) (pm_acons (pm_var (pv 2)) (pm_acons (pm_str) (pm_anil)))))) (sm_one (sm_ret (pm_op (ou_add C) (pm_ix C (pm_var (pv 1)) (pm_int) (fun _ _ => rfl)) (pm_ix C (pm_var (pv 1)) (pm_int) (fun _ _ => rfl)))))) (sm_nil)) (sm_seq (sm_if (pm_cmpT (ou_eq C) (pm_var (pv 0)) (pm_str) (by rfl)) (sm_seq (sm_expr (ps_expr (pm_meth C rfl (hS .log_step) hr T.cls T.me_step (T.bd .log_step) (pm_var (pv 3)) (pm_acons (pm_var (pv 2)) (pm_acons (pm_str) (pm_anil)))))) (sm_one (sm_ret (pm_op (ou_sub) (pm_ix C (pm_var (pv 1)) (pm_int) (fun _ _ => rfl)) (pm_ix C (pm_var (pv 1)) (pm_int) (fun _ _ => rfl)))))) (sm_nil)) (sm_seq (sm_if (pm_cmpT (ou_eq C) (pm_var (pv 0)) (pm_str) (by rfl)) (sm_seq (sm_if (pm_cmpT (ou_ge) (pm_callB (cu_len C) (by rfl) T.b_len (by rfl) (pm_acons (pm_ix C (pm_var (pv 1)) (pm_int) (fun _ _ => rfl)) (pm_anil))) ((let ⟨_, q⟩ := T.g_MOST_SIZE; pm_glob (by rfl) q)) (by rfl)) (sm_one (sm_raiseC (W := fun _ _ _ _ => True) C (takes_of rfl rfl rfl rfl) PySem.F.excBase_Exception T.xi T.g_Cut T.kC (raises_own T.exC T.tyC) (by rfl))) (sm_nil)) (sm_seq (sm_expr (ps_expr (pm_meth C rfl (hS .log_step) hr T.cls T.me_step (T.bd .log_step) (pm_var (pv 3)) (pm_acons (pm_var (pv 2)) (pm_acons (pm_str) (pm_anil)))))) (sm_one (sm_ret (pm_op (ou_add C) (pm_tup (pm_acons (pm_ix C (pm_var (pv 1)) (pm_int) (fun _ _ => rfl)) (pm_anil))) (pm_ix C (pm_var (pv 1)) (pm_int) (fun _ _ => rfl))))))) (sm_nil)) (sm_seq (sm_if (pm_cmpT (ou_ge) (pm_op (ou_add C) (pm_def C (hS .size_of) hr (by rfl) (T.mf .size_of rfl) (T.fn .size_of).kp (T.bd .size_of) (pm_acons (pm_str) (pm_acons (pm_ix C (pm_var (pv 1)) (pm_int) (fun _ _ => rfl)) (pm_anil)))) (pm_def C (hS .size_of) hr (by rfl) (T.mf .size_of rfl) (T.fn .size_of).kp (T.bd .size_of) (pm_acons (pm_str) (pm_acons (pm_ix C (pm_var (pv 1)) (pm_int) (fun _ _ => rfl)) (pm_anil))))) ((let ⟨_, q⟩ := T.g_MOST_SIZE; pm_glob (by rfl) q)) (by rfl)) (sm_one (sm_raiseC (W := fun _ _ _ _ => True) C (takes_of rfl rfl rfl rfl) PySem.F.excBase_Exception T.xi T.g_Cut T.kC (raises_own T.exC T.tyC) (by rfl))) (sm_nil)) (sm_seq (sm_expr (ps_expr (pm_meth C rfl (hS .log_step) hr T.cls T.me_step (T.bd .log_step) (pm_var (pv 3)) (pm_acons (pm_var (pv 2)) (pm_acons (pm_str) (pm_anil)))))) (sm_one (sm_ret (pm_tup (pm_acons (pm_ix C (pm_var (pv 1)) (pm_int) (fun _ _ => rfl)) (pm_acons (pm_ix C (pm_var (pv 1)) (pm_int) (fun _ _ => rfl)) (pm_acons (pm_ix C (pm_var (pv 1)) (pm_int) (fun _ _ => rfl)) (pm_anil)))))))))))
theorem sc_trace : FnScope (slo .trace) (prs .trace) (defScope (st .trace)) := ⟨rfl, rfl, rfl, by decide +kernel, rfl, by decide +kernel, by decide +kernel⟩
theorem ok_trace {P : Program} {w : World} {mg : Str → Option Value} {base : Heap} {g : Gd} {ad : Fn → Addr} {fd : Fn → FuncData} {k : Nat} {S : SemT} (T : Txt g mg ad fd) (hk : 2 ≤ k) (hS : ∀ n, FnOk P w g.K mg base (L2.CX P w) k (ad n) (fd n) (prs n) (spU g (ari n) (S n))) :
    FnOk P w g.K mg base (L2.CX P w) (k + 1) (ad .trace) (fd .trace) (prs .trace) (spU g 4 (runB 9 (m_trace S))) := by
  have SC := sc_trace
  refine def_raw (T.fn .trace) SC rfl rfl fun ex cdv A outer s H E hr C => ?_
  unfold m_trace
  exact sm_seq (sm_set (ps_set (i := 4) SC.nd rfl (by first | exact Or.inl rfl | exact Or.inr rfl) (pm_def C (hS .function_of) hr (by rfl) (T.mf .function_of rfl) (T.fn .function_of).kp (T.bd .function_of) (pm_acons (pm_var (pv 0)) (pm_acons (pm_var (pv 1)) (pm_anil)))))) (sm_seq (sm_if (pm_cmpT (ou_isN) (pm_var (pv 4)) (pm_non) (by rfl)) (sm_one (sm_never)) (sm_nil)) (sm_seq (sm_if (pm_cmpT (ou_ne C) (pm_callB (cu_len C) (by rfl) T.b_len (by rfl) (pm_acons (pm_var (pv 2)) (pm_anil))) (pm_callB (cu_len C) (by rfl) T.b_len (by rfl) (pm_acons (pm_ix C (pm_var (pv 4)) (pm_int) (fun _ _ => rfl)) (pm_anil))) (by rfl)) (sm_one (sm_never)) (sm_nil)) (sm_seq (sm_for (N := NN) (passes_of rfl) C (im_zip C (by rfl) T.b_zip (pm_ix C (pm_var (pv 4)) (pm_int) (fun _ _ => rfl)) (pm_var (pv 2))) (pg_tup rfl (pgs_cons (pg_name (i := 5) SC.nd rfl (by first | exact Or.inl rfl | exact Or.inr rfl)) (pgs_cons (pg_name (i := 6) SC.nd rfl (by first | exact Or.inl rfl | exact Or.inr rfl)) (pgs_nil)))) (gu_tup (is := [5, 6])) (sm_one (sm_if (pm_not (pm_val (pm_def C (hS .fits) hr (by rfl) (T.mf .fits rfl) (T.fn .fits).kp (T.bd .fits) (pm_acons (pm_ix C (pm_var (pv 5)) (pm_int) (fun _ _ => rfl)) (pm_acons (pm_var (pv 6)) (pm_anil)))))) (sm_one (sm_never)) (sm_nil)))) (sm_seq (sm_set (ps_set (i := 7) SC.nd rfl (by first | exact Or.inl rfl | exact Or.inr rfl) (pm_make C rfl T.mkL (ok_log_init T) (hr.mono (by omega)) (by rfl) T.g_Log (T.bd .log_init) (pm_acons (pm_var (pv 3)) (pm_anil))))) (sm_seq (sm_set (ps_set (i := 8) SC.nd rfl (by first | exact Or.inl rfl | exact Or.inr rfl) (pm_non))) (sm_one (sm_try rfl rfl ⟨by rfl, by decide, .inl T.g_Cut⟩ (takes_of rfl rfl rfl rfl) T.ex (fun W pn xe tk _ => (have C : Cxt _ (Cx.tr _ pn xe) (fun σ cls d H => W cls d σ H) := ⟨C.K, C.calm, C.room, C.nd, fun σ => passAt tk σ⟩; sm_one (sm_set (ps_set (i := 8) SC.nd rfl (by first | exact Or.inl rfl | exact Or.inr rfl) (pm_def C (hS .call_value) hr (by rfl) (T.mf .call_value rfl) (T.fn .call_value).kp (T.bd .call_value) (pm_acons (pm_var (pv 0)) (pm_acons (pm_var (pv 1)) (pm_acons (pm_var (pv 2)) (pm_acons (pm_lst (pm_anil)) (pm_acons (pm_var (pv 7)) (pm_anil))))))))))) (fun a pn => sm_one (sm_ret (pm_tup (pm_acons (pm_bl) (pm_acons (pm_non) (pm_acons (pm_fldK (by rfl) (pm_var (pv 7)) T.cls T.na_begun) (pm_acons (pm_fldK (by rfl) (pm_var (pv 7)) T.cls T.na_made) (pm_anil)))))))) (sm_one (sm_ret (pm_tup (pm_acons (pm_bl) (pm_acons (pm_var (pv 8)) (pm_acons (pm_fldK (by rfl) (pm_var (pv 7)) T.cls T.na_begun) (pm_acons (pm_fldK (by rfl) (pm_var (pv 7)) T.cls T.na_made) (pm_anil)))))))))))))))
theorem sc_law_take : FnScope (slo .law_take) (prs .law_take) (defScope (st .law_take)) := ⟨rfl, rfl, rfl, by decide +kernel, rfl, by decide +kernel, by decide +kernel⟩
theorem ok_law_take {P : Program} {w : World} {mg : Str → Option Value} {base : Heap} {g : Gd} {ad : Fn → Addr} {fd : Fn → FuncData} {k : Nat} {S : SemT} (T : Txt g mg ad fd) (hk : 2 ≤ k) (hS : ∀ n, FnOk P w g.K mg base (L2.CX P w) k (ad n) (fd n) (prs n) (spU g (ari n) (S n))) :
    FnOk P w g.K mg base (L2.CX P w) (k + 1) (ad .law_take) (fd .law_take) (prs .law_take) (spU g 1 (runC 1 (m_law_take S))) := by
  have SC := sc_law_take
  refine def_clean (T.fn .law_take) SC rfl rfl fun ex cdv A outer s H E hr C => ?_
  unfold m_law_take
  exact sm_seq (sm_stoL (ps_asg (pm_op (ou_add C) (pm_ix C (pm_var (pv 0)) (pm_int) (fun _ _ => rfl)) (pm_int)) (pg_sub (pm_var (pv 0)) (pm_int) set_list))) (sm_seq (sm_if (pm_cmpT (ou_gt) (pm_ix C (pm_var (pv 0)) (pm_int) (fun _ _ => rfl)) (pm_callB (cu_len C) (by rfl) T.b_len (by rfl) (pm_acons (pm_ix C (pm_var (pv 0)) (pm_int) (fun _ _ => rfl)) (pm_anil))) (by rfl)) (sm_one (sm_ret (pm_int))) (sm_nil)) (sm_one (sm_ret (pm_op (ou_mod) (pm_ix C (pm_ix C (pm_var (pv 0)) (pm_int) (fun _ _ => rfl)) (pm_op (ou_sub) (pm_ix C (pm_var (pv 0)) (pm_int) (fun _ _ => rfl)) (pm_int)) (fun _ _ => rfl)) (pm_op (ou_pow) (pm_int) (pm_int))))))
theorem sc_law_body : FnScope (slo .law_body) (prs .law_body) (defScope (st .law_body)) := ⟨rfl, rfl, rfl, by decide +kernel, rfl, by decide +kernel, by decide +kernel⟩
theorem ok_law_body {P : Program} {w : World} {mg : Str → Option Value} {base : Heap} {g : Gd} {ad : Fn → Addr} {fd : Fn → FuncData} {k : Nat} {S : SemT} (T : Txt g mg ad fd) (hk : 2 ≤ k) (hS : ∀ n, FnOk P w g.K mg base (L2.CX P w) k (ad n) (fd n) (prs n) (spU g (ari n) (S n))) :
    FnOk P w g.K mg base (L2.CX P w) (k + 1) (ad .law_body) (fd .law_body) (prs .law_body) (spU g 4 (runC 18 (m_law_body S))) := by
  have SC := sc_law_body
  refine def_clean (T.fn .law_body) SC rfl rfl fun ex cdv A outer s H E hr C => ?_
  unfold m_law_body
  exact sm_seq (sm_set (ps_set (i := 4) SC.nd rfl (by first | exact Or.inl rfl | exact Or.inr rfl) (pm_def C (hS .law_take) hr (by rfl) (T.mf .law_take rfl) (T.fn .law_take).kp (T.bd .law_take) (pm_acons (pm_var (pv 0)) (pm_anil))))) (sm_seq (sm_set (ps_set (i := 5) SC.nd rfl (by first | exact Or.inl rfl | exact Or.inr rfl) (pm_op (ou_mul) (pm_op (ou_mod) (pm_var (pv 4)) (pm_int)) (pm_callTy (cu_int) (by rfl) T.b_int (by rfl) (pm_acons (pm_cmp (ou_lt) (pm_var (pv 2)) (pm_int) (by rfl)) (pm_anil)))))) (sm_seq (sm_set (ps_set (i := 4) SC.nd rfl (by first | exact Or.inl rfl | exact Or.inr rfl) (pm_op (ou_div) (pm_var (pv 4)) (pm_int)))) (sm_seq (sm_set (ps_set (i := 6) SC.nd rfl (by first | exact Or.inl rfl | exact Or.inr rfl) (pm_sl C (pm_ix C (pm_var (pv 0)) (pm_int) (fun _ _ => rfl)) (pm_osome (pm_callB (cu_len C) (by rfl) T.b_len (by rfl) (pm_acons (pm_var (pv 1)) (pm_anil)))) (pm_onone)))) (sm_seq (sm_if (pm_cmpT (ou_eq C) (pm_var (pv 5)) (pm_int) (by rfl)) (sm_seq (sm_set (ps_set (i := 14) SC.nd rfl (by first | exact Or.inl rfl | exact Or.inr rfl) (pm_ix C (pm_lst (pm_acons (pm_str) (pm_acons (pm_str) (pm_acons (pm_str) (pm_anil))))) (pm_op (ou_mod) (pm_var (pv 4)) (pm_int)) (fun _ _ => rfl)))) (sm_seq (sm_set (ps_set (i := 15) SC.nd rfl (by first | exact Or.inl rfl | exact Or.inr rfl) (pm_def C (hS .law_expression) hr (by rfl) (T.mf .law_expression rfl) (T.fn .law_expression).kp (T.bd .law_expression) (pm_acons (pm_var (pv 0)) (pm_acons (pm_var (pv 1)) (pm_acons (pm_int) (pm_acons (pm_var (pv 14)) (pm_anil)))))))) (sm_one (sm_ret (pm_tup (pm_acons (pm_str) (pm_acons (pm_ix C (pm_var (pv 6)) (pm_int) (fun _ _ => rfl)) (pm_acons (pm_var (pv 15)) (pm_acons (pm_def C (hS .law_body) hr (by rfl) (T.mf .law_body rfl) (T.fn .law_body).kp (T.bd .law_body) (pm_acons (pm_var (pv 0)) (pm_acons (pm_op (ou_add C) (pm_var (pv 1)) (pm_lst (pm_acons (pm_tup (pm_acons (pm_ix C (pm_var (pv 6)) (pm_int) (fun _ _ => rfl)) (pm_acons (pm_var (pv 14)) (pm_anil)))) (pm_anil)))) (pm_acons (pm_op (ou_add C) (pm_var (pv 2)) (pm_int)) (pm_acons (pm_var (pv 3)) (pm_anil)))))) (pm_anil)))))))))) (sm_nil)) (sm_seq (sm_if (pm_cmpT (ou_eq C) (pm_var (pv 5)) (pm_int) (by rfl)) (sm_seq (sm_set (ps_set (i := 15) SC.nd rfl (by first | exact Or.inl rfl | exact Or.inr rfl) (pm_def C (hS .law_expression) hr (by rfl) (T.mf .law_expression rfl) (T.fn .law_expression).kp (T.bd .law_expression) (pm_acons (pm_var (pv 0)) (pm_acons (pm_var (pv 1)) (pm_acons (pm_int) (pm_acons (pm_str) (pm_anil)))))))) (sm_seq (sm_set (ps_set (i := 13) SC.nd rfl (by first | exact Or.inl rfl | exact Or.inr rfl) (pm_def C (hS .law_expression) hr (by rfl) (T.mf .law_expression rfl) (T.fn .law_expression).kp (T.bd .law_expression) (pm_acons (pm_var (pv 0)) (pm_acons (pm_var (pv 1)) (pm_acons (pm_int) (pm_acons (pm_str) (pm_anil)))))))) (sm_seq (sm_set (ps_set (i := 12) SC.nd rfl (by first | exact Or.inl rfl | exact Or.inr rfl) (pm_def C (hS .law_body) hr (by rfl) (T.mf .law_body rfl) (T.fn .law_body).kp (T.bd .law_body) (pm_acons (pm_var (pv 0)) (pm_acons (pm_var (pv 1)) (pm_acons (pm_op (ou_add C) (pm_var (pv 2)) (pm_int)) (pm_acons (pm_var (pv 3)) (pm_anil)))))))) (sm_one (sm_ret (pm_tup (pm_acons (pm_str) (pm_acons (pm_var (pv 15)) (pm_acons (pm_var (pv 13)) (pm_acons (pm_var (pv 12)) (pm_acons (pm_def C (hS .law_body) hr (by rfl) (T.mf .law_body rfl) (T.fn .law_body).kp (T.bd .law_body) (pm_acons (pm_var (pv 0)) (pm_acons (pm_var (pv 1)) (pm_acons (pm_op (ou_add C) (pm_var (pv 2)) (pm_int)) (pm_acons (pm_var (pv 3)) (pm_anil)))))) (pm_anil)))))))))))) (sm_nil)) (sm_seq (sm_setLc (i := 7) C rfl rfl (takes_of rfl rfl rfl rfl) rfl rfl (sw_true rfl rfl rfl rfl) (im_seq C (pm_var (pv 1))) (own := [(("_law_name" : Str), 16), (("_law_kind" : Str), 14)]) (blkOk_by (by rfl)) (fun s H Ca cl fp xe => by exact pg_tup rfl (pgs_cons (pg_name (i := 16) SC.nd rfl (by first | exact Or.inl rfl | exact Or.inr rfl)) (pgs_cons (pg_name (i := 14) SC.nd rfl (by first | exact Or.inl rfl | exact Or.inr rfl)) (pgs_nil)))) (gg := gTup g.K 2 (gM [16, 14])) (ix := [16, 14]) (fun ex => gu_tup (is := [16, 14])) (by decide) (BTs.one (fun ex s H Ca cl fp xe C => pm_cmpT (ou_ne C) (pm_var (pv 14)) (pm_str) (by rfl))) (fun ex s H Ca cl fp xe C => pm_tup (pm_acons (pm_var (pv 16)) (pm_acons (pm_var (pv 14)) (pm_anil))))) (sm_seq (sm_if ((pw_orM (pm_cmpT (ou_in C) (pm_var (pv 5)) (pm_tup (pm_acons (pm_int) (pm_acons (pm_int) (pm_anil)))) (by rfl)) (pw_or1M (pm_cmpT (ou_eq C) (pm_callB (cu_len C) (by rfl) T.b_len (by rfl) (pm_acons (pm_var (pv 7)) (pm_anil))) (pm_int) (by rfl)))).pt) (sm_one (sm_ret (pm_tup (pm_acons (pm_str) (pm_acons (pm_def C (hS .law_expression) hr (by rfl) (T.mf .law_expression rfl) (T.fn .law_expression).kp (T.bd .law_expression) (pm_acons (pm_var (pv 0)) (pm_acons (pm_var (pv 1)) (pm_acons (pm_int) (pm_acons (pm_var (pv 3)) (pm_anil)))))) (pm_anil)))))) (sm_nil)) (sm_seq (sm_asg (tg := .Name "" ⟨0, 0, 0, 0⟩) (ps_asg (pm_ix C (pm_var (pv 7)) (pm_op (ou_mod) (pm_var (pv 4)) (pm_callB (cu_len C) (by rfl) T.b_len (by rfl) (pm_acons (pm_var (pv 7)) (pm_anil)))) (fun _ _ => rfl)) (pg_tup rfl (pgs_cons (pg_name (i := 8) SC.nd rfl (by first | exact Or.inl rfl | exact Or.inr rfl)) (pgs_cons (pg_name (i := 9) SC.nd rfl (by first | exact Or.inl rfl | exact Or.inr rfl)) (pgs_nil))))) (gu_tup (is := [8, 9]))) (sm_seq (sm_set (ps_set (i := 10) SC.nd rfl (by first | exact Or.inl rfl | exact Or.inr rfl) (pm_dispget C (dps_cons (pm_lst (pm_acons (pm_str) (pm_acons (pm_str) (pm_anil)))) (dps_cons (pm_lst (pm_acons (pm_str) (pm_acons (pm_str) (pm_acons (pm_str) (pm_anil))))) (dps_nil))) (pm_var (pv 9))))) (sm_seq (sm_setLc (i := 11) C rfl rfl (takes_of rfl rfl rfl rfl) rfl rfl (sw_true rfl rfl rfl rfl) (im_range (by rfl) T.b_range (pm_callB (cu_len C) (by rfl) T.b_len (by rfl) (pm_acons (pm_var (pv 10)) (pm_anil)))) (own := [(("_law_k" : Str), 17)]) (blkOk_by (by rfl)) (fun s H Ca cl fp xe => by exact pg_name (i := 17) SC.nd rfl (by first | exact Or.inl rfl | exact Or.inr rfl)) (gg := gName 17) (ix := [17]) (fun ex => gu_name) (by decide) (BTs.nil) (fun ex s H Ca cl fp xe C => pm_tup (pm_acons (pm_ix C (pm_var (pv 6)) (pm_var (pv 17)) (fun _ _ => rfl)) (pm_acons (pm_ix C (pm_var (pv 10)) (pm_var (pv 17)) (fun _ _ => rfl)) (pm_anil))))) (sm_seq (sm_set (ps_set (i := 12) SC.nd rfl (by first | exact Or.inl rfl | exact Or.inr rfl) (pm_def C (hS .law_body) hr (by rfl) (T.mf .law_body rfl) (T.fn .law_body).kp (T.bd .law_body) (pm_acons (pm_var (pv 0)) (pm_acons (pm_var (pv 1)) (pm_acons (pm_op (ou_add C) (pm_var (pv 2)) (pm_int)) (pm_acons (pm_var (pv 3)) (pm_anil)))))))) (sm_seq (sm_set (ps_set (i := 13) SC.nd rfl (by first | exact Or.inl rfl | exact Or.inr rfl) (pm_def C (hS .law_body) hr (by rfl) (T.mf .law_body rfl) (T.fn .law_body).kp (T.bd .law_body) (pm_acons (pm_var (pv 0)) (pm_acons (pm_op (ou_add C) (pm_var (pv 1)) (pm_var (pv 11))) (pm_acons (pm_op (ou_add C) (pm_var (pv 2)) (pm_int)) (pm_acons (pm_var (pv 3)) (pm_anil)))))))) (sm_one (sm_ret (pm_op (ou_add C) (pm_op (ou_add C) (pm_tup (pm_acons (pm_var (pv 9)) (pm_acons (pm_var (pv 8)) (pm_acons (pm_var (pv 12)) (pm_anil))))) (pm_callTy (cu_tuple C) (by rfl) T.b_tuple (by rfl) (pm_acons (pm_lc C rfl rfl (takes_of rfl rfl rfl rfl) (im_seq C (pm_var (pv 11))) (own := [(("_law_name" : Str), 16), (("_law_kind" : Str), 14)]) (blkOk_by (by rfl)) (fun s H Ca cl fp xe => by exact pg_tup rfl (pgs_cons (pg_name (i := 16) SC.nd rfl (by first | exact Or.inl rfl | exact Or.inr rfl)) (pgs_cons (pg_name (i := 14) SC.nd rfl (by first | exact Or.inl rfl | exact Or.inr rfl)) (pgs_nil)))) (gg := gTup g.K 2 (gM [16, 14])) (ix := [16, 14]) (fun ex => gu_tup (is := [16, 14])) (by decide) (BTs.nil) (fun ex s H Ca cl fp xe C => pm_var (pv 16))) (pm_anil)))) (pm_tup (pm_acons (pm_var (pv 13)) (pm_anil))))))))))))))))))
theorem sc_law_made : FnScope (slo .law_made) (prs .law_made) (defScope (st .law_made)) := ⟨rfl, rfl, rfl, by decide +kernel, rfl, by decide +kernel, by decide +kernel⟩
theorem ok_law_made {P : Program} {w : World} {mg : Str → Option Value} {base : Heap} {g : Gd} {ad : Fn → Addr} {fd : Fn → FuncData} {k : Nat} {S : SemT} (T : Txt g mg ad fd) (hk : 2 ≤ k) (hS : ∀ n, FnOk P w g.K mg base (L2.CX P w) k (ad n) (fd n) (prs n) (spU g (ari n) (S n))) :
    FnOk P w g.K mg base (L2.CX P w) (k + 1) (ad .law_made) (fd .law_made) (prs .law_made) (spU g 3 (runC 4 (m_law_made S))) := by
  have SC := sc_law_made
  refine def_clean (T.fn .law_made) SC rfl rfl fun ex cdv A outer s H E hr C => ?_
  unfold m_law_made
  exact sm_seq (sm_if (pm_val (pm_ix C (pm_var (pv 0)) (pm_int) (fun _ _ => rfl))) (sm_one (sm_ret (pm_non))) (sm_nil)) (sm_seq (sm_if (pm_cmpT (ou_in C) (pm_var (pv 1)) (pm_tup (pm_acons (pm_str) (pm_acons (pm_str) (pm_anil)))) (by rfl)) (sm_seq (sm_expr (ps_expr (pm_append C (pm_ix C (pm_var (pv 0)) (pm_int) (fun _ _ => rfl)) (pm_acons (pm_str) (pm_anil))))) (sm_one (sm_ret (pm_op (ou_add C) (pm_ix C (pm_var (pv 2)) (pm_int) (fun _ _ => rfl)) (pm_op (ou_mul) (pm_ix C (pm_var (pv 2)) (pm_int) (fun _ _ => rfl)) (pm_op (ou_sub) (pm_int) (pm_op (ou_mul) (pm_int) (pm_callTy (cu_int) (by rfl) T.b_int (by rfl) (pm_acons (pm_cmp (ou_eq C) (pm_var (pv 1)) (pm_str) (by rfl)) (pm_anil)))))))))) (sm_nil)) (sm_seq (sm_if (pm_cmpT (ou_eq C) (pm_var (pv 1)) (pm_str) (by rfl)) (sm_one (sm_set (ps_set (i := 3) SC.nd rfl (by first | exact Or.inl rfl | exact Or.inr rfl) (pm_op (ou_add C) (pm_tup (pm_acons (pm_ix C (pm_var (pv 2)) (pm_int) (fun _ _ => rfl)) (pm_anil))) (pm_ix C (pm_var (pv 2)) (pm_int) (fun _ _ => rfl)))))) (sm_one (sm_set (ps_set (i := 3) SC.nd rfl (by first | exact Or.inl rfl | exact Or.inr rfl) (pm_tup (pm_acons (pm_ix C (pm_var (pv 2)) (pm_int) (fun _ _ => rfl)) (pm_acons (pm_ix C (pm_var (pv 2)) (pm_int) (fun _ _ => rfl)) (pm_acons (pm_ix C (pm_var (pv 2)) (pm_int) (fun _ _ => rfl)) (pm_anil))))))))) (sm_seq (sm_if (pm_cmpT (ou_gt) (pm_def C (hS .law_size) hr (by rfl) (T.mf .law_size rfl) (T.fn .law_size).kp (T.bd .law_size) (pm_acons (pm_ix C (pm_lst (pm_acons (pm_str) (pm_acons (pm_str) (pm_anil)))) (pm_callTy (cu_int) (by rfl) T.b_int (by rfl) (pm_acons (pm_cmp (ou_eq C) (pm_var (pv 1)) (pm_str) (by rfl)) (pm_anil))) (fun _ _ => rfl)) (pm_acons (pm_var (pv 3)) (pm_anil)))) (pm_int) (by rfl)) (sm_seq (sm_expr (ps_expr (pm_append C (pm_ix C (pm_var (pv 0)) (pm_int) (fun _ _ => rfl)) (pm_acons (pm_str) (pm_anil))))) (sm_seq (sm_stoL (ps_asg (pm_bl) (pg_sub (pm_var (pv 0)) (pm_int) set_list))) (sm_one (sm_ret (pm_non))))) (sm_nil)) (sm_seq (sm_expr (ps_expr (pm_append C (pm_ix C (pm_var (pv 0)) (pm_int) (fun _ _ => rfl)) (pm_acons (pm_str) (pm_anil))))) (sm_one (sm_ret (pm_var (pv 3))))))))
theorem sc_law_events : FnScope (slo .law_events) (prs .law_events) (defScope (st .law_events)) := ⟨rfl, rfl, rfl, by decide +kernel, rfl, by decide +kernel, by decide +kernel⟩
theorem ok_law_events {P : Program} {w : World} {mg : Str → Option Value} {base : Heap} {g : Gd} {ad : Fn → Addr} {fd : Fn → FuncData} {k : Nat} {S : SemT} (T : Txt g mg ad fd) (hk : 2 ≤ k) (hS : ∀ n, FnOk P w g.K mg base (L2.CX P w) k (ad n) (fd n) (prs n) (spU g (ari n) (S n))) :
    FnOk P w g.K mg base (L2.CX P w) (k + 1) (ad .law_events) (fd .law_events) (prs .law_events) (spU g 2 (runC 7 (m_law_events S))) := by
  have SC := sc_law_events
  refine def_clean (T.fn .law_events) SC rfl rfl fun ex cdv A outer s H E hr C => ?_
  unfold m_law_events
  exact sm_seq (sm_setLc (i := 2) C rfl rfl (takes_of rfl rfl rfl rfl) rfl rfl (sw_true rfl rfl rfl rfl) (im_seq C (pm_var (pv 0))) (own := [(("_law_call" : Str), 6)]) (blkOk_by (by rfl)) (fun s H Ca cl fp xe => by exact pg_name (i := 6) SC.nd rfl (by first | exact Or.inl rfl | exact Or.inr rfl)) (gg := gName 6) (ix := [6]) (fun ex => gu_name) (by decide) (BTs.nil) (fun ex s H Ca cl fp xe C => pm_new (pm_anil))) (sm_seq (sm_set (ps_set (i := 3) SC.nd rfl (by first | exact Or.inl rfl | exact Or.inr rfl) (pm_int))) (sm_seq (sm_for (N := NN) (passes_of rfl) C (im_seq C (pm_var (pv 1))) (pg_tup rfl (pgs_cons (pg_name (i := 4) SC.nd rfl (by first | exact Or.inl rfl | exact Or.inr rfl)) (pgs_cons (pg_name (i := 5) SC.nd rfl (by first | exact Or.inl rfl | exact Or.inr rfl)) (pgs_nil)))) (gu_tup (is := [4, 5])) (sm_one (sm_if (pm_cmpT (ou_ne C) (pm_var (pv 5)) (pm_str) (by rfl)) (sm_one (sm_expr (ps_expr (pm_append C (pm_ix C (pm_var (pv 2)) (pm_var (pv 4)) (fun _ _ => rfl)) (pm_acons (pm_var (pv 5)) (pm_anil)))))) (sm_one (sm_if (pm_cmpT (ou_ne C) (pm_var (pv 4)) (pm_var (pv 3)) (by rfl)) (sm_one (sm_ret (pm_non))) (sm_seq (sm_set (ps_set (i := 3) SC.nd rfl (by first | exact Or.inl rfl | exact Or.inr rfl) (pm_op (ou_add C) (pm_var (pv 3)) (pm_int)))) (sm_one (sm_if (pm_cmpT (ou_gt) (pm_var (pv 4)) (pm_int) (by rfl)) (sm_one (sm_expr (ps_expr (pm_append C (pm_ix C (pm_var (pv 2)) (pm_ix C (pm_ix C (pm_var (pv 0)) (pm_var (pv 4)) (fun _ _ => rfl)) (pm_int) (fun _ _ => rfl)) (fun _ _ => rfl)) (pm_acons (pm_tup (pm_acons (pm_ix C (pm_ix C (pm_var (pv 0)) (pm_var (pv 4)) (fun _ _ => rfl)) (pm_int) (fun _ _ => rfl)) (pm_acons (pm_ix C (pm_ix C (pm_var (pv 0)) (pm_var (pv 4)) (fun _ _ => rfl)) (pm_int) (fun _ _ => rfl)) (pm_anil)))) (pm_anil)))))) (sm_nil))))))))) (sm_seq (sm_if (pm_cmpT (ou_ne C) (pm_var (pv 3)) (pm_callB (cu_len C) (by rfl) T.b_len (by rfl) (pm_acons (pm_var (pv 0)) (pm_anil))) (by rfl)) (sm_one (sm_ret (pm_non))) (sm_nil)) (sm_one (sm_ret (pm_var (pv 2)))))))
theorem sc_law : FnScope (slo .law) (prs .law) (defScope (st .law)) := ⟨rfl, rfl, rfl, by decide +kernel, rfl, by decide +kernel, by decide +kernel⟩
theorem ok_law {P : Program} {w : World} {mg : Str → Option Value} {base : Heap} {g : Gd} {ad : Fn → Addr} {fd : Fn → FuncData} {k : Nat} {S : SemT} (T : Txt g mg ad fd) (hk : 2 ≤ k) (hS : ∀ n, FnOk P w g.K mg base (L2.CX P w) k (ad n) (fd n) (prs n) (spU g (ari n) (S n))) :
    FnOk P w g.K mg base (L2.CX P w) (k + 1) (ad .law) (fd .law) (prs .law) (spU g 1 (runC 13 (m_law S))) := by
  have SC := sc_law
  refine def_clean (T.fn .law) SC rfl rfl fun ex cdv A outer s H E hr C => ?_
  unfold m_law
  exact sm_seq (sm_set (ps_set (i := 1) SC.nd rfl (by first | exact Or.inl rfl | exact Or.inr rfl) (pm_def C (hS .law_program) hr (by rfl) (T.mf .law_program rfl) (T.fn .law_program).kp (T.bd .law_program) (pm_acons (pm_var (pv 0)) (pm_anil))))) (sm_seq (sm_set (ps_set (i := 2) SC.nd rfl (by first | exact Or.inl rfl | exact Or.inr rfl) (pm_op (ou_mod) (pm_def C (hS .law_cell_at) hr (by rfl) (T.mf .law_cell_at rfl) (T.fn .law_cell_at).kp (T.bd .law_cell_at) (pm_acons (pm_var (pv 0)) (pm_acons (pm_int) (pm_anil)))) (pm_op (ou_pow) (pm_int) (pm_int))))) (sm_seq (sm_set (ps_set (i := 3) SC.nd rfl (by first | exact Or.inl rfl | exact Or.inr rfl) (pm_ix C (pm_var (pv 1)) (pm_op (ou_mod) (pm_op (ou_div) (pm_var (pv 2)) (pm_int)) (pm_callB (cu_len C) (by rfl) T.b_len (by rfl) (pm_acons (pm_var (pv 1)) (pm_anil)))) (fun _ _ => rfl)))) (sm_seq (sm_set (ps_set (i := 4) SC.nd rfl (by first | exact Or.inl rfl | exact Or.inr rfl) (pm_def C (hS .law_args) hr (by rfl) (T.mf .law_args rfl) (T.fn .law_args).kp (T.bd .law_args) (pm_acons (pm_var (pv 3)) (pm_acons (pm_op (ou_add C) (pm_sl C (pm_var (pv 0)) (pm_osome (pm_int)) (pm_onone)) (pm_sl C (pm_var (pv 0)) (pm_osome (pm_int)) (pm_osome (pm_int)))) (pm_anil)))))) (sm_seq (sm_set (ps_set (i := 5) SC.nd rfl (by first | exact Or.inl rfl | exact Or.inr rfl) (pm_op (ou_add C) (pm_int) (pm_op (ou_mod) (pm_op (ou_div) (pm_var (pv 2)) (pm_int)) (pm_int))))) (sm_seq (sm_if (pm_cmpT (ou_eq C) (pm_op (ou_mod) (pm_op (ou_div) (pm_var (pv 2)) (pm_int)) (pm_int)) (pm_int) (by rfl)) (sm_one (sm_set (ps_set (i := 5) SC.nd rfl (by first | exact Or.inl rfl | exact Or.inr rfl) (pm_op (ou_mod) (pm_op (ou_div) (pm_var (pv 2)) (pm_int)) (pm_int))))) (sm_nil)) (sm_seq (sm_set (ps_set (i := 6) SC.nd rfl (by first | exact Or.inl rfl | exact Or.inr rfl) (pm_callTy (cu_list C) (by rfl) T.b_list (by rfl) (pm_acons (pm_var (pv 4)) (pm_anil))))) (sm_seq (sm_set (ps_set (i := 7) SC.nd rfl (by first | exact Or.inl rfl | exact Or.inr rfl) (pm_def C (hS .trace) hr (by rfl) (T.mf .trace rfl) (T.fn .trace).kp (T.bd .trace) (pm_acons (pm_var (pv 1)) (pm_acons (pm_ix C (pm_var (pv 3)) (pm_int) (fun _ _ => rfl)) (pm_acons (pm_var (pv 6)) (pm_acons (pm_var (pv 5)) (pm_anil)))))))) (sm_seq (sm_if ((pw_orM (pm_not (pm_val (pm_def C (hS .law_told) hr (by rfl) (T.mf .law_told rfl) (T.fn .law_told).kp (T.bd .law_told) (pm_acons (pm_var (pv 1)) (pm_acons (pm_var (pv 7)) (pm_acons (pm_var (pv 5)) (pm_anil))))))) (pw_or1M (pm_cmpT (ou_ne C) (pm_var (pv 6)) (pm_var (pv 4)) (by rfl)))).pt) (sm_one (sm_ret (pm_bl))) (sm_nil)) (sm_seq (sm_asg (tg := .Name "" ⟨0, 0, 0, 0⟩) (ps_asg (pm_var (pv 7)) (pg_tup rfl (pgs_cons (pg_name (i := 8) SC.nd rfl (by first | exact Or.inl rfl | exact Or.inr rfl)) (pgs_cons (pg_name (i := 9) SC.nd rfl (by first | exact Or.inl rfl | exact Or.inr rfl)) (pgs_cons (pg_name (i := 10) SC.nd rfl (by first | exact Or.inl rfl | exact Or.inr rfl)) (pgs_cons (pg_name (i := 11) SC.nd rfl (by first | exact Or.inl rfl | exact Or.inr rfl)) (pgs_nil))))))) (gu_tup (is := [8, 9, 10, 11]))) (sm_seq (sm_if (pm_cmpT (ou_eq C) (pm_callB (cu_len C) (by rfl) T.b_len (by rfl) (pm_acons (pm_var (pv 10)) (pm_anil))) (pm_int) (by rfl)) (sm_one (sm_ret (pm_andV (pm_cmp (ou_eq C) (pm_var (pv 5)) (pm_int) (by rfl)) (pm_andV (pm_notV (pm_var (pv 8))) (pm_andV (pm_cmp (ou_isN) (pm_var (pv 9)) (pm_non) (by rfl)) (pm_oneV (pm_cmp (ou_eq C) (pm_var (pv 11)) (pm_lst (pm_anil)) (by rfl)))))))) (sm_nil)) (sm_seq (sm_if (pm_cmpT (ou_ne C) (pm_ix C (pm_var (pv 10)) (pm_int) (fun _ _ => rfl)) (pm_tup (pm_acons (pm_ix C (pm_var (pv 3)) (pm_int) (fun _ _ => rfl)) (pm_acons (pm_callTy (cu_tuple C) (by rfl) T.b_tuple (by rfl) (pm_acons (pm_var (pv 4)) (pm_anil))) (pm_acons (pm_non) (pm_acons (pm_var (pv 8)) (pm_acons (pm_var (pv 9)) (pm_anil))))))) (by rfl)) (sm_one (sm_ret (pm_bl))) (sm_nil)) (sm_seq (sm_if (pm_not (pm_val (pm_def C (hS .law_walked) hr (by rfl) (T.mf .law_walked rfl) (T.fn .law_walked).kp (T.bd .law_walked) (pm_acons (pm_var (pv 1)) (pm_acons (pm_var (pv 10)) (pm_acons (pm_var (pv 11)) (pm_acons (pm_var (pv 5)) (pm_anil)))))))) (sm_one (sm_ret (pm_bl))) (sm_nil)) (sm_seq (sm_set (ps_set (i := 12) SC.nd rfl (by first | exact Or.inl rfl | exact Or.inr rfl) (pm_tup (pm_acons (pm_var (pv 8)) (pm_acons (pm_var (pv 9)) (pm_acons (pm_callTy (cu_list C) (by rfl) T.b_list (by rfl) (pm_acons (pm_var (pv 10)) (pm_anil))) (pm_acons (pm_callTy (cu_list C) (by rfl) T.b_list (by rfl) (pm_acons (pm_var (pv 11)) (pm_anil))) (pm_anil)))))))) (sm_seq (sm_expr (ps_expr (pm_append C (pm_var (pv 10)) (pm_acons (pm_non) (pm_anil))))) (sm_seq (sm_expr (ps_expr (pm_clear C (pm_var (pv 11))))) (sm_one (sm_ret (pm_cmp (ou_eq C) (pm_def C (hS .trace) hr (by rfl) (T.mf .trace rfl) (T.fn .trace).kp (T.bd .trace) (pm_acons (pm_var (pv 1)) (pm_acons (pm_ix C (pm_var (pv 3)) (pm_int) (fun _ _ => rfl)) (pm_acons (pm_var (pv 6)) (pm_acons (pm_var (pv 5)) (pm_anil)))))) (pm_var (pv 12)) (by rfl)))))))))))))))))))
end Wk
set_option maxRecDepth 100000
set_option maxHeartbeats 4000000

/-! Td: the derivations. Printed by gen.py. -/
namespace Wk
open PySem PySem.Spec PyProof.Rows L2

theorem ok_all {P : Program} {w : World} {mg : Str → Option Value} {base : Heap} {g : Gd} {ad : Fn → Addr} {fd : Fn → FuncData} (T : Txt g mg ad fd) : ∀ (k : Nat) (n : Fn), FnOk P w g.K mg base (L2.CX P w) (k + 2) (ad n) (fd n) (prs n) (spU g (ari n) (sem k n))
  | 0, n => def_bad rfl
  | k + 1, n => by
    have hS := ok_all (P := P) (w := w) (base := base) T k
    cases n with
    | is_whole => exact ok_is_whole T (by omega) hS
    | is_row => exact ok_is_row T (by omega) hS
    | is_tree => exact ok_is_tree T (by omega) hS
    | fits => exact ok_fits T (by omega) hS
    | size_of => exact ok_size_of T (by omega) hS
    | log_init => exact (ok_log_init T).mono (by omega)
    | log_step => exact ok_log_step T (by omega) hS
    | log_begin => exact ok_log_begin T (by omega) hS
    | log_end => exact ok_log_end T (by omega) hS
    | function_of => exact ok_function_of T (by omega) hS
    | made_of => exact ok_made_of T (by omega) hS
    | value_by => exact ok_value_by T (by omega) hS
    | open_body => exact ok_open_body T (by omega) hS
    | body_value => exact ok_body_value T (by omega) hS
    | call_value => exact ok_call_value T (by omega) hS
    | trace => exact ok_trace T (by omega) hS
    | law_cell_at => exact ok_law_cell_at T (by omega) hS
    | law_number => exact ok_law_number T (by omega) hS
    | law_names => exact ok_law_names T (by omega) hS
    | law_putting => exact ok_law_putting T (by omega) hS
    | law_head => exact ok_law_head T (by omega) hS
    | law_take => exact ok_law_take T (by omega) hS
    | law_expression => exact ok_law_expression T (by omega) hS
    | law_body => exact ok_law_body T (by omega) hS
    | law_program => exact ok_law_program T (by omega) hS
    | law_tree => exact ok_law_tree T (by omega) hS
    | law_args => exact ok_law_args T (by omega) hS
    | law_whole => exact ok_law_whole T (by omega) hS
    | law_size => exact ok_law_size T (by omega) hS
    | law_one => exact ok_law_one T (by omega) hS
    | law_call_told => exact ok_law_call_told T (by omega) hS
    | law_told => exact ok_law_told T (by omega) hS
    | law_child => exact ok_law_child T (by omega) hS
    | law_made => exact ok_law_made T (by omega) hS
    | law_value => exact ok_law_value T (by omega) hS
    | law_opened => exact ok_law_opened T (by omega) hS
    | law_given => exact ok_law_given T (by omega) hS
    | law_events => exact ok_law_events T (by omega) hS
    | law_in_order => exact ok_law_in_order T (by omega) hS
    | law_call_holds => exact ok_law_call_holds T (by omega) hS
    | law_walked => exact ok_law_walked T (by omega) hS
    | law => exact ok_law T (by omega) hS
end Wk
set_option maxRecDepth 100000
set_option maxHeartbeats 4000000

/-! Te: the derivations. Printed by gen.py. -/
namespace Wk
open PySem PySem.Spec PyProof.Rows L2

/-- an exception of the class at S is what 'except S' names -/
theorem exm_self {K : PySem.W.Frag} {S : Addr} (h1 : PySem.W.subIn K (.ref S) (.type "BaseException") = some true) (h2 : PySem.W.isClsIn K S = true) (h3 : PySem.W.typeIn K (.ref S) = some (.type "type")) (h4 : PySem.W.subIn K (.ref S) (.ref S) = some true) :
    PySem.W.exmOne K (.ref S) (.ref S) = some true := by
  have e1 : (PySem.W.subIn K (.ref S) (.type "BaseException") == some true) = true := by rw [h1] <;> rfl
  have e2 : ((PySem.W.clsIn K S).isSome && PySem.W.typeIn K (.ref S) == some (.type "type")) = true := by
    have h2' : (PySem.W.clsIn K S).isSome = true := h2
    rw [h2', h3] <;> rfl
  show (if (PySem.W.subIn K (.ref S) (.type "BaseException") == some true) = true then (if ((PySem.W.clsIn K S).isSome && PySem.W.typeIn K (.ref S) == some (.type "type")) = true then PySem.W.subIn K (.ref S) (.ref S) else none) else none) = some true
  rw [if_pos e1, if_pos e2]
  exact h4
theorem all_txt {K : PySem.W.Frag} {h : Heap} {mg : Str → Option Value} (X : K.In h) (G : h.Ns mainGlobals mg)
    {CL CC T0 f0 f1 f2 f3 f4 f5 f6 f7 f8 f9 f10 f11 f12 f13 f14 f15 f16 f17 f18 f19 f20 f21 f22 f23 f24 f25 f26 f27 f28 f29 f30 f31 f32 f33 f34 f35 f36 f37 f38 f39 f40 f41 : Addr} {odT od0 an0 od1 an1 od2 an2 od3 an3 od4 an4 od5 an5 od6 an6 od7 an7 od8 an8 od9 an9 od10 an10 od11 an11 od12 an12 od13 an13 od14 an14 od15 an15 od16 an16 od17 an17 od18 an18 od19 an19 od20 an20 od21 an21 od22 an22 od23 an23 od24 an24 od25 an25 od26 an26 od27 an27 od28 an28 od29 an29 od30 an30 od31 an31 od32 an32 od33 an33 od34 an34 od35 an35 od36 an36 od37 an37 od38 an38 od39 an39 od40 an40 od41 an41 : Option Addr} {slT sl0 sl1 sl2 sl3 sl4 sl5 sl6 sl7 sl8 sl9 sl10 sl11 sl12 sl13 sl14 sl15 sl16 sl17 sl18 sl19 sl20 sl21 sl22 sl23 sl24 sl25 sl26 sl27 sl28 sl29 sl30 sl31 sl32 sl33 sl34 sl35 sl36 sl37 sl38 sl39 sl40 sl41 : Array (Option Value)} {ocT oc0 kV0 dc0 pm0 cd0 ct0 oc1 kV1 dc1 pm1 cd1 ct1 oc2 kV2 dc2 pm2 cd2 ct2 oc3 kV3 dc3 pm3 cd3 ct3 oc4 kV4 dc4 pm4 cd4 ct4 oc5 kV5 dc5 pm5 cd5 ct5 oc6 kV6 dc6 pm6 cd6 ct6 oc7 kV7 dc7 pm7 cd7 ct7 oc8 kV8 dc8 pm8 cd8 ct8 oc9 kV9 dc9 pm9 cd9 ct9 oc10 kV10 dc10 pm10 cd10 ct10 oc11 kV11 dc11 pm11 cd11 ct11 oc12 kV12 dc12 pm12 cd12 ct12 oc13 kV13 dc13 pm13 cd13 ct13 oc14 kV14 dc14 pm14 cd14 ct14 oc15 kV15 dc15 pm15 cd15 ct15 oc16 kV16 dc16 pm16 cd16 ct16 oc17 kV17 dc17 pm17 cd17 ct17 oc18 kV18 dc18 pm18 cd18 ct18 oc19 kV19 dc19 pm19 cd19 ct19 oc20 kV20 dc20 pm20 cd20 ct20 oc21 kV21 dc21 pm21 cd21 ct21 oc22 kV22 dc22 pm22 cd22 ct22 oc23 kV23 dc23 pm23 cd23 ct23 oc24 kV24 dc24 pm24 cd24 ct24 oc25 kV25 dc25 pm25 cd25 ct25 oc26 kV26 dc26 pm26 cd26 ct26 oc27 kV27 dc27 pm27 cd27 ct27 oc28 kV28 dc28 pm28 cd28 ct28 oc29 kV29 dc29 pm29 cd29 ct29 oc30 kV30 dc30 pm30 cd30 ct30 oc31 kV31 dc31 pm31 cd31 ct31 oc32 kV32 dc32 pm32 cd32 ct32 oc33 kV33 dc33 pm33 cd33 ct33 oc34 kV34 dc34 pm34 cd34 ct34 oc35 kV35 dc35 pm35 cd35 ct35 oc36 kV36 dc36 pm36 cd36 ct36 oc37 kV37 dc37 pm37 cd37 ct37 oc38 kV38 dc38 pm38 cd38 ct38 oc39 kV39 dc39 pm39 cd39 ct39 oc40 kV40 dc40 pm40 cd40 ct40 oc41 kV41 dc41 pm41 cd41 ct41 : Value} {nT : Nat} {tT tCALLS tSIZE : Tok}
    (aL : PySem.W.nsIn K mainGlobals "Log" = some (some (.ref CL)))
    (aC : PySem.W.nsIn K mainGlobals "Cut" = some (some (.ref CC)))
    (a0 : PySem.W.nsIn K mainGlobals "is_whole" = some (some (.ref f0)))
    (l0 : K.lookup f0 = some ⟨oc0, od0, .func (PySem.W.fnOf "is_whole" "is_whole" (defArgs (topS 5)) (defBody (topS 5)) (defScope (topS 5)) .none kV0 dc0 pm0 an0 cd0 ct0), sl0⟩)
    (c0 : PySem.W.codeIn K cd0 "is_whole" = true)
    (k0 : PySem.W.keepIn K (.ref f0) = true)
    (a1 : PySem.W.nsIn K mainGlobals "is_row" = some (some (.ref f1)))
    (l1 : K.lookup f1 = some ⟨oc1, od1, .func (PySem.W.fnOf "is_row" "is_row" (defArgs (topS 6)) (defBody (topS 6)) (defScope (topS 6)) .none kV1 dc1 pm1 an1 cd1 ct1), sl1⟩)
    (c1 : PySem.W.codeIn K cd1 "is_row" = true)
    (k1 : PySem.W.keepIn K (.ref f1) = true)
    (a2 : PySem.W.nsIn K mainGlobals "is_tree" = some (some (.ref f2)))
    (l2 : K.lookup f2 = some ⟨oc2, od2, .func (PySem.W.fnOf "is_tree" "is_tree" (defArgs (topS 7)) (defBody (topS 7)) (defScope (topS 7)) .none kV2 dc2 pm2 an2 cd2 ct2), sl2⟩)
    (c2 : PySem.W.codeIn K cd2 "is_tree" = true)
    (k2 : PySem.W.keepIn K (.ref f2) = true)
    (a3 : PySem.W.nsIn K mainGlobals "fits" = some (some (.ref f3)))
    (l3 : K.lookup f3 = some ⟨oc3, od3, .func (PySem.W.fnOf "fits" "fits" (defArgs (topS 8)) (defBody (topS 8)) (defScope (topS 8)) .none kV3 dc3 pm3 an3 cd3 ct3), sl3⟩)
    (c3 : PySem.W.codeIn K cd3 "fits" = true)
    (k3 : PySem.W.keepIn K (.ref f3) = true)
    (a4 : PySem.W.nsIn K mainGlobals "size_of" = some (some (.ref f4)))
    (l4 : K.lookup f4 = some ⟨oc4, od4, .func (PySem.W.fnOf "size_of" "size_of" (defArgs (topS 9)) (defBody (topS 9)) (defScope (topS 9)) .none kV4 dc4 pm4 an4 cd4 ct4), sl4⟩)
    (c4 : PySem.W.codeIn K cd4 "size_of" = true)
    (k4 : PySem.W.keepIn K (.ref f4) = true)
    (a5 : PySem.W.findIn K (.ref CL) "__init__" = some (some (.ref f5)))
    (l5 : K.lookup f5 = some ⟨oc5, od5, .func (PySem.W.fnOf "__init__" "Log.__init__" (defArgs (memS (topS 14) 0)) (defBody (memS (topS 14) 0)) (defScope (memS (topS 14) 0)) .none kV5 dc5 pm5 an5 cd5 ct5), sl5⟩)
    (c5 : PySem.W.codeIn K cd5 "Log.__init__" = true)
    (k5 : PySem.W.keepIn K (.ref f5) = true)
    (n5 : PySem.W.isFn K (.ref f5) = true)
    (a6 : PySem.W.findIn K (.ref CL) "step" = some (some (.ref f6)))
    (l6 : K.lookup f6 = some ⟨oc6, od6, .func (PySem.W.fnOf "step" "Log.step" (defArgs (memS (topS 14) 1)) (defBody (memS (topS 14) 1)) (defScope (memS (topS 14) 1)) .none kV6 dc6 pm6 an6 cd6 ct6), sl6⟩)
    (c6 : PySem.W.codeIn K cd6 "Log.step" = true)
    (k6 : PySem.W.keepIn K (.ref f6) = true)
    (n6 : PySem.W.isFn K (.ref f6) = true)
    (a7 : PySem.W.findIn K (.ref CL) "begin" = some (some (.ref f7)))
    (l7 : K.lookup f7 = some ⟨oc7, od7, .func (PySem.W.fnOf "begin" "Log.begin" (defArgs (memS (topS 14) 2)) (defBody (memS (topS 14) 2)) (defScope (memS (topS 14) 2)) .none kV7 dc7 pm7 an7 cd7 ct7), sl7⟩)
    (c7 : PySem.W.codeIn K cd7 "Log.begin" = true)
    (k7 : PySem.W.keepIn K (.ref f7) = true)
    (n7 : PySem.W.isFn K (.ref f7) = true)
    (a8 : PySem.W.findIn K (.ref CL) "end" = some (some (.ref f8)))
    (l8 : K.lookup f8 = some ⟨oc8, od8, .func (PySem.W.fnOf "end" "Log.end" (defArgs (memS (topS 14) 3)) (defBody (memS (topS 14) 3)) (defScope (memS (topS 14) 3)) .none kV8 dc8 pm8 an8 cd8 ct8), sl8⟩)
    (c8 : PySem.W.codeIn K cd8 "Log.end" = true)
    (k8 : PySem.W.keepIn K (.ref f8) = true)
    (n8 : PySem.W.isFn K (.ref f8) = true)
    (a9 : PySem.W.nsIn K mainGlobals "function_of" = some (some (.ref f9)))
    (l9 : K.lookup f9 = some ⟨oc9, od9, .func (PySem.W.fnOf "function_of" "function_of" (defArgs (topS 15)) (defBody (topS 15)) (defScope (topS 15)) .none kV9 dc9 pm9 an9 cd9 ct9), sl9⟩)
    (c9 : PySem.W.codeIn K cd9 "function_of" = true)
    (k9 : PySem.W.keepIn K (.ref f9) = true)
    (a10 : PySem.W.nsIn K mainGlobals "made_of" = some (some (.ref f10)))
    (l10 : K.lookup f10 = some ⟨oc10, od10, .func (PySem.W.fnOf "made_of" "made_of" (defArgs (topS 16)) (defBody (topS 16)) (defScope (topS 16)) .none kV10 dc10 pm10 an10 cd10 ct10), sl10⟩)
    (c10 : PySem.W.codeIn K cd10 "made_of" = true)
    (k10 : PySem.W.keepIn K (.ref f10) = true)
    (a11 : PySem.W.nsIn K mainGlobals "value_by" = some (some (.ref f11)))
    (l11 : K.lookup f11 = some ⟨oc11, od11, .func (PySem.W.fnOf "value_by" "value_by" (defArgs (topS 17)) (defBody (topS 17)) (defScope (topS 17)) .none kV11 dc11 pm11 an11 cd11 ct11), sl11⟩)
    (c11 : PySem.W.codeIn K cd11 "value_by" = true)
    (k11 : PySem.W.keepIn K (.ref f11) = true)
    (a12 : PySem.W.nsIn K mainGlobals "open_body" = some (some (.ref f12)))
    (l12 : K.lookup f12 = some ⟨oc12, od12, .func (PySem.W.fnOf "open_body" "open_body" (defArgs (topS 18)) (defBody (topS 18)) (defScope (topS 18)) .none kV12 dc12 pm12 an12 cd12 ct12), sl12⟩)
    (c12 : PySem.W.codeIn K cd12 "open_body" = true)
    (k12 : PySem.W.keepIn K (.ref f12) = true)
    (a13 : PySem.W.nsIn K mainGlobals "body_value" = some (some (.ref f13)))
    (l13 : K.lookup f13 = some ⟨oc13, od13, .func (PySem.W.fnOf "body_value" "body_value" (defArgs (topS 19)) (defBody (topS 19)) (defScope (topS 19)) .none kV13 dc13 pm13 an13 cd13 ct13), sl13⟩)
    (c13 : PySem.W.codeIn K cd13 "body_value" = true)
    (k13 : PySem.W.keepIn K (.ref f13) = true)
    (a14 : PySem.W.nsIn K mainGlobals "call_value" = some (some (.ref f14)))
    (l14 : K.lookup f14 = some ⟨oc14, od14, .func (PySem.W.fnOf "call_value" "call_value" (defArgs (topS 20)) (defBody (topS 20)) (defScope (topS 20)) .none kV14 dc14 pm14 an14 cd14 ct14), sl14⟩)
    (c14 : PySem.W.codeIn K cd14 "call_value" = true)
    (k14 : PySem.W.keepIn K (.ref f14) = true)
    (a15 : PySem.W.nsIn K mainGlobals "trace" = some (some (.ref f15)))
    (l15 : K.lookup f15 = some ⟨oc15, od15, .func (PySem.W.fnOf "trace" "trace" (defArgs (topS 21)) (defBody (topS 21)) (defScope (topS 21)) (.ref T0) kV15 dc15 pm15 an15 cd15 ct15), sl15⟩)
    (c15 : PySem.W.codeIn K cd15 "trace" = true)
    (k15 : PySem.W.keepIn K (.ref f15) = true)
    (a16 : PySem.W.nsIn K mainGlobals "_law_cell_at" = some (some (.ref f16)))
    (l16 : K.lookup f16 = some ⟨oc16, od16, .func (PySem.W.fnOf "_law_cell_at" "_law_cell_at" (defArgs (topS 23)) (defBody (topS 23)) (defScope (topS 23)) .none kV16 dc16 pm16 an16 cd16 ct16), sl16⟩)
    (c16 : PySem.W.codeIn K cd16 "_law_cell_at" = true)
    (k16 : PySem.W.keepIn K (.ref f16) = true)
    (a17 : PySem.W.nsIn K mainGlobals "_law_number" = some (some (.ref f17)))
    (l17 : K.lookup f17 = some ⟨oc17, od17, .func (PySem.W.fnOf "_law_number" "_law_number" (defArgs (topS 24)) (defBody (topS 24)) (defScope (topS 24)) .none kV17 dc17 pm17 an17 cd17 ct17), sl17⟩)
    (c17 : PySem.W.codeIn K cd17 "_law_number" = true)
    (k17 : PySem.W.keepIn K (.ref f17) = true)
    (a18 : PySem.W.nsIn K mainGlobals "_law_names" = some (some (.ref f18)))
    (l18 : K.lookup f18 = some ⟨oc18, od18, .func (PySem.W.fnOf "_law_names" "_law_names" (defArgs (topS 25)) (defBody (topS 25)) (defScope (topS 25)) .none kV18 dc18 pm18 an18 cd18 ct18), sl18⟩)
    (c18 : PySem.W.codeIn K cd18 "_law_names" = true)
    (k18 : PySem.W.keepIn K (.ref f18) = true)
    (a19 : PySem.W.nsIn K mainGlobals "_law_putting" = some (some (.ref f19)))
    (l19 : K.lookup f19 = some ⟨oc19, od19, .func (PySem.W.fnOf "_law_putting" "_law_putting" (defArgs (topS 26)) (defBody (topS 26)) (defScope (topS 26)) .none kV19 dc19 pm19 an19 cd19 ct19), sl19⟩)
    (c19 : PySem.W.codeIn K cd19 "_law_putting" = true)
    (k19 : PySem.W.keepIn K (.ref f19) = true)
    (a20 : PySem.W.nsIn K mainGlobals "_law_head" = some (some (.ref f20)))
    (l20 : K.lookup f20 = some ⟨oc20, od20, .func (PySem.W.fnOf "_law_head" "_law_head" (defArgs (topS 27)) (defBody (topS 27)) (defScope (topS 27)) .none kV20 dc20 pm20 an20 cd20 ct20), sl20⟩)
    (c20 : PySem.W.codeIn K cd20 "_law_head" = true)
    (k20 : PySem.W.keepIn K (.ref f20) = true)
    (a21 : PySem.W.nsIn K mainGlobals "_law_take" = some (some (.ref f21)))
    (l21 : K.lookup f21 = some ⟨oc21, od21, .func (PySem.W.fnOf "_law_take" "_law_take" (defArgs (topS 28)) (defBody (topS 28)) (defScope (topS 28)) .none kV21 dc21 pm21 an21 cd21 ct21), sl21⟩)
    (c21 : PySem.W.codeIn K cd21 "_law_take" = true)
    (k21 : PySem.W.keepIn K (.ref f21) = true)
    (a22 : PySem.W.nsIn K mainGlobals "_law_expression" = some (some (.ref f22)))
    (l22 : K.lookup f22 = some ⟨oc22, od22, .func (PySem.W.fnOf "_law_expression" "_law_expression" (defArgs (topS 29)) (defBody (topS 29)) (defScope (topS 29)) .none kV22 dc22 pm22 an22 cd22 ct22), sl22⟩)
    (c22 : PySem.W.codeIn K cd22 "_law_expression" = true)
    (k22 : PySem.W.keepIn K (.ref f22) = true)
    (a23 : PySem.W.nsIn K mainGlobals "_law_body" = some (some (.ref f23)))
    (l23 : K.lookup f23 = some ⟨oc23, od23, .func (PySem.W.fnOf "_law_body" "_law_body" (defArgs (topS 30)) (defBody (topS 30)) (defScope (topS 30)) .none kV23 dc23 pm23 an23 cd23 ct23), sl23⟩)
    (c23 : PySem.W.codeIn K cd23 "_law_body" = true)
    (k23 : PySem.W.keepIn K (.ref f23) = true)
    (a24 : PySem.W.nsIn K mainGlobals "_law_program" = some (some (.ref f24)))
    (l24 : K.lookup f24 = some ⟨oc24, od24, .func (PySem.W.fnOf "_law_program" "_law_program" (defArgs (topS 31)) (defBody (topS 31)) (defScope (topS 31)) .none kV24 dc24 pm24 an24 cd24 ct24), sl24⟩)
    (c24 : PySem.W.codeIn K cd24 "_law_program" = true)
    (k24 : PySem.W.keepIn K (.ref f24) = true)
    (a25 : PySem.W.nsIn K mainGlobals "_law_tree" = some (some (.ref f25)))
    (l25 : K.lookup f25 = some ⟨oc25, od25, .func (PySem.W.fnOf "_law_tree" "_law_tree" (defArgs (topS 32)) (defBody (topS 32)) (defScope (topS 32)) .none kV25 dc25 pm25 an25 cd25 ct25), sl25⟩)
    (c25 : PySem.W.codeIn K cd25 "_law_tree" = true)
    (k25 : PySem.W.keepIn K (.ref f25) = true)
    (a26 : PySem.W.nsIn K mainGlobals "_law_args" = some (some (.ref f26)))
    (l26 : K.lookup f26 = some ⟨oc26, od26, .func (PySem.W.fnOf "_law_args" "_law_args" (defArgs (topS 33)) (defBody (topS 33)) (defScope (topS 33)) .none kV26 dc26 pm26 an26 cd26 ct26), sl26⟩)
    (c26 : PySem.W.codeIn K cd26 "_law_args" = true)
    (k26 : PySem.W.keepIn K (.ref f26) = true)
    (a27 : PySem.W.nsIn K mainGlobals "_law_whole" = some (some (.ref f27)))
    (l27 : K.lookup f27 = some ⟨oc27, od27, .func (PySem.W.fnOf "_law_whole" "_law_whole" (defArgs (topS 34)) (defBody (topS 34)) (defScope (topS 34)) .none kV27 dc27 pm27 an27 cd27 ct27), sl27⟩)
    (c27 : PySem.W.codeIn K cd27 "_law_whole" = true)
    (k27 : PySem.W.keepIn K (.ref f27) = true)
    (a28 : PySem.W.nsIn K mainGlobals "_law_size" = some (some (.ref f28)))
    (l28 : K.lookup f28 = some ⟨oc28, od28, .func (PySem.W.fnOf "_law_size" "_law_size" (defArgs (topS 35)) (defBody (topS 35)) (defScope (topS 35)) .none kV28 dc28 pm28 an28 cd28 ct28), sl28⟩)
    (c28 : PySem.W.codeIn K cd28 "_law_size" = true)
    (k28 : PySem.W.keepIn K (.ref f28) = true)
    (a29 : PySem.W.nsIn K mainGlobals "_law_one" = some (some (.ref f29)))
    (l29 : K.lookup f29 = some ⟨oc29, od29, .func (PySem.W.fnOf "_law_one" "_law_one" (defArgs (topS 36)) (defBody (topS 36)) (defScope (topS 36)) .none kV29 dc29 pm29 an29 cd29 ct29), sl29⟩)
    (c29 : PySem.W.codeIn K cd29 "_law_one" = true)
    (k29 : PySem.W.keepIn K (.ref f29) = true)
    (a30 : PySem.W.nsIn K mainGlobals "_law_call_told" = some (some (.ref f30)))
    (l30 : K.lookup f30 = some ⟨oc30, od30, .func (PySem.W.fnOf "_law_call_told" "_law_call_told" (defArgs (topS 37)) (defBody (topS 37)) (defScope (topS 37)) .none kV30 dc30 pm30 an30 cd30 ct30), sl30⟩)
    (c30 : PySem.W.codeIn K cd30 "_law_call_told" = true)
    (k30 : PySem.W.keepIn K (.ref f30) = true)
    (a31 : PySem.W.nsIn K mainGlobals "_law_told" = some (some (.ref f31)))
    (l31 : K.lookup f31 = some ⟨oc31, od31, .func (PySem.W.fnOf "_law_told" "_law_told" (defArgs (topS 38)) (defBody (topS 38)) (defScope (topS 38)) .none kV31 dc31 pm31 an31 cd31 ct31), sl31⟩)
    (c31 : PySem.W.codeIn K cd31 "_law_told" = true)
    (k31 : PySem.W.keepIn K (.ref f31) = true)
    (a32 : PySem.W.nsIn K mainGlobals "_law_child" = some (some (.ref f32)))
    (l32 : K.lookup f32 = some ⟨oc32, od32, .func (PySem.W.fnOf "_law_child" "_law_child" (defArgs (topS 39)) (defBody (topS 39)) (defScope (topS 39)) .none kV32 dc32 pm32 an32 cd32 ct32), sl32⟩)
    (c32 : PySem.W.codeIn K cd32 "_law_child" = true)
    (k32 : PySem.W.keepIn K (.ref f32) = true)
    (a33 : PySem.W.nsIn K mainGlobals "_law_made" = some (some (.ref f33)))
    (l33 : K.lookup f33 = some ⟨oc33, od33, .func (PySem.W.fnOf "_law_made" "_law_made" (defArgs (topS 40)) (defBody (topS 40)) (defScope (topS 40)) .none kV33 dc33 pm33 an33 cd33 ct33), sl33⟩)
    (c33 : PySem.W.codeIn K cd33 "_law_made" = true)
    (k33 : PySem.W.keepIn K (.ref f33) = true)
    (a34 : PySem.W.nsIn K mainGlobals "_law_value" = some (some (.ref f34)))
    (l34 : K.lookup f34 = some ⟨oc34, od34, .func (PySem.W.fnOf "_law_value" "_law_value" (defArgs (topS 41)) (defBody (topS 41)) (defScope (topS 41)) .none kV34 dc34 pm34 an34 cd34 ct34), sl34⟩)
    (c34 : PySem.W.codeIn K cd34 "_law_value" = true)
    (k34 : PySem.W.keepIn K (.ref f34) = true)
    (a35 : PySem.W.nsIn K mainGlobals "_law_opened" = some (some (.ref f35)))
    (l35 : K.lookup f35 = some ⟨oc35, od35, .func (PySem.W.fnOf "_law_opened" "_law_opened" (defArgs (topS 42)) (defBody (topS 42)) (defScope (topS 42)) .none kV35 dc35 pm35 an35 cd35 ct35), sl35⟩)
    (c35 : PySem.W.codeIn K cd35 "_law_opened" = true)
    (k35 : PySem.W.keepIn K (.ref f35) = true)
    (a36 : PySem.W.nsIn K mainGlobals "_law_given" = some (some (.ref f36)))
    (l36 : K.lookup f36 = some ⟨oc36, od36, .func (PySem.W.fnOf "_law_given" "_law_given" (defArgs (topS 43)) (defBody (topS 43)) (defScope (topS 43)) .none kV36 dc36 pm36 an36 cd36 ct36), sl36⟩)
    (c36 : PySem.W.codeIn K cd36 "_law_given" = true)
    (k36 : PySem.W.keepIn K (.ref f36) = true)
    (a37 : PySem.W.nsIn K mainGlobals "_law_events" = some (some (.ref f37)))
    (l37 : K.lookup f37 = some ⟨oc37, od37, .func (PySem.W.fnOf "_law_events" "_law_events" (defArgs (topS 44)) (defBody (topS 44)) (defScope (topS 44)) .none kV37 dc37 pm37 an37 cd37 ct37), sl37⟩)
    (c37 : PySem.W.codeIn K cd37 "_law_events" = true)
    (k37 : PySem.W.keepIn K (.ref f37) = true)
    (a38 : PySem.W.nsIn K mainGlobals "_law_in_order" = some (some (.ref f38)))
    (l38 : K.lookup f38 = some ⟨oc38, od38, .func (PySem.W.fnOf "_law_in_order" "_law_in_order" (defArgs (topS 45)) (defBody (topS 45)) (defScope (topS 45)) .none kV38 dc38 pm38 an38 cd38 ct38), sl38⟩)
    (c38 : PySem.W.codeIn K cd38 "_law_in_order" = true)
    (k38 : PySem.W.keepIn K (.ref f38) = true)
    (a39 : PySem.W.nsIn K mainGlobals "_law_call_holds" = some (some (.ref f39)))
    (l39 : K.lookup f39 = some ⟨oc39, od39, .func (PySem.W.fnOf "_law_call_holds" "_law_call_holds" (defArgs (topS 46)) (defBody (topS 46)) (defScope (topS 46)) .none kV39 dc39 pm39 an39 cd39 ct39), sl39⟩)
    (c39 : PySem.W.codeIn K cd39 "_law_call_holds" = true)
    (k39 : PySem.W.keepIn K (.ref f39) = true)
    (a40 : PySem.W.nsIn K mainGlobals "_law_walked" = some (some (.ref f40)))
    (l40 : K.lookup f40 = some ⟨oc40, od40, .func (PySem.W.fnOf "_law_walked" "_law_walked" (defArgs (topS 47)) (defBody (topS 47)) (defScope (topS 47)) .none kV40 dc40 pm40 an40 cd40 ct40), sl40⟩)
    (c40 : PySem.W.codeIn K cd40 "_law_walked" = true)
    (k40 : PySem.W.keepIn K (.ref f40) = true)
    (a41 : PySem.W.nsIn K mainGlobals "law" = some (some (.ref f41)))
    (l41 : K.lookup f41 = some ⟨oc41, od41, .func (PySem.W.fnOf "law" "law" (defArgs (topS 48)) (defBody (topS 48)) (defScope (topS 48)) .none kV41 dc41 pm41 an41 cd41 ct41), sl41⟩)
    (c41 : PySem.W.codeIn K cd41 "law" = true)
    (k41 : PySem.W.keepIn K (.ref f41) = true)
    (lT : K.lookup T0 = some ⟨ocT, odT, .seq #[.int 1000 tT] nT, slT⟩)
    (e1 : PySem.W.plainGet K CL Str.empty = true)
    (e2 : PySem.W.hasDictIn K CL = true)
    (e3 : PySem.W.plainOver K CL = true)
    (e4 : PySem.W.findIn K (.ref CL) "__setattr__" = some (some (.builtin "object.__setattr__")))
    (na_most : PySem.W.findIn K (.ref CL) "most" = some none)
    (na_begun : PySem.W.findIn K (.ref CL) "begun" = some none)
    (na_made : PySem.W.findIn K (.ref CL) "made" = some none)
    (m1 : PySem.W.makesIn K CL = true)
    (m2 : PySem.W.keepIn K (.ref CL) = true)
    (xC : PySem.W.excIn K CC [.type "Exception", .type "BaseException", .type "object"] "Exception.__new__" = true)
    (kC : PySem.W.keepIn K (.ref CC) = true)
    (bC : PySem.W.subIn K (.ref CC) (.type "BaseException") = some true)
    (tC : PySem.W.typeIn K (.ref CC) = some (.type "type"))
    (iC : PySem.W.isClsIn K CC = true)
    (sC : PySem.W.subIn K (.ref CC) (.ref CC) = some true)
    (g_MOST_CALLS : PySem.W.nsIn K mainGlobals "MOST_CALLS" = some (some (.int 20 tCALLS)))
    (g_MOST_SIZE : PySem.W.nsIn K mainGlobals "MOST_SIZE" = some (some (.int 100 tSIZE)))
    (b_bool : PySem.W.nsIn K mainGlobals "bool" = some none)
    (b_int : PySem.W.nsIn K mainGlobals "int" = some none)
    (b_isinstance : PySem.W.nsIn K mainGlobals "isinstance" = some none)
    (b_len : PySem.W.nsIn K mainGlobals "len" = some none)
    (b_list : PySem.W.nsIn K mainGlobals "list" = some none)
    (b_min : PySem.W.nsIn K mainGlobals "min" = some none)
    (b_range : PySem.W.nsIn K mainGlobals "range" = some none)
    (b_str : PySem.W.nsIn K mainGlobals "str" = some none)
    (b_sum : PySem.W.nsIn K mainGlobals "sum" = some none)
    (b_tuple : PySem.W.nsIn K mainGlobals "tuple" = some none)
    (b_zip : PySem.W.nsIn K mainGlobals "zip" = some none) :
    ∃ fd : Fn → FuncData, ∃ ad : Fn → Addr, Txt ⟨K, CL, CC, []⟩ mg ad fd ∧ ad .law = f41 ∧ (∀ (s : Shared) (v : Value), BindsTo s (fd .law) ⟨[v], []⟩ [("_law_script", v)]) := by
  let fdf : Fn → FuncData := fun n => match n with
    | .is_whole => PySem.W.fnOf "is_whole" "is_whole" (defArgs (topS 5)) (defBody (topS 5)) (defScope (topS 5)) .none kV0 dc0 pm0 an0 cd0 ct0
    | .is_row => PySem.W.fnOf "is_row" "is_row" (defArgs (topS 6)) (defBody (topS 6)) (defScope (topS 6)) .none kV1 dc1 pm1 an1 cd1 ct1
    | .is_tree => PySem.W.fnOf "is_tree" "is_tree" (defArgs (topS 7)) (defBody (topS 7)) (defScope (topS 7)) .none kV2 dc2 pm2 an2 cd2 ct2
    | .fits => PySem.W.fnOf "fits" "fits" (defArgs (topS 8)) (defBody (topS 8)) (defScope (topS 8)) .none kV3 dc3 pm3 an3 cd3 ct3
    | .size_of => PySem.W.fnOf "size_of" "size_of" (defArgs (topS 9)) (defBody (topS 9)) (defScope (topS 9)) .none kV4 dc4 pm4 an4 cd4 ct4
    | .log_init => PySem.W.fnOf "__init__" "Log.__init__" (defArgs (memS (topS 14) 0)) (defBody (memS (topS 14) 0)) (defScope (memS (topS 14) 0)) .none kV5 dc5 pm5 an5 cd5 ct5
    | .log_step => PySem.W.fnOf "step" "Log.step" (defArgs (memS (topS 14) 1)) (defBody (memS (topS 14) 1)) (defScope (memS (topS 14) 1)) .none kV6 dc6 pm6 an6 cd6 ct6
    | .log_begin => PySem.W.fnOf "begin" "Log.begin" (defArgs (memS (topS 14) 2)) (defBody (memS (topS 14) 2)) (defScope (memS (topS 14) 2)) .none kV7 dc7 pm7 an7 cd7 ct7
    | .log_end => PySem.W.fnOf "end" "Log.end" (defArgs (memS (topS 14) 3)) (defBody (memS (topS 14) 3)) (defScope (memS (topS 14) 3)) .none kV8 dc8 pm8 an8 cd8 ct8
    | .function_of => PySem.W.fnOf "function_of" "function_of" (defArgs (topS 15)) (defBody (topS 15)) (defScope (topS 15)) .none kV9 dc9 pm9 an9 cd9 ct9
    | .made_of => PySem.W.fnOf "made_of" "made_of" (defArgs (topS 16)) (defBody (topS 16)) (defScope (topS 16)) .none kV10 dc10 pm10 an10 cd10 ct10
    | .value_by => PySem.W.fnOf "value_by" "value_by" (defArgs (topS 17)) (defBody (topS 17)) (defScope (topS 17)) .none kV11 dc11 pm11 an11 cd11 ct11
    | .open_body => PySem.W.fnOf "open_body" "open_body" (defArgs (topS 18)) (defBody (topS 18)) (defScope (topS 18)) .none kV12 dc12 pm12 an12 cd12 ct12
    | .body_value => PySem.W.fnOf "body_value" "body_value" (defArgs (topS 19)) (defBody (topS 19)) (defScope (topS 19)) .none kV13 dc13 pm13 an13 cd13 ct13
    | .call_value => PySem.W.fnOf "call_value" "call_value" (defArgs (topS 20)) (defBody (topS 20)) (defScope (topS 20)) .none kV14 dc14 pm14 an14 cd14 ct14
    | .trace => PySem.W.fnOf "trace" "trace" (defArgs (topS 21)) (defBody (topS 21)) (defScope (topS 21)) (.ref T0) kV15 dc15 pm15 an15 cd15 ct15
    | .law_cell_at => PySem.W.fnOf "_law_cell_at" "_law_cell_at" (defArgs (topS 23)) (defBody (topS 23)) (defScope (topS 23)) .none kV16 dc16 pm16 an16 cd16 ct16
    | .law_number => PySem.W.fnOf "_law_number" "_law_number" (defArgs (topS 24)) (defBody (topS 24)) (defScope (topS 24)) .none kV17 dc17 pm17 an17 cd17 ct17
    | .law_names => PySem.W.fnOf "_law_names" "_law_names" (defArgs (topS 25)) (defBody (topS 25)) (defScope (topS 25)) .none kV18 dc18 pm18 an18 cd18 ct18
    | .law_putting => PySem.W.fnOf "_law_putting" "_law_putting" (defArgs (topS 26)) (defBody (topS 26)) (defScope (topS 26)) .none kV19 dc19 pm19 an19 cd19 ct19
    | .law_head => PySem.W.fnOf "_law_head" "_law_head" (defArgs (topS 27)) (defBody (topS 27)) (defScope (topS 27)) .none kV20 dc20 pm20 an20 cd20 ct20
    | .law_take => PySem.W.fnOf "_law_take" "_law_take" (defArgs (topS 28)) (defBody (topS 28)) (defScope (topS 28)) .none kV21 dc21 pm21 an21 cd21 ct21
    | .law_expression => PySem.W.fnOf "_law_expression" "_law_expression" (defArgs (topS 29)) (defBody (topS 29)) (defScope (topS 29)) .none kV22 dc22 pm22 an22 cd22 ct22
    | .law_body => PySem.W.fnOf "_law_body" "_law_body" (defArgs (topS 30)) (defBody (topS 30)) (defScope (topS 30)) .none kV23 dc23 pm23 an23 cd23 ct23
    | .law_program => PySem.W.fnOf "_law_program" "_law_program" (defArgs (topS 31)) (defBody (topS 31)) (defScope (topS 31)) .none kV24 dc24 pm24 an24 cd24 ct24
    | .law_tree => PySem.W.fnOf "_law_tree" "_law_tree" (defArgs (topS 32)) (defBody (topS 32)) (defScope (topS 32)) .none kV25 dc25 pm25 an25 cd25 ct25
    | .law_args => PySem.W.fnOf "_law_args" "_law_args" (defArgs (topS 33)) (defBody (topS 33)) (defScope (topS 33)) .none kV26 dc26 pm26 an26 cd26 ct26
    | .law_whole => PySem.W.fnOf "_law_whole" "_law_whole" (defArgs (topS 34)) (defBody (topS 34)) (defScope (topS 34)) .none kV27 dc27 pm27 an27 cd27 ct27
    | .law_size => PySem.W.fnOf "_law_size" "_law_size" (defArgs (topS 35)) (defBody (topS 35)) (defScope (topS 35)) .none kV28 dc28 pm28 an28 cd28 ct28
    | .law_one => PySem.W.fnOf "_law_one" "_law_one" (defArgs (topS 36)) (defBody (topS 36)) (defScope (topS 36)) .none kV29 dc29 pm29 an29 cd29 ct29
    | .law_call_told => PySem.W.fnOf "_law_call_told" "_law_call_told" (defArgs (topS 37)) (defBody (topS 37)) (defScope (topS 37)) .none kV30 dc30 pm30 an30 cd30 ct30
    | .law_told => PySem.W.fnOf "_law_told" "_law_told" (defArgs (topS 38)) (defBody (topS 38)) (defScope (topS 38)) .none kV31 dc31 pm31 an31 cd31 ct31
    | .law_child => PySem.W.fnOf "_law_child" "_law_child" (defArgs (topS 39)) (defBody (topS 39)) (defScope (topS 39)) .none kV32 dc32 pm32 an32 cd32 ct32
    | .law_made => PySem.W.fnOf "_law_made" "_law_made" (defArgs (topS 40)) (defBody (topS 40)) (defScope (topS 40)) .none kV33 dc33 pm33 an33 cd33 ct33
    | .law_value => PySem.W.fnOf "_law_value" "_law_value" (defArgs (topS 41)) (defBody (topS 41)) (defScope (topS 41)) .none kV34 dc34 pm34 an34 cd34 ct34
    | .law_opened => PySem.W.fnOf "_law_opened" "_law_opened" (defArgs (topS 42)) (defBody (topS 42)) (defScope (topS 42)) .none kV35 dc35 pm35 an35 cd35 ct35
    | .law_given => PySem.W.fnOf "_law_given" "_law_given" (defArgs (topS 43)) (defBody (topS 43)) (defScope (topS 43)) .none kV36 dc36 pm36 an36 cd36 ct36
    | .law_events => PySem.W.fnOf "_law_events" "_law_events" (defArgs (topS 44)) (defBody (topS 44)) (defScope (topS 44)) .none kV37 dc37 pm37 an37 cd37 ct37
    | .law_in_order => PySem.W.fnOf "_law_in_order" "_law_in_order" (defArgs (topS 45)) (defBody (topS 45)) (defScope (topS 45)) .none kV38 dc38 pm38 an38 cd38 ct38
    | .law_call_holds => PySem.W.fnOf "_law_call_holds" "_law_call_holds" (defArgs (topS 46)) (defBody (topS 46)) (defScope (topS 46)) .none kV39 dc39 pm39 an39 cd39 ct39
    | .law_walked => PySem.W.fnOf "_law_walked" "_law_walked" (defArgs (topS 47)) (defBody (topS 47)) (defScope (topS 47)) .none kV40 dc40 pm40 an40 cd40 ct40
    | .law => PySem.W.fnOf "law" "law" (defArgs (topS 48)) (defBody (topS 48)) (defScope (topS 48)) .none kV41 dc41 pm41 an41 cd41 ct41
  let adf : Fn → Addr := fun n => match n with
    | .is_whole => f0
    | .is_row => f1
    | .is_tree => f2
    | .fits => f3
    | .size_of => f4
    | .log_init => f5
    | .log_step => f6
    | .log_begin => f7
    | .log_end => f8
    | .function_of => f9
    | .made_of => f10
    | .value_by => f11
    | .open_body => f12
    | .body_value => f13
    | .call_value => f14
    | .trace => f15
    | .law_cell_at => f16
    | .law_number => f17
    | .law_names => f18
    | .law_putting => f19
    | .law_head => f20
    | .law_take => f21
    | .law_expression => f22
    | .law_body => f23
    | .law_program => f24
    | .law_tree => f25
    | .law_args => f26
    | .law_whole => f27
    | .law_size => f28
    | .law_one => f29
    | .law_call_told => f30
    | .law_told => f31
    | .law_child => f32
    | .law_made => f33
    | .law_value => f34
    | .law_opened => f35
    | .law_given => f36
    | .law_events => f37
    | .law_in_order => f38
    | .law_call_holds => f39
    | .law_walked => f40
    | .law => f41
  have FN : ∀ n, FunD K (nm n) (qn n) (defArgs (st n)) (defBody (st n)) (defScope (st n)) (dvl n) [] (adf n) (fdf n) := by
    intro n
    cases n with
    | is_whole => exact ⟨⟨_, _, _, _, _, _, _, _, _, _, rfl, l0, c0, .inl ⟨rfl, rfl⟩, .inl rfl⟩, k0⟩
    | is_row => exact ⟨⟨_, _, _, _, _, _, _, _, _, _, rfl, l1, c1, .inl ⟨rfl, rfl⟩, .inl rfl⟩, k1⟩
    | is_tree => exact ⟨⟨_, _, _, _, _, _, _, _, _, _, rfl, l2, c2, .inl ⟨rfl, rfl⟩, .inl rfl⟩, k2⟩
    | fits => exact ⟨⟨_, _, _, _, _, _, _, _, _, _, rfl, l3, c3, .inl ⟨rfl, rfl⟩, .inl rfl⟩, k3⟩
    | size_of => exact ⟨⟨_, _, _, _, _, _, _, _, _, _, rfl, l4, c4, .inl ⟨rfl, rfl⟩, .inl rfl⟩, k4⟩
    | log_init => exact ⟨⟨_, _, _, _, _, _, _, _, _, _, rfl, l5, c5, .inl ⟨rfl, rfl⟩, .inl rfl⟩, k5⟩
    | log_step => exact ⟨⟨_, _, _, _, _, _, _, _, _, _, rfl, l6, c6, .inl ⟨rfl, rfl⟩, .inl rfl⟩, k6⟩
    | log_begin => exact ⟨⟨_, _, _, _, _, _, _, _, _, _, rfl, l7, c7, .inl ⟨rfl, rfl⟩, .inl rfl⟩, k7⟩
    | log_end => exact ⟨⟨_, _, _, _, _, _, _, _, _, _, rfl, l8, c8, .inl ⟨rfl, rfl⟩, .inl rfl⟩, k8⟩
    | function_of => exact ⟨⟨_, _, _, _, _, _, _, _, _, _, rfl, l9, c9, .inl ⟨rfl, rfl⟩, .inl rfl⟩, k9⟩
    | made_of => exact ⟨⟨_, _, _, _, _, _, _, _, _, _, rfl, l10, c10, .inl ⟨rfl, rfl⟩, .inl rfl⟩, k10⟩
    | value_by => exact ⟨⟨_, _, _, _, _, _, _, _, _, _, rfl, l11, c11, .inl ⟨rfl, rfl⟩, .inl rfl⟩, k11⟩
    | open_body => exact ⟨⟨_, _, _, _, _, _, _, _, _, _, rfl, l12, c12, .inl ⟨rfl, rfl⟩, .inl rfl⟩, k12⟩
    | body_value => exact ⟨⟨_, _, _, _, _, _, _, _, _, _, rfl, l13, c13, .inl ⟨rfl, rfl⟩, .inl rfl⟩, k13⟩
    | call_value => exact ⟨⟨_, _, _, _, _, _, _, _, _, _, rfl, l14, c14, .inl ⟨rfl, rfl⟩, .inl rfl⟩, k14⟩
    | trace => exact ⟨⟨_, _, _, _, _, _, _, _, _, _, rfl, l15, c15, .inr ⟨by simp [dvl], T0, _, [.int 1000 tT], nT, rfl, lT, rfl, .cons ⟨_, rfl⟩ .nil⟩, .inl rfl⟩, k15⟩
    | law_cell_at => exact ⟨⟨_, _, _, _, _, _, _, _, _, _, rfl, l16, c16, .inl ⟨rfl, rfl⟩, .inl rfl⟩, k16⟩
    | law_number => exact ⟨⟨_, _, _, _, _, _, _, _, _, _, rfl, l17, c17, .inl ⟨rfl, rfl⟩, .inl rfl⟩, k17⟩
    | law_names => exact ⟨⟨_, _, _, _, _, _, _, _, _, _, rfl, l18, c18, .inl ⟨rfl, rfl⟩, .inl rfl⟩, k18⟩
    | law_putting => exact ⟨⟨_, _, _, _, _, _, _, _, _, _, rfl, l19, c19, .inl ⟨rfl, rfl⟩, .inl rfl⟩, k19⟩
    | law_head => exact ⟨⟨_, _, _, _, _, _, _, _, _, _, rfl, l20, c20, .inl ⟨rfl, rfl⟩, .inl rfl⟩, k20⟩
    | law_take => exact ⟨⟨_, _, _, _, _, _, _, _, _, _, rfl, l21, c21, .inl ⟨rfl, rfl⟩, .inl rfl⟩, k21⟩
    | law_expression => exact ⟨⟨_, _, _, _, _, _, _, _, _, _, rfl, l22, c22, .inl ⟨rfl, rfl⟩, .inl rfl⟩, k22⟩
    | law_body => exact ⟨⟨_, _, _, _, _, _, _, _, _, _, rfl, l23, c23, .inl ⟨rfl, rfl⟩, .inl rfl⟩, k23⟩
    | law_program => exact ⟨⟨_, _, _, _, _, _, _, _, _, _, rfl, l24, c24, .inl ⟨rfl, rfl⟩, .inl rfl⟩, k24⟩
    | law_tree => exact ⟨⟨_, _, _, _, _, _, _, _, _, _, rfl, l25, c25, .inl ⟨rfl, rfl⟩, .inl rfl⟩, k25⟩
    | law_args => exact ⟨⟨_, _, _, _, _, _, _, _, _, _, rfl, l26, c26, .inl ⟨rfl, rfl⟩, .inl rfl⟩, k26⟩
    | law_whole => exact ⟨⟨_, _, _, _, _, _, _, _, _, _, rfl, l27, c27, .inl ⟨rfl, rfl⟩, .inl rfl⟩, k27⟩
    | law_size => exact ⟨⟨_, _, _, _, _, _, _, _, _, _, rfl, l28, c28, .inl ⟨rfl, rfl⟩, .inl rfl⟩, k28⟩
    | law_one => exact ⟨⟨_, _, _, _, _, _, _, _, _, _, rfl, l29, c29, .inl ⟨rfl, rfl⟩, .inl rfl⟩, k29⟩
    | law_call_told => exact ⟨⟨_, _, _, _, _, _, _, _, _, _, rfl, l30, c30, .inl ⟨rfl, rfl⟩, .inl rfl⟩, k30⟩
    | law_told => exact ⟨⟨_, _, _, _, _, _, _, _, _, _, rfl, l31, c31, .inl ⟨rfl, rfl⟩, .inl rfl⟩, k31⟩
    | law_child => exact ⟨⟨_, _, _, _, _, _, _, _, _, _, rfl, l32, c32, .inl ⟨rfl, rfl⟩, .inl rfl⟩, k32⟩
    | law_made => exact ⟨⟨_, _, _, _, _, _, _, _, _, _, rfl, l33, c33, .inl ⟨rfl, rfl⟩, .inl rfl⟩, k33⟩
    | law_value => exact ⟨⟨_, _, _, _, _, _, _, _, _, _, rfl, l34, c34, .inl ⟨rfl, rfl⟩, .inl rfl⟩, k34⟩
    | law_opened => exact ⟨⟨_, _, _, _, _, _, _, _, _, _, rfl, l35, c35, .inl ⟨rfl, rfl⟩, .inl rfl⟩, k35⟩
    | law_given => exact ⟨⟨_, _, _, _, _, _, _, _, _, _, rfl, l36, c36, .inl ⟨rfl, rfl⟩, .inl rfl⟩, k36⟩
    | law_events => exact ⟨⟨_, _, _, _, _, _, _, _, _, _, rfl, l37, c37, .inl ⟨rfl, rfl⟩, .inl rfl⟩, k37⟩
    | law_in_order => exact ⟨⟨_, _, _, _, _, _, _, _, _, _, rfl, l38, c38, .inl ⟨rfl, rfl⟩, .inl rfl⟩, k38⟩
    | law_call_holds => exact ⟨⟨_, _, _, _, _, _, _, _, _, _, rfl, l39, c39, .inl ⟨rfl, rfl⟩, .inl rfl⟩, k39⟩
    | law_walked => exact ⟨⟨_, _, _, _, _, _, _, _, _, _, rfl, l40, c40, .inl ⟨rfl, rfl⟩, .inl rfl⟩, k40⟩
    | law => exact ⟨⟨_, _, _, _, _, _, _, _, _, _, rfl, l41, c41, .inl ⟨rfl, rfl⟩, .inl rfl⟩, k41⟩
  have BD : ∀ n, Binds K (fdf n) (prs n) [] := by
    intro n
    cases n with
    | is_whole => exact (FN .is_whole).bindsN (ps := prs .is_whole) fun _ _ _ _ _ _ us hl => match us, hl with | [_], _ => rfl
    | is_row => exact (FN .is_row).bindsN (ps := prs .is_row) fun _ _ _ _ _ _ us hl => match us, hl with | [_], _ => rfl
    | is_tree => exact (FN .is_tree).bindsN (ps := prs .is_tree) fun _ _ _ _ _ _ us hl => match us, hl with | [_], _ => rfl
    | fits => exact (FN .fits).bindsN (ps := prs .fits) fun _ _ _ _ _ _ us hl => match us, hl with | [_, _], _ => rfl
    | size_of => exact (FN .size_of).bindsN (ps := prs .size_of) fun _ _ _ _ _ _ us hl => match us, hl with | [_, _], _ => rfl
    | log_init => exact (FN .log_init).bindsN (ps := prs .log_init) fun _ _ _ _ _ _ us hl => match us, hl with | [_, _], _ => rfl
    | log_step => exact (FN .log_step).bindsN (ps := prs .log_step) fun _ _ _ _ _ _ us hl => match us, hl with | [_, _, _], _ => rfl
    | log_begin => exact (FN .log_begin).bindsN (ps := prs .log_begin) fun _ _ _ _ _ _ us hl => match us, hl with | [_, _, _, _], _ => rfl
    | log_end => exact (FN .log_end).bindsN (ps := prs .log_end) fun _ _ _ _ _ _ us hl => match us, hl with | [_, _, _], _ => rfl
    | function_of => exact (FN .function_of).bindsN (ps := prs .function_of) fun _ _ _ _ _ _ us hl => match us, hl with | [_, _], _ => rfl
    | made_of => exact (FN .made_of).bindsN (ps := prs .made_of) fun _ _ _ _ _ _ us hl => match us, hl with | [_, _, _, _], _ => rfl
    | value_by => exact (FN .value_by).bindsN (ps := prs .value_by) fun _ _ _ _ _ _ us hl => match us, hl with | [_, _, _, _, _], _ => rfl
    | open_body => exact (FN .open_body).bindsN (ps := prs .open_body) fun _ _ _ _ _ _ us hl => match us, hl with | [_, _], _ => rfl
    | body_value => exact (FN .body_value).bindsN (ps := prs .body_value) fun _ _ _ _ _ _ us hl => match us, hl with | [_, _, _, _, _], _ => rfl
    | call_value => exact (FN .call_value).bindsN (ps := prs .call_value) fun _ _ _ _ _ _ us hl => match us, hl with | [_, _, _, _, _], _ => rfl
    | trace =>
      obtain ⟨ds, r, b⟩ := (FN .trace).binds1 (ps := prs .trace) 4 1 (by simp [dvl]) rfl fun T kV doc pm an cdv ct us its hu hi => match us, hu, its, hi with | [_, _, _, _], _, [_], _ => ⟨_, rfl, rfl⟩
      cases r
      exact b
    | law_cell_at => exact (FN .law_cell_at).bindsN (ps := prs .law_cell_at) fun _ _ _ _ _ _ us hl => match us, hl with | [_, _], _ => rfl
    | law_number => exact (FN .law_number).bindsN (ps := prs .law_number) fun _ _ _ _ _ _ us hl => match us, hl with | [_], _ => rfl
    | law_names => exact (FN .law_names).bindsN (ps := prs .law_names) fun _ _ _ _ _ _ us hl => match us, hl with | [_, _], _ => rfl
    | law_putting => exact (FN .law_putting).bindsN (ps := prs .law_putting) fun _ _ _ _ _ _ us hl => match us, hl with | [_, _], _ => rfl
    | law_head => exact (FN .law_head).bindsN (ps := prs .law_head) fun _ _ _ _ _ _ us hl => match us, hl with | [_, _, _], _ => rfl
    | law_take => exact (FN .law_take).bindsN (ps := prs .law_take) fun _ _ _ _ _ _ us hl => match us, hl with | [_], _ => rfl
    | law_expression => exact (FN .law_expression).bindsN (ps := prs .law_expression) fun _ _ _ _ _ _ us hl => match us, hl with | [_, _, _, _], _ => rfl
    | law_body => exact (FN .law_body).bindsN (ps := prs .law_body) fun _ _ _ _ _ _ us hl => match us, hl with | [_, _, _, _], _ => rfl
    | law_program => exact (FN .law_program).bindsN (ps := prs .law_program) fun _ _ _ _ _ _ us hl => match us, hl with | [_], _ => rfl
    | law_tree => exact (FN .law_tree).bindsN (ps := prs .law_tree) fun _ _ _ _ _ _ us hl => match us, hl with | [_], _ => rfl
    | law_args => exact (FN .law_args).bindsN (ps := prs .law_args) fun _ _ _ _ _ _ us hl => match us, hl with | [_, _], _ => rfl
    | law_whole => exact (FN .law_whole).bindsN (ps := prs .law_whole) fun _ _ _ _ _ _ us hl => match us, hl with | [_], _ => rfl
    | law_size => exact (FN .law_size).bindsN (ps := prs .law_size) fun _ _ _ _ _ _ us hl => match us, hl with | [_, _], _ => rfl
    | law_one => exact (FN .law_one).bindsN (ps := prs .law_one) fun _ _ _ _ _ _ us hl => match us, hl with | [_, _], _ => rfl
    | law_call_told => exact (FN .law_call_told).bindsN (ps := prs .law_call_told) fun _ _ _ _ _ _ us hl => match us, hl with | [_, _, _], _ => rfl
    | law_told => exact (FN .law_told).bindsN (ps := prs .law_told) fun _ _ _ _ _ _ us hl => match us, hl with | [_, _, _], _ => rfl
    | law_child => exact (FN .law_child).bindsN (ps := prs .law_child) fun _ _ _ _ _ _ us hl => match us, hl with | [_, _, _], _ => rfl
    | law_made => exact (FN .law_made).bindsN (ps := prs .law_made) fun _ _ _ _ _ _ us hl => match us, hl with | [_, _, _], _ => rfl
    | law_value => exact (FN .law_value).bindsN (ps := prs .law_value) fun _ _ _ _ _ _ us hl => match us, hl with | [_, _, _], _ => rfl
    | law_opened => exact (FN .law_opened).bindsN (ps := prs .law_opened) fun _ _ _ _ _ _ us hl => match us, hl with | [_, _], _ => rfl
    | law_given => exact (FN .law_given).bindsN (ps := prs .law_given) fun _ _ _ _ _ _ us hl => match us, hl with | [_, _, _], _ => rfl
    | law_events => exact (FN .law_events).bindsN (ps := prs .law_events) fun _ _ _ _ _ _ us hl => match us, hl with | [_, _], _ => rfl
    | law_in_order => exact (FN .law_in_order).bindsN (ps := prs .law_in_order) fun _ _ _ _ _ _ us hl => match us, hl with | [_, _, _, _], _ => rfl
    | law_call_holds => exact (FN .law_call_holds).bindsN (ps := prs .law_call_holds) fun _ _ _ _ _ _ us hl => match us, hl with | [_, _, _, _, _, _], _ => rfl
    | law_walked => exact (FN .law_walked).bindsN (ps := prs .law_walked) fun _ _ _ _ _ _ us hl => match us, hl with | [_, _, _, _], _ => rfl
    | law => exact (FN .law).bindsN (ps := prs .law) fun _ _ _ _ _ _ us hl => match us, hl with | [_], _ => rfl
  have MF : ∀ n, isTop n = true → mg (nm n) = some (.ref (adf n)) := by
    intro n hn
    cases n with
    | is_whole => exact PySem.W.mg_of X G a0
    | is_row => exact PySem.W.mg_of X G a1
    | is_tree => exact PySem.W.mg_of X G a2
    | fits => exact PySem.W.mg_of X G a3
    | size_of => exact PySem.W.mg_of X G a4
    | log_init => exact absurd hn (by decide)
    | log_step => exact absurd hn (by decide)
    | log_begin => exact absurd hn (by decide)
    | log_end => exact absurd hn (by decide)
    | function_of => exact PySem.W.mg_of X G a9
    | made_of => exact PySem.W.mg_of X G a10
    | value_by => exact PySem.W.mg_of X G a11
    | open_body => exact PySem.W.mg_of X G a12
    | body_value => exact PySem.W.mg_of X G a13
    | call_value => exact PySem.W.mg_of X G a14
    | trace => exact PySem.W.mg_of X G a15
    | law_cell_at => exact PySem.W.mg_of X G a16
    | law_number => exact PySem.W.mg_of X G a17
    | law_names => exact PySem.W.mg_of X G a18
    | law_putting => exact PySem.W.mg_of X G a19
    | law_head => exact PySem.W.mg_of X G a20
    | law_take => exact PySem.W.mg_of X G a21
    | law_expression => exact PySem.W.mg_of X G a22
    | law_body => exact PySem.W.mg_of X G a23
    | law_program => exact PySem.W.mg_of X G a24
    | law_tree => exact PySem.W.mg_of X G a25
    | law_args => exact PySem.W.mg_of X G a26
    | law_whole => exact PySem.W.mg_of X G a27
    | law_size => exact PySem.W.mg_of X G a28
    | law_one => exact PySem.W.mg_of X G a29
    | law_call_told => exact PySem.W.mg_of X G a30
    | law_told => exact PySem.W.mg_of X G a31
    | law_child => exact PySem.W.mg_of X G a32
    | law_made => exact PySem.W.mg_of X G a33
    | law_value => exact PySem.W.mg_of X G a34
    | law_opened => exact PySem.W.mg_of X G a35
    | law_given => exact PySem.W.mg_of X G a36
    | law_events => exact PySem.W.mg_of X G a37
    | law_in_order => exact PySem.W.mg_of X G a38
    | law_call_holds => exact PySem.W.mg_of X G a39
    | law_walked => exact PySem.W.mg_of X G a40
    | law => exact PySem.W.mg_of X G a41
  refine ⟨fdf, adf, ⟨FN, BD, MF, ⟨e1, e2, e3, e4⟩, na_most, na_begun, na_made, ⟨a6, n6, k6⟩, ⟨a7, n7, k7⟩, ⟨a8, n8, k8⟩, ⟨m1, a5, n5, m2⟩, PySem.W.mg_of X G aL, PySem.W.mg_of X G aC, xC, kC, bC, tC, exm_self bC iC tC sC, ⟨_, PySem.W.mg_of X G g_MOST_CALLS⟩, ⟨_, PySem.W.mg_of X G g_MOST_SIZE⟩, PySem.W.mg_none_of X G b_bool, PySem.W.mg_none_of X G b_int, PySem.W.mg_none_of X G b_isinstance, PySem.W.mg_none_of X G b_len, PySem.W.mg_none_of X G b_list, PySem.W.mg_none_of X G b_min, PySem.W.mg_none_of X G b_range, PySem.W.mg_none_of X G b_str, PySem.W.mg_none_of X G b_sum, PySem.W.mg_none_of X G b_tuple, PySem.W.mg_none_of X G b_zip⟩, rfl, fun s v => .of_eq rfl⟩
end Wk
set_option maxRecDepth 100000
set_option maxHeartbeats 4000000
namespace Wk
open PySem PySem.Spec PyProof.Rows L2
def spL (K : PySem.W.Frag) : Sp := fun vs H Q _ => ∃ (a : Addr) (ns : List Int), vs = [.ref a] ∧ ns.length ≤ 63 ∧ Only H ∧ SqL K H a (ns.map V.int) ∧ ∀ H', Q (.bl true) H'
theorem dvs_ints {g : Gd} {r : List Addr} {H : Hp} : ∀ ns : List Int, DVs g r H (ns.map U.int) (ns.map V.int)
  | [] => DVs.nil
  | n :: ns => DVs.cons (by simp [DV]) (dvs_ints ns)
theorem spL_of {K : PySem.W.Frag} {CL CC : Addr} {vs : List V} {H : Hp} {Q : VK} {E : XK} (h : spL K vs H Q E) : spU ⟨K, CL, CC, []⟩ (ari .law) (sem 200 .law) vs H Q E := by
  obtain ⟨a, ns, rfl, hl, hO, hS, q⟩ := h
  refine ⟨[], [], [], [.seq .ro (ns.map U.int)], ⟨List.nodup_nil, rfl, fun i o e => by simp at e, fun a ha => by cases ha⟩, DVs.one ?_, ?_⟩
  · simp only [DV]
    refine ⟨a, ns.map V.int, rfl, ?_, dvs_ints ns⟩
    rcases hS with (e | ⟨o, e⟩) | hK
    · rcases hO a with z | ⟨o, xs, z⟩
      · rw [z] at e; cases e
      · rw [z] at e; cases e
    · exact .inl ⟨⟨o, e⟩, by simp, by simp⟩
    · exact .inr hK
  · obtain ⟨k, e⟩ := law_true ns hl
    unfold arity
    rw [if_pos (show [U.seq SK.ro (ns.map U.int)].length = ari .law from rfl), e]
    intro r' H' v _ _ d
    simp only [DV] at d
    subst d
    exact q H'
theorem all_mk {l : PySem.W.OpenLaw} {w : World} {K : PySem.W.Frag} {h : Heap} {mg : Str → Option Value} {fa : Addr} {fd : Fn → FuncData} {ad : Fn → Addr} {CL CC : Addr} (X : K.In h) (G : h.Ns mainGlobals mg) (hfa : mg "law" = some (.ref fa))
    (T : Txt ⟨K, CL, CC, []⟩ mg ad fd) (hB : ∀ (s : Shared) (v : Value), BindsTo s (fd .law) ⟨[v], []⟩ [("_law_script", v)]) :
    ∃ fd : FuncData, (∀ (s : Shared) (v : Value), BindsTo s fd ⟨[v], []⟩ [("_law_script", v)]) ∧ ∀ base : Heap, K.In base → base.Ns mainGlobals mg → FnOk l.prog w K mg base (L2.CX l.prog w) 202 fa fd ["_law_script"] (spL K) := by
  have e := hfa.symm.trans (T.mf .law rfl)
  have e2 : fa = ad .law := by injection e with e; injection e
  subst e2
  exact ⟨fd .law, hB, fun base _ _ => (ok_all (g := ⟨K, CL, CC, []⟩) T 200 .law).imp fun vs H Q E h => spL_of h⟩
theorem no_cx {P : Program} {w : World} {H : Hp} {s s' : Shared} {e : Value} (h : L2.CX P w [] H s (fun _ _ _ => False) e s') : False := by
  obtain ⟨_, _, _, _, _, _, _, _, _, _, _, _, z⟩ := h
  exact z
end Wk
open PySem PySem.W PyProof.Rows
set_option maxHeartbeats 0 in
theorem PySem.Challenge.cw_toll_k19_whole_bodies_walked_holds : PySem.Challenge.rw_toll_k19_whole_bodies_walked.Holds := by
  w_on; o_law; k_head; (case hw => w_witness2)
  k_fill
  refine L2.walk_of (l := PySem.Challenge.rw_toll_k19_whole_bodies_walked) (n := 63) (k := 202) (x := "_law_script") (CX := fun w => L2.CX PySem.Challenge.pw_toll_k19_whole_bodies_walked w) (sp := fun w => Wk.spL _) rfl (by decide) rfl ⟨rfl, by decide, by decide⟩ (fun w h Y => PySem.W.kIn_of Y) ?F (fun _ H a ns hl hO hS => ⟨a, ns, rfl, hl, hO, hS, fun _ => rfl⟩) (fun _ _ _ _ _ h => Wk.no_cx h)
  case F =>
    intro w mg fa h KX G hmg
    obtain ⟨fd, ad, T, _, hB⟩ := Wk.all_txt KX G (by k_is) (by k_is) (by k_is) (by k_is) (by k_is) (by k_is) (by k_is) (by k_is) (by k_is) (by k_is) (by k_is) (by k_is) (by k_is) (by k_is) (by k_is) (by k_is) (by k_is) (by k_is) (by k_is) (by k_is) (by k_is) (by k_is) (by k_is) (by k_is) (by k_is) (by k_is) (by k_is) (by k_is) (by k_is) (by k_is) (by k_is) (by k_is) (by k_is) (by k_is) (by k_is) (by k_is) (by k_is) (by k_is) (by k_is) (by k_is) (by k_is) (by k_is) (by k_is) (by k_is) (by k_is) (by k_is) (by k_is) (by k_is) (by k_is) (by k_is) (by k_is) (by k_is) (by k_is) (by k_is) (by k_is) (by k_is) (by k_is) (by k_is) (by k_is) (by k_is) (by k_is) (by k_is) (by k_is) (by k_is) (by k_is) (by k_is) (by k_is) (by k_is) (by k_is) (by k_is) (by k_is) (by k_is) (by k_is) (by k_is) (by k_is) (by k_is) (by k_is) (by k_is) (by k_is) (by k_is) (by k_is) (by k_is) (by k_is) (by k_is) (by k_is) (by k_is) (by k_is) (by k_is) (by k_is) (by k_is) (by k_is) (by k_is) (by k_is) (by k_is) (by k_is) (by k_is) (by k_is) (by k_is) (by k_is) (by k_is) (by k_is) (by k_is) (by k_is) (by k_is) (by k_is) (by k_is) (by k_is) (by k_is) (by k_is) (by k_is) (by k_is) (by k_is) (by k_is) (by k_is) (by k_is) (by k_is) (by k_is) (by k_is) (by k_is) (by k_is) (by k_is) (by k_is) (by k_is) (by k_is) (by k_is) (by k_is) (by k_is) (by k_is) (by k_is) (by k_is) (by k_is) (by k_is) (by k_is) (by k_is) (by k_is) (by k_is) (by k_is) (by k_is) (by k_is) (by k_is) (by k_is) (by k_is) (by k_is) (by k_is) (by k_is) (by k_is) (by k_is) (by k_is) (by k_is) (by k_is) (by k_is) (by k_is) (by k_is) (by k_is) (by k_is) (by k_is) (by k_is) (by k_is) (by k_is) (by k_is) (by k_is) (by k_is) (by k_is) (by k_is) (by k_is) (by k_is) (by k_is) (by k_is) (by k_is) (by k_is) (by k_is) (by k_is) (by k_is) (by k_is) (by k_is) (by k_is) (by k_is) (by k_is) (by k_is) (by k_is) (by k_is) (by k_is) (by k_is) (by k_is) (by k_exc) (by k_is) (by k_is) (by k_is) (by k_is) (by first | rfl | k_is) (by k_is) (by k_is) (by k_is) (by k_is) (by k_is) (by k_is) (by k_is) (by k_is) (by k_is) (by k_is) (by k_is) (by k_is) (by k_is)
    exact Wk.all_mk (l := PySem.Challenge.rw_toll_k19_whole_bodies_walked) KX G hmg T hB
