import PyProof.Rows.All
import Wide.All
import OpenK.AllK
import Wide.FinOn
import HandS.ForMost
import HandS.Evl
import HandS.Star
import HandS.Exc
import HandS.TryOnly
import HandS.IsInst
import HandS.DictComp
import HandS.Conv
import HandS.Flow
import HandS.Zip
import HandS.TupAny
import HandS.Walk
import HandS.SortInts
import HandS.Lambda
import KE.GoesEnum
import KE.KDictCopyH
import KE.SortKeyHeap
import KE.KMinKey
import HandS.SetFor
import KE.DataMinMax
import PyProof.P3Eq
import HandS.EndTab
import KE.KNestM
import PySem.Challenge.RW_chipfloor_k96_whole_bushes_of_floors
set_option Elab.async false
set_option linter.all false
set_option autoImplicit false
set_option maxRecDepth 100000
set_option maxHeartbeats 4000000
/-! FloD -/
/-! Data of the program, told without the heap; expressions and statements read over such data. -/
namespace Fl
open PySem L2 PyProof.Rows

abbrev Ow := Addr → Prop
/-- the tables of code objects that lambdas are kept in -/
abbrev Tbs := List (Addr × Str)
variable {T : Tbs}
/-- no such table -/
def NT (o : HO) : Prop := ∀ ps, o ≠ .tbl ps
theorem nt_lst {xs : List V} : NT (.lst xs) := fun _ z => nomatch z
theorem nt_tup {xs : List V} : NT (.tup xs) := fun _ z => nomatch z
theorem nt_dK {xs : List (L2.Key × V)} : NT (.dK xs) := fun _ z => nomatch z
theorem nt_frz {o : Obj} {u : HO} : NT (.frz o u) := fun _ z => nomatch z
/-- all that stood stands: the tables may have grown -/
structure Ex (T : Tbs) (H H' : Hp) : Prop where
  keep : ∀ a o, H a = some o → NT o → H' a = some o
  some : ∀ a, H a ≠ none → H' a ≠ none
  tabs : LamX.Tabs T H → LamX.Tabs T H'
theorem Ex.refl (H : Hp) : Ex T H H := ⟨fun _ _ h _ => h, fun _ h => h, fun h => h⟩
theorem Ex.trans {H H1 H2 : Hp} (a : Ex T H H1) (b : Ex T H1 H2) : Ex T H H2 := ⟨fun c o h n => b.keep c o (a.keep c o h n) n, fun c h => b.some c (a.some c h), fun h => b.tabs (a.tabs h)⟩
theorem Ex.strong {H H' : Hp} (h : ∀ a o, H a = Option.some o → H' a = Option.some o) : Ex T H H' := by
  refine ⟨fun a o e _ => h a o e, fun a e z => ?_, fun t => t.ext h⟩
  cases q : H a with
  | none => exact e q
  | some o => rw [h a o q] at z; cases z
theorem Ex.new {H : Hp} {p : Addr} {o : HO} (h : H p = none) : Ex T H (upd H p o) := .strong fun a u e => by
  rw [upd_ne (ne_of_none e h)]; exact e
/-- a list or a dict -/
def LD (o : HO) : Prop := (∃ xs, o = .lst xs) ∨ ∃ ks, o = .dK ks
theorem LD.nt {o : HO} (h : LD o) : NT o := by
  rcases h with ⟨_, rfl⟩ | ⟨_, rfl⟩
  · exact nt_lst
  · exact nt_dK
theorem ld_lst {xs : List V} : LD (.lst xs) := .inl ⟨xs, rfl⟩
theorem ld_dK {xs : List (L2.Key × V)} : LD (.dK xs) := .inr ⟨xs, rfl⟩
theorem codeO_ld {c : Addr} {q : Str} : ¬ LD (LamX.CodeO c q) := fun h => by
  unfold LamX.CodeO at h
  rcases h with ⟨_, h⟩ | ⟨_, h⟩ <;> cases h
/-- a heap that differs in lists and dicts alone bears the same tables -/
theorem tabs_ld {H H' : Hp} (t : LamX.Tabs T H) (h : ∀ a o, H a = some o → ¬ LD o → H' a = some o) : LamX.Tabs T H' := fun p hp => by
  obtain ⟨ps, h1, h2, h3⟩ := t p hp
  refine ⟨ps, h _ _ h1 (fun z => z.nt ps rfl), h2, fun pos cv hc => ?_⟩
  obtain ⟨c, e1, e2⟩ := h3 pos cv hc
  exact ⟨c, e1, h _ _ e2 codeO_ld⟩

/-- what is new in H' may be written -/
theorem Ex.mut {H H' : Hp} {p : Addr} {o u : HO} (e : Ex T H H') (h : H p = none) (hu : H' p = Option.some u) (lu : LD u) : Ex T H (upd H' p o) := by
  refine ⟨fun a w ha n => ?_, fun a ha => ?_, fun t => tabs_ld (e.tabs t) fun a w ha n => ?_⟩
  · rw [upd_ne (ne_of_none ha h)]; exact e.keep a w ha n
  · by_cases z : a = p
    · subst z; exact absurd h ha
    · rw [upd_ne z]; exact e.some a ha
  · by_cases z : a = p
    · subst z; rw [hu] at ha; cases ha; exact absurd lu n
    · rw [upd_ne z]; exact ha

inductive D where
  | non | bl (b : Bool) | int (i : Int) | tup (ds : List D) | lst (ds : List D) | dct (kvs : List (Int × D))

mutual
/-- the value v stands for the data d in the heap H, by none of the owned objects -/
inductive Den (O : Ow) (H : Hp) : V → D → Prop
  | non : Den O H .non .non
  | bl (b : Bool) : Den O H (.bl b) (.bl b)
  | int (i : Int) : Den O H (.int i) (.int i)
  | tup {a : Addr} {vs : List V} {ds : List D} : L2.Rd H a (.tup vs) → ¬ O a → Dens O H vs ds → Den O H (.ref a) (.tup ds)
  | lst {a : Addr} {vs : List V} {ds : List D} : L2.Rd H a (.lst vs) → ¬ O a → Dens O H vs ds → Den O H (.ref a) (.lst ds)
  | dct {a : Addr} {ks : List (L2.Key × V)} {kvs : List (Int × D)} : H a = some (.dK ks) → ¬ O a → DenK O H ks kvs → Den O H (.ref a) (.dct kvs)
inductive Dens (O : Ow) (H : Hp) : List V → List D → Prop
  | nil : Dens O H [] []
  | cons {v : V} {d : D} {vs : List V} {ds : List D} : Den O H v d → Dens O H vs ds → Dens O H (v :: vs) (d :: ds)
inductive DenK (O : Ow) (H : Hp) : List (L2.Key × V) → List (Int × D) → Prop
  | nil : DenK O H [] []
  | cons {k : Int} {v : V} {d : D} {vs : List (L2.Key × V)} {ds : List (Int × D)} : Den O H v d → DenK O H vs ds → DenK O H ((Sum.inl k, v) :: vs) ((k, d) :: ds)
end

/-- what stood in H, but for the owned objects, stands in H' -/
def Keep (O : Ow) (H H' : Hp) : Prop := ∀ a o, ¬ O a → H a = some o → NT o → H' a = some o
theorem Keep.of {O : Ow} {H H' : Hp} (e : Ex T H H') : Keep O H H' := fun a o _ h n => e.keep a o h n
theorem Keep.refl {O : Ow} (H : Hp) : Keep O H H := fun _ _ _ h _ => h
theorem Keep.rd {O : Ow} {H H' : Hp} {a : Addr} {u : HO} (k : Keep O H H') (n : ¬ O a) (nt : NT u) (h : L2.Rd H a u) : L2.Rd H' a u := by
  rcases h with h | ⟨o, h⟩
  · exact .inl (k _ _ n h nt)
  · exact .inr ⟨o, k _ _ n h nt_frz⟩
theorem rd_some {H : Hp} {a : Addr} {u : HO} (h : L2.Rd H a u) : H a ≠ none := by
  rcases h with h | ⟨o, h⟩ <;> (rw [h]; exact fun z => nomatch z)
/-- O and p besides -/
def Op (O : Ow) (p : Addr) : Ow := fun a => O a ∨ a = p
section
variable {O O' : Ow} {H H' : Hp}
mutual
theorem Den.gen (hO : ∀ a, H a ≠ none → O' a → O a) (hk : Keep O H H') : ∀ {v : V} {d : D}, Den O H v d → Den O' H' v d
  | _, _, .non => .non
  | _, _, .bl b => .bl b
  | _, _, .int i => .int i
  | _, _, .tup h n ds =>   .tup (hk.rd n nt_tup h) (fun z => n (hO _ (rd_some h) z)) (Dens.gen hO hk ds)
  | _, _, .lst h n ds => .lst (hk.rd n nt_lst h) (fun z => n (hO _ (rd_some h) z)) (Dens.gen hO hk ds)
  | _, _, .dct h n ds => .dct (hk _ _ n h nt_dK) (fun z => n (hO _ (by rw [h]; exact fun z => nomatch z) z)) (DenK.gen hO hk ds)
theorem Dens.gen (hO : ∀ a, H a ≠ none → O' a → O a) (hk : Keep O H H') : ∀ {v : List V} {d : List D}, Dens O H v d → Dens O' H' v d
  | _, _, .nil => .nil
  | _, _, .cons h hs => .cons (Den.gen hO hk h) (Dens.gen hO hk hs)
theorem DenK.gen (hO : ∀ a, H a ≠ none → O' a → O a) (hk : Keep O H H') : ∀ {v : List (L2.Key × V)} {d : List (Int × D)}, DenK O H v d → DenK O' H' v d
  | _, _, .nil => .nil
  | _, _, .cons h hs => .cons (Den.gen hO hk h) (DenK.gen hO hk hs)
end
theorem Den.mono {v : V} {d : D} (hO : ∀ a, O' a → O a) (hk : Keep O H H') (h : Den O H v d) : Den O' H' v d := h.gen (fun a _ => hO a) hk
theorem Dens.mono {v : List V} {d : List D} (hO : ∀ a, O' a → O a) (hk : Keep O H H') (h : Dens O H v d) : Dens O' H' v d := h.gen (fun a _ => hO a) hk
theorem DenK.mono {v : List (L2.Key × V)} {d : List (Int × D)} (hO : ∀ a, O' a → O a) (hk : Keep O H H') (h : DenK O H v d) : DenK O' H' v d := h.gen (fun a _ => hO a) hk
theorem op_grow {p : Addr} (hp : H p = none) : ∀ a, H a ≠ none → Op O p a → O a := fun a h z => by
  rcases z with z | z
  · exact z
  · subst z; exact absurd hp h
theorem Den.grow {v : V} {d : D} {p : Addr} (h : Den O H v d) (hp : H p = none) : Den (Op O p) H v d := h.gen (op_grow hp) (.refl H)
theorem Dens.grow {v : List V} {d : List D} {p : Addr} (h : Dens O H v d) (hp : H p = none) : Dens (Op O p) H v d := h.gen (op_grow hp) (.refl H)
theorem DenK.grow {v : List (L2.Key × V)} {d : List (Int × D)} {p : Addr} (h : DenK O H v d) (hp : H p = none) : DenK (Op O p) H v d := h.gen (op_grow hp) (.refl H)
theorem Dens.less {v : List V} {d : List D} {p : Addr} (h : Dens (Op O p) H v d) : Dens O H v d := h.mono (fun _ z => .inl z) (.refl H)
theorem Den.ex {v : V} {d : D} (h : Den O H v d) (e : Ex T H H') : Den O H' v d := h.mono (fun _ z => z) (.of e)
theorem Dens.ex {v : List V} {d : List D} (h : Dens O H v d) (e : Ex T H H') : Dens O H' v d := h.mono (fun _ z => z) (.of e)
theorem DenK.ex {v : List (L2.Key × V)} {d : List (Int × D)} (h : DenK O H v d) (e : Ex T H H') : DenK O H' v d := h.mono (fun _ z => z) (.of e)
theorem Dens.length {vs : List V} {ds : List D} (h : Dens O H vs ds) : vs.length = ds.length := by
  induction ds generalizing vs with
  | nil => cases h; rfl
  | cons d ds ih => cases h with
    | cons h hs => simp [ih hs]
theorem Dens.get {vs : List V} {ds : List D} (h : Dens O H vs ds) {i : Nat} {d : D} (e : ds[i]? = some d) : ∃ v, vs[i]? = some v ∧ Den O H v d := by
  induction ds generalizing vs i with
  | nil => simp at e
  | cons d0 ds ih => cases h with
    | cons h hs =>
      cases i with
      | zero => simp at e; subst e; exact ⟨_, rfl, h⟩
      | succ i => simpa using ih hs (by simpa using e)
theorem Dens.append {vs us : List V} {ds es : List D} (h : Dens O H vs ds) (g : Dens O H us es) : Dens O H (vs ++ us) (ds ++ es) := by
  induction ds generalizing vs with
  | nil => cases h; exact g
  | cons d0 ds ih => cases h with
    | cons h hs => exact .cons h (ih hs)
theorem Dens.take {vs : List V} {ds : List D} (h : Dens O H vs ds) (n : Nat) : Dens O H (vs.take n) (ds.take n) := by
  induction ds generalizing vs n with
  | nil => cases h; simpa using Dens.nil
  | cons d0 ds ih => cases h with
    | cons h hs => cases n with
      | zero => exact .nil
      | succ n => exact .cons h (ih hs n)
theorem Dens.drop {vs : List V} {ds : List D} (h : Dens O H vs ds) (n : Nat) : Dens O H (vs.drop n) (ds.drop n) := by
  induction ds generalizing vs n with
  | nil => cases h; simpa using Dens.nil
  | cons d0 ds ih => cases h with
    | cons h hs => cases n with
      | zero => exact .cons h hs
      | succ n => exact ih hs n
theorem Dens.set {vs : List V} {ds : List D} (h : Dens O H vs ds) {v : V} {d : D} (g : Den O H v d) (i : Nat) : Dens O H (vs.set i v) (ds.set i d) := by
  induction ds generalizing vs i with
  | nil => cases h; exact .nil
  | cons d0 ds ih => cases h with
    | cons h hs => cases i with
      | zero => exact .cons g hs
      | succ i => exact .cons h (ih hs i)
theorem Dens.erase {vs : List V} {ds : List D} (h : Dens O H vs ds) (i : Nat) : Dens O H (vs.eraseIdx i) (ds.eraseIdx i) := by
  induction ds generalizing vs i with
  | nil => cases h; exact .nil
  | cons d0 ds ih => cases h with
    | cons h hs => cases i with
      | zero => exact hs
      | succ i => exact .cons h (ih hs i)
theorem Den.int_inv {v : V} {i : Int} (h : Den O H v (.int i)) : v = .int i := by cases h; rfl
theorem Den.bl_inv {v : V} {i : Bool} (h : Den O H v (.bl i)) : v = .bl i := by cases h; rfl
theorem Den.non_inv {v : V} (h : Den O H v .non) : v = .non := by cases h; rfl
theorem Dens.ints {ns : List Int} {vs : List V} (h : Dens O H vs (ns.map D.int)) : vs = ns.map V.int := by
  induction ns generalizing vs with
  | nil => cases h; rfl
  | cons n ns ih => cases h with
    | cons h hs => rw [h.int_inv, ih hs]; rfl
theorem Dens.of_ints (ns : List Int) : Dens O H (ns.map V.int) (ns.map D.int) := by
  induction ns with
  | nil => exact .nil
  | cons n ns ih => exact .cons (.int n) ih
theorem Dens.bls {ns : List Bool} {vs : List V} (h : Dens O H vs (ns.map D.bl)) : vs = ns.map V.bl := by
  induction ns generalizing vs with
  | nil => cases h; rfl
  | cons n ns ih => cases h with
    | cons h hs => rw [h.bl_inv, ih hs]; rfl
end

/-! ### what a name holds -/
inductive Sl where
  | any
  | d (x : D)
  /-- a list of one's own, at l -/
  | ol (l : Addr) (ds : List D)
  /-- a dict of one's own -/
  | od (l : Addr) (kvs : List (Int × D))

def ROk (Ob O : Ow) (H : Hp) (v : V) : Sl → Prop
  | .any => True
  | .d x => Den O H v x
  | .ol l ds => v = .ref l ∧ O l ∧ ¬ Ob l ∧ ∃ vs, H l = some (.lst vs) ∧ Dens O H vs ds
  | .od l kvs => v = .ref l ∧ O l ∧ ¬ Ob l ∧ ∃ ks, H l = some (.dK ks) ∧ DenK O H ks kvs
section
variable {Hb : Hp} {Ob O O' : Ow} {H H' : Hp} {σ : L2.St} {ρ : List Sl}
theorem ROk.ex {v : V} {r : Sl} (h : ROk Ob O H v r) (e : Ex T H H') : ROk Ob O H' v r := by
  cases r with
  | any => trivial
  | d x => exact Den.ex h e
  | ol l ds => obtain ⟨h1, h2, h3, vs, h4, h5⟩ := h; exact ⟨h1, h2, h3, vs, e.keep _ _ h4 nt_lst, h5.ex e⟩
  | od l ds => obtain ⟨h1, h2, h3, vs, h4, h5⟩ := h; exact ⟨h1, h2, h3, vs, e.keep _ _ h4 nt_dK, h5.ex e⟩
theorem ROk.grow {v : V} {r : Sl} {p : Addr} (h : ROk Ob O H v r) (hp : H p = none) : ROk Ob (Op O p) H v r := by
  cases r with
  | any => trivial
  | d x => exact Den.grow h hp
  | ol l ds => obtain ⟨h1, h2, h3, vs, h4, h5⟩ := h; exact ⟨h1, .inl h2, h3, vs, h4, h5.grow hp⟩
  | od l ds => obtain ⟨h1, h2, h3, vs, h4, h5⟩ := h; exact ⟨h1, .inl h2, h3, vs, h4, h5.grow hp⟩

/-- a state: Hb the heap at the entry (what stands there stays), Ob what the caller owns, O what is owned now -/
structure S (T : Tbs) (Hb : Hp) (Ob O : Ow) (H : Hp) (σ : L2.St) (ρ : List Sl) : Prop where
  ex : Ex T Hb H
  ob : ∀ a, Ob a → O a
  own : ∀ a, O a → ¬ Ob a → Hb a = none
  oin : ∀ a, O a → H a ≠ none
  kind : ∀ a, O a → ¬ Ob a → ∃ o, H a = some o ∧ LD o
  tabs : LamX.Tabs T H
  len : σ.length = ρ.length
  get : ∀ (i : Nat) (r : Sl), ρ[i]? = some r → r = .any ∨ ∃ v, σ[i]? = some (some v) ∧ ROk Ob O H v r
theorem some_ex (e : Ex T H H') {a : Addr} (h : H a ≠ none) : H' a ≠ none := e.some a h
theorem S.on (s : S T Hb Ob O H σ ρ) (e : Ex T H H') : S T Hb Ob O H' σ ρ :=
  ⟨s.ex.trans e, s.ob, s.own, fun a h => e.some a (s.oin a h), fun a h n => let ⟨o, h1, h2⟩ := s.kind a h n; ⟨o, e.keep _ _ h1 h2.nt, h2⟩, e.tabs s.tabs, s.len, fun i r h => (s.get i r h).imp id fun ⟨v, h1, h2⟩ => ⟨v, h1, h2.ex e⟩⟩
theorem S.fresh (s : S T Hb Ob O H σ ρ) {p : Addr} (h : H p = none) : ¬ O p := fun z => s.oin p z h
theorem none_back (e : Ex T H H') {a : Addr} (h : H' a = none) : H a = none := by
  cases q : H a with
  | none => rfl
  | some o => exact absurd h (e.some a (by rw [q]; exact fun z => nomatch z))
theorem S.set (s : S T Hb Ob O H σ ρ) (i : Nat) {v : V} {r : Sl} (h : ROk Ob O H v r) : S T Hb Ob O H (σ.set i (some v)) (ρ.set i r) := by
  refine ⟨s.ex, s.ob, s.own, s.oin, s.kind, s.tabs, by simp [s.len], fun j r' hj => ?_⟩
  by_cases e : i = j
  · subst e
    by_cases hl : i < ρ.length
    · rw [List.getElem?_set_self hl] at hj
      cases hj
      exact .inr ⟨v, by rw [List.getElem?_set_self (by rw [s.len]; exact hl)], h⟩
    · rw [List.getElem?_eq_none (by simp; omega)] at hj; cases hj
  · rw [List.getElem?_set_ne e] at hj
    rcases s.get j r' hj with z | ⟨v', h1, h2⟩
    · exact .inl z
    · exact .inr ⟨v', by rw [List.getElem?_set_ne e]; exact h1, h2⟩
/-- a new list or dict comes to be owned -/
theorem S.take (s : S T Hb Ob O H σ ρ) {p : Addr} (hp : H p = none) (e : Ex T H H') (hp' : ∃ o, H' p = some o ∧ LD o) : S T Hb Ob (Op O p) H' σ ρ := by
  refine ⟨s.ex.trans e, fun a h => .inl (s.ob a h), fun a h n => ?_, fun a h => ?_, fun a h n => ?_, e.tabs s.tabs, s.len, fun i r h => (s.get i r h).imp id fun ⟨v, h1, h2⟩ => ⟨v, h1, (h2.grow hp).ex e⟩⟩
  · rcases h with h | h
    · exact s.own a h n
    · subst h; exact none_back s.ex hp
  · rcases h with h | h
    · exact e.some a (s.oin a h)
    · subst h; obtain ⟨o, h1, _⟩ := hp'; rw [h1]; exact fun z => nomatch z
  · rcases h with h | h
    · obtain ⟨o, h1, h2⟩ := s.kind a h n; exact ⟨o, e.keep _ _ h1 h2.nt, h2⟩
    · subst h; exact hp'
/-- less is known -/
def Weak (ρ ρ' : List Sl) : Prop := ρ.length = ρ'.length ∧ ∀ (i : Nat) (r : Sl), ρ'[i]? = some r → r = .any ∨ ρ[i]? = some r
theorem S.weak {ρ' : List Sl} (s : S T Hb Ob O H σ ρ) (w : Weak ρ ρ') : S T Hb Ob O H σ ρ' :=
  ⟨s.ex, s.ob, s.own, s.oin, s.kind, s.tabs, s.len.trans w.1, fun i r h => (w.2 i r h).elim .inl fun z => s.get i r z⟩
theorem Weak.refl (ρ : List Sl) : Weak ρ ρ := ⟨rfl, fun _ _ h => .inr h⟩
end

/-! ### the weakest readings -/
def wpE (X : Cx) (e : Expr) : TE := fun σ H Q => ∀ pins s, Inv X pins σ H s → wpAny (model X.prog X.w) X.A (eval e X.env) (EP X pins σ Q) X.xe s
theorem wpE_pe (X : Cx) (e : Expr) : PE X e (wpE X e) := ⟨fun pins s _ _ _ I h => h pins s I⟩
theorem wpE_of {X : Cx} {e : Expr} {t : TE} {σ : L2.St} {H : Hp} {Q : VK} (h : PE X e t) (q : t σ H Q) : wpE X e σ H Q := fun pins s I => h.run pins s σ H Q I q
def wpT (X : Cx) (e : Expr) : TT := fun σ H Q => ∀ pins s, Inv X pins σ H s → wpAny (model X.prog X.w) X.A (isTrue e X.env (eval e X.env)) (TP X pins σ Q) X.xe s
theorem wpT_pt (X : Cx) (e : Expr) : PT X e (wpT X e) := ⟨fun pins s _ _ _ I h => h pins s I⟩
theorem wpT_of {X : Cx} {e : Expr} {t : TT} {σ : L2.St} {H : Hp} {Q : Bool → Hp → Prop} (h : PT X e t) (q : t σ H Q) : wpT X e σ H Q := fun pins s I => h.run pins s σ H Q I q
def wpS (X : Cx) (e : Stmt) : TS := fun Dn σ H => ∀ pins s, Inv X pins σ H s → wpAny (model X.prog X.w) X.A (exec e X.env) (SP X pins Dn) X.xe s
theorem wpS_ps (X : Cx) (e : Stmt) : PS X e (wpS X e) := ⟨fun pins s _ _ _ I h => h pins s I⟩
theorem wpS_of {X : Cx} {e : Stmt} {t : TS} {σ : L2.St} {H : Hp} {Dn : Ends} (h : PS X e t) (q : t Dn σ H) : wpS X e Dn σ H := fun pins s I => h.run pins s σ H Dn I q
def wpSs (X : Cx) (e : List Stmt) : TS := fun Dn σ H => ∀ pins s, Inv X pins σ H s → wpAny (model X.prog X.w) X.A (execs e X.env) (SP X pins Dn) X.xe s
theorem wpSs_ps (X : Cx) (e : List Stmt) : PSs X e (wpSs X e) := ⟨fun pins s _ _ _ I h => h pins s I⟩
theorem wpSs_of {X : Cx} {e : List Stmt} {t : TS} {σ : L2.St} {H : Hp} {Dn : Ends} (h : PSs X e t) (q : t Dn σ H) : wpSs X e Dn σ H := fun pins s I => h.run pins s σ H Dn I q

/-! ### expressions over data -/
def ED (T : Tbs) (X : Cx) (ρ : List Sl) (e : Expr) (r : Sl) : Prop := ∀ Hb Ob O σ H, S T Hb Ob O H σ ρ → ∀ Q : VK, (∀ v H2, Ex T H H2 → ROk Ob O H2 v r → Q v H2) → wpE X e σ H Q
def ET (T : Tbs) (X : Cx) (ρ : List Sl) (e : Expr) (b : Bool) : Prop := ∀ Hb Ob O σ H, S T Hb Ob O H σ ρ → ∀ Q : Bool → Hp → Prop, (∀ H2, Ex T H H2 → Q b H2) → wpT X e σ H Q
section
variable {X : Cx} {ρ : List Sl} {a b c e : Expr} {pos : Pos}
theorem ed_pe {t : TE} (r : Sl) (h : PE X e t) (q : ∀ Hb Ob O σ H, S T Hb Ob O H σ ρ → ∀ Q : VK, (∀ v H2, Ex T H H2 → ROk Ob O H2 v r → Q v H2) → t σ H Q) : ED T X ρ e r :=
  fun Hb Ob O σ H s Q k => wpE_of h (q Hb Ob O σ H s Q k)
theorem ed_var {x : Str} (i : Nat) {r : Sl} (hr : ρ[i]? = some r := by rfl) (hne : r ≠ .any := by intro z; cases z) (hN : X.N[i]? = some x := by rfl) (hv : Vis X.env.scope x := by first | exact Or.inl rfl | exact Or.inr (Or.inl rfl) | exact Or.inr (Or.inr rfl))
    (hd : (x == ("__debug__" : Str)) = false := by decide) (hcd : (x == ("__classdict__" : Str)) = false := by decide) : ED T X ρ (.Name x pos) r :=
  ed_pe r (pe_var hN hv hd hcd) fun Hb Ob O σ H s Q k => by
    rcases s.get i r hr with z | ⟨v, h1, h2⟩
    · exact absurd z hne
    · exact ⟨v, h1, k v H (Ex.refl H) h2⟩
theorem ed_int {i : Int} {j pos} : ED T X ρ (.Constant (.int i) j pos) (.d (.int i)) := ed_pe _ pe_int fun _ _ _ _ H _ _ k => k _ H (Ex.refl H) (.int i)
theorem ed_bl {i : Bool} {j pos} : ED T X ρ (.Constant (.bool i) j pos) (.d (.bl i)) := ed_pe _ pe_bl fun _ _ _ _ H _ _ k => k _ H (Ex.refl H) (.bl i)
theorem ed_non {j pos} : ED T X ρ (.Constant .none j pos) (.d .non) := ed_pe _ pe_non fun _ _ _ _ H _ _ k => k _ H (Ex.refl H) .non
theorem ed_gint {x : Str} {i : Int} {t : Tok} (hm : X.mg x = some (.int i t)) (hg : Gl X x := by rfl) (hd : (x == ("__debug__" : Str)) = false := by decide) : ED T X ρ (.Name x pos) (.d (.int i)) :=
  ed_pe _ (pe_glob (v := .int i) hg hm ⟨_, rfl⟩ hd) fun _ _ _ _ H _ _ k => k _ H (Ex.refl H) (.int i)
/-- a binary rule, lifted -/
theorem ed_bin {r : R2} {x y w : Sl} (hpe : ∀ ta tb, PE X a ta → PE X b tb → PE X e (tOp r ta tb)) (ha : ED T X ρ a x) (hb : ED T X ρ b y)
    (hr : ∀ Ob O H v u (Q : VK), (∀ p, O p → H p ≠ none) → ROk Ob O H v x → ROk Ob O H u y → (∀ z H2, Ex T H H2 → ROk Ob O H2 z w → Q z H2) → r v u H Q) : ED T X ρ e w :=
  fun Hb Ob O σ H s Q k => wpE_of (hpe _ _ (wpE_pe X a) (wpE_pe X b)) <|
    ha Hb Ob O σ H s _ fun v H1 e1 rv => hb Hb Ob O σ H1 (s.on e1) _ fun u H2 e2 ru => hr Ob O H2 v u Q ((s.on e1).on e2).oin (rv.ex e2) ru fun z H3 e3 rz => k z H3 (e1.trans (e2.trans e3)) rz
theorem ed_un {r : V → Hp → VK → Prop} {x w : Sl} (hpe : ∀ ta, PE X a ta → PE X e (fun σ H Q => ta σ H fun v H1 => r v H1 Q)) (ha : ED T X ρ a x)
    (hr : ∀ Ob O H v (Q : VK), (∀ p, O p → H p ≠ none) → ROk Ob O H v x → (∀ z H2, Ex T H H2 → ROk Ob O H2 z w → Q z H2) → r v H Q) : ED T X ρ e w :=
  fun Hb Ob O σ H s Q k => wpE_of (hpe _ (wpE_pe X a)) <|
    ha Hb Ob O σ H s _ fun v H1 e1 rv => hr Ob O H1 v Q (s.on e1).oin rv fun z H3 e3 rz => k z H3 (e1.trans e3) rz
theorem ed_add {i j : Int} (ha : ED T X ρ a (.d (.int i))) (hb : ED T X ρ b (.d (.int j))) : ED T X ρ (.BinOp a .Add b pos) (.d (.int (i + j))) :=
  ed_bin (fun _ _ h g => pe_op op_add h g) ha hb fun Ob O H v u Q _ rv ru k => ⟨i, j, Den.int_inv rv, Den.int_inv ru, k _ H (Ex.refl H) (.int _)⟩
theorem ed_sub {i j : Int} (ha : ED T X ρ a (.d (.int i))) (hb : ED T X ρ b (.d (.int j))) : ED T X ρ (.BinOp a .Sub b pos) (.d (.int (i - j))) :=
  ed_bin (fun _ _ h g => pe_op op_sub h g) ha hb fun Ob O H v u Q _ rv ru k => ⟨i, j, Den.int_inv rv, Den.int_inv ru, k _ H (Ex.refl H) (.int _)⟩
theorem ed_mul {i j : Int} (hc : CMul i j) (ha : ED T X ρ a (.d (.int i))) (hb : ED T X ρ b (.d (.int j))) : ED T X ρ (.BinOp a .Mult b pos) (.d (.int (i * j))) :=
  ed_bin (fun _ _ h g => pe_op op_mul h g) ha hb fun Ob O H v u Q _ rv ru k => ⟨i, j, Den.int_inv rv, Den.int_inv ru, hc, k _ H (Ex.refl H) (.int _)⟩
theorem ed_lt {i j : Int} (ha : ED T X ρ a (.d (.int i))) (hb : ED T X ρ b (.d (.int j))) : ED T X ρ (.Compare a [.Lt] [b] pos) (.d (.bl (decide (i < j)))) :=
  ed_bin (fun _ _ h g => pe_cmpR op_lt h g (nomark _)) ha hb fun Ob O H v u Q _ rv ru k => ⟨i, j, Den.int_inv rv, Den.int_inv ru, k _ H (Ex.refl H) (.bl _)⟩
theorem ed_le {i j : Int} (ha : ED T X ρ a (.d (.int i))) (hb : ED T X ρ b (.d (.int j))) : ED T X ρ (.Compare a [.LtE] [b] pos) (.d (.bl (decide (i ≤ j)))) :=
  ed_bin (fun _ _ h g => pe_cmpR op_le h g (nomark _)) ha hb fun Ob O H v u Q _ rv ru k => ⟨i, j, Den.int_inv rv, Den.int_inv ru, k _ H (Ex.refl H) (.bl _)⟩
theorem ed_gt {i j : Int} (ha : ED T X ρ a (.d (.int i))) (hb : ED T X ρ b (.d (.int j))) : ED T X ρ (.Compare a [.Gt] [b] pos) (.d (.bl (decide (j < i)))) :=
  ed_bin (fun _ _ h g => pe_cmpR op_gt h g (nomark _)) ha hb fun Ob O H v u Q _ rv ru k => ⟨i, j, Den.int_inv rv, Den.int_inv ru, k _ H (Ex.refl H) (.bl _)⟩
theorem ed_ge {i j : Int} (ha : ED T X ρ a (.d (.int i))) (hb : ED T X ρ b (.d (.int j))) : ED T X ρ (.Compare a [.GtE] [b] pos) (.d (.bl (decide (j ≤ i)))) :=
  ed_bin (fun _ _ h g => pe_cmpR op_ge h g (nomark _)) ha hb fun Ob O H v u Q _ rv ru k => ⟨i, j, Den.int_inv rv, Den.int_inv ru, k _ H (Ex.refl H) (.bl _)⟩
theorem scal_ints (i j : Int) : scal (.int i) (.int j) = true := rfl
theorem ed_eqI {i j : Int} (ha : ED T X ρ a (.d (.int i))) (hb : ED T X ρ b (.d (.int j))) : ED T X ρ (.Compare a [.Eq] [b] pos) (.d (.bl (decide (i = j)))) :=
  ed_bin (fun _ _ h g => pe_cmpR op_eq h g (nomark _)) ha hb fun Ob O H v u Q _ rv ru k => by
    cases Den.int_inv rv; cases Den.int_inv ru
    exact ⟨scal_ints i j, by rw [show decide (V.int i = V.int j) = decide (i = j) from by simp]; exact k _ H (Ex.refl H) (.bl _)⟩
theorem ed_neI {i j : Int} (ha : ED T X ρ a (.d (.int i))) (hb : ED T X ρ b (.d (.int j))) : ED T X ρ (.Compare a [.NotEq] [b] pos) (.d (.bl (!decide (i = j)))) :=
  ed_bin (fun _ _ h g => pe_cmpR op_ne h g (nomark _)) ha hb fun Ob O H v u Q _ rv ru k => by
    cases Den.int_inv rv; cases Den.int_inv ru
    exact ⟨scal_ints i j, by rw [show decide (V.int i = V.int j) = decide (i = j) from by simp]; exact k _ H (Ex.refl H) (.bl _)⟩
end
end Fl

/-! FloE -/
namespace Fl
open PySem L2 PyProof.Rows
variable {T : Tbs}

theorem le_line {n : Nat} (h : n ≤ 100000) : n ≤ sizeLine := Evl.sz_of h
/-- what is read as a sequence of data -/
def Seq (r : Sl) (ds : List D) : Prop := r = .d (.lst ds) ∨ r = .d (.tup ds) ∨ ∃ l, r = .ol l ds
def SeqL (r : Sl) (ds : List D) : Prop := r = .d (.lst ds) ∨ ∃ l, r = .ol l ds
theorem Seq.l (ds : List D) : Seq (.d (.lst ds)) ds := .inl rfl
theorem Seq.t (ds : List D) : Seq (.d (.tup ds)) ds := .inr (.inl rfl)
theorem Seq.o (l : Addr) (ds : List D) : Seq (.ol l ds) ds := .inr (.inr ⟨l, rfl⟩)
theorem SeqL.seq {r : Sl} {ds : List D} (h : SeqL r ds) : Seq r ds := h.elim .inl fun h => .inr (.inr h)
theorem ROk.seqL {Ob O : Ow} {H : Hp} {K : PySem.W.Frag} {v : V} {r : Sl} {ds : List D} (h : ROk Ob O H v r) (q : SeqL r ds) : ∃ a vs, v = .ref a ∧ SqL K H a vs ∧ Dens O H vs ds := by
  rcases q with rfl | ⟨l, rfl⟩
  · cases h with
    | lst h n hd => exact ⟨_, _, rfl, .inl h, hd⟩
  · obtain ⟨h1, h2, h3, vs, h4, h5⟩ := h
    exact ⟨l, vs, h1, .inl (.inl h4), h5⟩
theorem ROk.seq {Ob O : Ow} {H : Hp} {K : PySem.W.Frag} {v : V} {r : Sl} {ds : List D} (h : ROk Ob O H v r) (q : Seq r ds) : ∃ a vs, v = .ref a ∧ (SqL K H a vs ∨ SqT K H a vs) ∧ Dens O H vs ds := by
  rcases q with q | q | q
  · obtain ⟨a, vs, h1, h2, h3⟩ := h.seqL (K := K) (.inl q); exact ⟨a, vs, h1, .inl h2, h3⟩
  · subst q
    cases h with
    | tup h n hd => exact ⟨_, _, rfl, .inr (.inl h), hd⟩
  · obtain ⟨a, vs, h1, h2, h3⟩ := h.seqL (K := K) (.inr q); exact ⟨a, vs, h1, .inl h2, h3⟩

/-! ### readings of lists of arguments, of tests -/
def wpA (X : Cx) (es : List Expr) : TA := fun σ H Q => ∀ (pos : Pos) pins s, Inv X pins σ H s → wpAny (model X.prog X.w) X.A (spliced (backTo pos (starEach es X.env))) (AP X pins σ Q) X.xe s
theorem wpA_pa (X : Cx) (es : List Expr) : PA X es (wpA X es) := ⟨fun pos pins s _ _ _ I h => h pos pins s I⟩
theorem wpA_of {X : Cx} {es : List Expr} {t : TA} {σ : L2.St} {H : Hp} {Q : List V → Hp → Prop} (h : PA X es t) (q : t σ H Q) : wpA X es σ H Q := fun pos pins s I => h.run pos pins s σ H Q I q
def wpW (X : Cx) (e : Expr) : TT := fun σ H Q => ∀ (whole : Sem Value) pins s, Inv X pins σ H s → wpAny (model X.prog X.w) X.A (isTrue e X.env whole) (TP X pins σ Q) X.xe s
theorem wpW_pw (X : Cx) (e : Expr) : PW X e (wpW X e) := ⟨fun w pins s _ _ _ I h => h w pins s I⟩
theorem wpW_of {X : Cx} {e : Expr} {t : TT} {σ : L2.St} {H : Hp} {Q : Bool → Hp → Prop} (h : PW X e t) (q : t σ H Q) : wpW X e σ H Q := fun w pins s I => h.run w pins s σ H Q I q
def EA (T : Tbs) (X : Cx) (ρ : List Sl) (es : List Expr) (ds : List D) : Prop := ∀ Hb Ob O σ H, S T Hb Ob O H σ ρ → ∀ Q : List V → Hp → Prop, (∀ vs H2, Ex T H H2 → Dens O H2 vs ds → Q vs H2) → wpA X es σ H Q
def EW (T : Tbs) (X : Cx) (ρ : List Sl) (e : Expr) (b : Bool) : Prop := ∀ Hb Ob O σ H, S T Hb Ob O H σ ρ → ∀ Q : Bool → Hp → Prop, (∀ H2, Ex T H H2 → Q b H2) → wpW X e σ H Q
/-- a new list -/
def EF (T : Tbs) (X : Cx) (ρ : List Sl) (e : Expr) (ds : List D) : Prop := ∀ Hb Ob O σ H, S T Hb Ob O H σ ρ → ∀ Q : VK, (∀ p vs H2, H p = none → Ex T H H2 → H2 p = some (.lst vs) → Dens (Op O p) H2 vs ds → Q (.ref p) H2) → wpE X e σ H Q
def EFd (T : Tbs) (X : Cx) (ρ : List Sl) (e : Expr) (kvs : List (Int × D)) : Prop := ∀ Hb Ob O σ H, S T Hb Ob O H σ ρ → ∀ Q : VK, (∀ p ks H2, H p = none → Ex T H H2 → H2 p = some (.dK ks) → DenK (Op O p) H2 ks kvs → Q (.ref p) H2) → wpE X e σ H Q
def EO (T : Tbs) (X : Cx) (ρ : List Sl) (e : Option Expr) (o : Option Int) : Prop := ∃ t, PO X e t ∧ ∀ Hb Ob O σ H, S T Hb Ob O H σ ρ → ∀ Q : Option Int → Hp → Prop, (∀ H2, Ex T H H2 → Q o H2) → t σ H Q

section
variable {X : Cx} {ρ : List Sl} {a b c e : Expr} {es : List Expr} {pos p : Pos}
theorem EF.ed {ds : List D} (h : EF T X ρ e ds) : ED T X ρ e (.d (.lst ds)) := fun Hb Ob O σ H s Q k => h Hb Ob O σ H s Q fun p vs H2 hp e h2 hd => k _ H2 e (.lst (.inl h2) (s.fresh hp) hd.less)
theorem EFd.ed {ds : List (Int × D)} (h : EFd T X ρ e ds) : ED T X ρ e (.d (.dct ds)) := fun Hb Ob O σ H s Q k => h Hb Ob O σ H s Q fun p vs H2 hp e h2 hd => k _ H2 e (.dct h2 (s.fresh hp) (hd.mono (fun _ z => .inl z) (.refl _)))
theorem ea_nil : EA T X ρ [] [] := fun Hb Ob O σ H s Q k => wpA_of pa_nil (k [] H (Ex.refl H) .nil)
theorem ea_cons {x : D} {ds : List D} (h : ED T X ρ e (.d x)) (hr : EA T X ρ es ds) (hs : starEach (e :: es) X.env = (false, eval e X.env) :: starEach es X.env := by rfl) : EA T X ρ (e :: es) (x :: ds) :=
  fun Hb Ob O σ H s Q k => wpA_of (pa_cons (wpE_pe X e) (wpA_pa X es) hs) <| h Hb Ob O σ H s _ fun v H1 e1 rv => hr Hb Ob O σ H1 (s.on e1) _ fun vs H2 e2 hd => k _ H2 (e1.trans e2) (.cons (Den.ex rv e2) hd)
theorem ea_star {r : Sl} {xs ds : List D} (h : ED T X ρ e r) (hq : Seq r xs) (hr : EA T X ρ es ds) (hs : starEach (.Starred e p :: es) X.env = (true, eval e X.env) :: starEach es X.env := by rfl) : EA T X ρ (.Starred e p :: es) (xs ++ ds) :=
  fun Hb Ob O σ H s Q k => wpA_of (StX.pa_star (wpE_pe X e) (wpA_pa X es) hs) <| h Hb Ob O σ H s _ fun v H1 e1 rv => by
    obtain ⟨q, vs, rfl, h2, hd⟩ := rv.seq (K := X.K) hq
    exact ⟨q, vs, rfl, h2.symm, hr Hb Ob O σ H1 (s.on e1) _ fun us H2 e2 hd2 => k _ H2 (e1.trans e2) ((hd.ex e2).append hd2)⟩
theorem EA.to {ds ds' : List D} (h : EA T X ρ es ds) (e : ds = ds') : EA T X ρ es ds' := e ▸ h
theorem ED.to {r r' : Sl} (h : ED T X ρ e r) (q : r = r') : ED T X ρ e r' := q ▸ h
theorem EF.to {r r' : List D} (h : EF T X ρ e r) (q : r = r') : EF T X ρ e r' := q ▸ h
theorem ed_tup {x1 : Nat} {ds : List D} (h : EA T X ρ es ds) (hl : ds.length ≤ 100000) : ED T X ρ (.Tuple es x1 pos) (.d (.tup ds)) :=
  fun Hb Ob O σ H s Q k => wpE_of (pe_tup (wpA_pa X es)) <| h Hb Ob O σ H s _ fun vs H1 e1 hd => ⟨le_line (by rw [hd.length]; exact hl), fun q hq => k _ _ (e1.trans (Ex.new hq)) (.tup (.inl upd_same) ((s.on e1).fresh hq) (hd.ex (Ex.new (T := T) hq)))⟩
theorem ef_lst {ds : List D} (h : EA T X ρ es ds) (hl : ds.length ≤ 100000) : EF T X ρ (.List es pos) ds :=
  fun Hb Ob O σ H s Q k => wpE_of (pe_lst (wpA_pa X es)) <| h Hb Ob O σ H s _ fun vs H1 e1 hd => ⟨le_line (by rw [hd.length]; exact hl), fun q hq => k _ _ _ (none_back e1 hq) (e1.trans (Ex.new hq)) upd_same ((hd.grow hq).ex (Ex.new (T := T) hq))⟩
theorem efd_new : EFd T X ρ (.Dict [] [] pos) [] :=
  fun Hb Ob O σ H s Q k => wpE_of pe_dnewK fun q hq => k _ _ _ hq (Ex.new hq) upd_same .nil

/-! ### truth -/
theorem ed_and {x y : Bool} (ha : ED T X ρ a (.d (.bl x))) (hb : x = true → ED T X ρ (.BoolOp .And (b :: es) pos) (.d (.bl y))) : ED T X ρ (.BoolOp .And (a :: b :: es) pos) (.d (.bl (x && y))) :=
  fun Hb Ob O σ H s Q k => wpE_of (pe_and (wpE_pe X a) (wpE_pe X _)) <| ha Hb Ob O σ H s _ fun v H1 e1 rv => ⟨x, Den.bl_inv rv, by
    cases x with
    | true => exact iteT (hb rfl Hb Ob O σ H1 (s.on e1) _ fun z H2 e2 rz => k z H2 (e1.trans e2) rz)
    | false => exact iteF (k _ H1 e1 (.bl false))⟩
theorem ed_or {x y : Bool} (ha : ED T X ρ a (.d (.bl x))) (hb : x = false → ED T X ρ (.BoolOp .Or (b :: es) pos) (.d (.bl y))) : ED T X ρ (.BoolOp .Or (a :: b :: es) pos) (.d (.bl (x || y))) :=
  fun Hb Ob O σ H s Q k => wpE_of (pe_or (wpE_pe X a) (wpE_pe X _)) <| ha Hb Ob O σ H s _ fun v H1 e1 rv => ⟨x, Den.bl_inv rv, by
    cases x with
    | true => exact iteT (k _ H1 e1 (.bl true))
    | false => exact iteF (hb rfl Hb Ob O σ H1 (s.on e1) _ fun z H2 e2 rz => k z H2 (e1.trans e2) rz)⟩
theorem ed_one {op : BoolOp} {r : Sl} (h : ED T X ρ a r) : ED T X ρ (.BoolOp op [a] pos) r :=
  fun Hb Ob O σ H s Q k => wpE_of (pe_one (wpE_pe X a)) (h Hb Ob O σ H s Q k)
theorem ed_not {x : Bool} (h : ED T X ρ a (.d (.bl x))) : ED T X ρ (.UnaryOp .Not a pos) (.d (.bl (!x))) :=
  fun Hb Ob O σ H s Q k => wpE_of (pe_not (wpE_pe X a)) <| h Hb Ob O σ H s _ fun v H1 e1 rv => ⟨x, Den.bl_inv rv, k _ H1 e1 (.bl _)⟩
theorem ed_if {x : Bool} {r : Sl} (hc : ET T X ρ c x) (ha : x = true → ED T X ρ a r) (hb : x = false → ED T X ρ b r) : ED T X ρ (.IfExp c a b pos) r :=
  fun Hb Ob O σ H s Q k => wpE_of (pe_ifExp (wpT_pt X c) (wpE_pe X a) (wpE_pe X b)) <| hc Hb Ob O σ H s _ fun H1 e1 => by
    cases x with
    | true => exact iteT (ha rfl Hb Ob O σ H1 (s.on e1) _ fun z H2 e2 rz => k z H2 (e1.trans e2) rz)
    | false => exact iteF (hb rfl Hb Ob O σ H1 (s.on e1) _ fun z H2 e2 rz => k z H2 (e1.trans e2) rz)
def D.isNon : D → Bool
  | .non => true
  | _ => false
theorem Den.isNon {O : Ow} {H : Hp} {v : V} {d : D} (h : Den O H v d) : decide (v = .non) = d.isNon := by cases h <;> rfl
theorem ed_isN {j : Nat} {pos' : Pos} {d : D} (h : ED T X ρ a (.d d)) : ED T X ρ (.Compare a [.Is] [.Constant .none j pos'] pos) (.d (.bl d.isNon)) :=
  fun Hb Ob O σ H s Q k => wpE_of (pe_cmp (pc_isN (wpE_pe X a)) rfl) <| h Hb Ob O σ H s _ fun v H1 e1 rv => by
    show Q (.bl (decide (v = .non))) H1
    rw [Den.isNon rv]; exact k _ H1 e1 (.bl _)
theorem ed_chain_le {i j k : Int} (ha : ED T X ρ a (.d (.int i))) (hb : ED T X ρ b (.d (.int j))) (hc : ED T X ρ c (.d (.int k))) (hm : lastMarks [CmpOp.LtE, CmpOp.LtE] [b, c] = false := by with_unfolding_all rfl) : ED T X ρ (.Compare a [.LtE, .LtE] [b, c] pos) (.d (.bl (decide (i ≤ j) && decide (j ≤ k)))) :=
  fun Hb Ob O σ H s Q q => wpE_of (pe_chain op_le op_le (wpE_pe X a) (wpE_pe X b) (wpE_pe X c) (hm := hm)) <| ha Hb Ob O σ H s _ fun v H1 e1 rv => hb Hb Ob O σ H1 (s.on e1) _ fun u H2 e2 ru => by
    refine ⟨i, j, Den.int_inv rv, Den.int_inv ru, _, rfl, ?_⟩
    by_cases h : i ≤ j
    · rw [decide_eq_true h]
      refine iteT (hc Hb Ob O σ H2 ((s.on e1).on e2) _ fun w H3 e3 rw' => ⟨j, k, Den.int_inv ru, Den.int_inv rw', ?_⟩)
      exact q _ H3 (e1.trans (e2.trans e3)) (by rw [decide_eq_true h, Bool.true_and]; exact .bl _)
    · rw [decide_eq_false h]
      exact iteF (q _ H2 (e1.trans e2) (by rw [decide_eq_false h, Bool.false_and]; exact .bl _))
theorem et_val {x : Bool} (h : ED T X ρ e (.d (.bl x))) (he : ∀ whole, isTrue e X.env whole = (do let v ← whole; standAt e.pos; holding [v] (truthy v)) := by intro _; rfl) : ET T X ρ e x :=
  fun Hb Ob O σ H s Q k => wpT_of (pt_val (wpE_pe X e) he) <| h Hb Ob O σ H s _ fun v H1 e1 rv => ⟨x, Den.bl_inv rv, k H1 e1⟩
theorem et_cmp {op : CmpOp} {x : Bool} (h : ED T X ρ (.Compare a [op] [b] pos) (.d (.bl x))) (he : ∀ whole, isTrue (.Compare a [op] [b] pos) X.env whole = (do let v ← whole; standAt pos; holding [v] (truthy v)) := by intro _; rfl) : ET T X ρ (.Compare a [op] [b] pos) x := et_val h he
theorem et_not {x : Bool} (h : ET T X ρ a x) : ET T X ρ (.UnaryOp .Not a pos) (!x) :=
  fun Hb Ob O σ H s Q k => wpT_of (pt_not (wpT_pt X a)) <| h Hb Ob O σ H s _ fun H1 e1 => k H1 e1
theorem EW.et {x : Bool} (h : EW T X ρ e x) : ET T X ρ e x := fun Hb Ob O σ H s Q k => wpT_of (wpW_pw X e).pt (h Hb Ob O σ H s Q k)
theorem ew_and1 {x : Bool} (h : ET T X ρ a x) : EW T X ρ (.BoolOp .And [a] pos) x := fun Hb Ob O σ H s Q k => wpW_of (pw_and1 (wpT_pt X a)) (h Hb Ob O σ H s Q k)
theorem ew_or1 {x : Bool} (h : ET T X ρ a x) : EW T X ρ (.BoolOp .Or [a] pos) x := fun Hb Ob O σ H s Q k => wpW_of (pw_or1 (wpT_pt X a)) (h Hb Ob O σ H s Q k)
theorem ew_and {x y : Bool} (ha : ET T X ρ a x) (hb : x = true → EW T X ρ (.BoolOp .And (b :: es) pos) y) : EW T X ρ (.BoolOp .And (a :: b :: es) pos) (x && y) :=
  fun Hb Ob O σ H s Q k => wpW_of (pw_and (wpT_pt X a) (wpW_pw X _)) <| ha Hb Ob O σ H s _ fun H1 e1 => by
    cases x with
    | true => exact iteT (hb rfl Hb Ob O σ H1 (s.on e1) _ fun H2 e2 => k H2 (e1.trans e2))
    | false => exact iteF (k H1 e1)
theorem ew_or {x y : Bool} (ha : ET T X ρ a x) (hb : x = false → EW T X ρ (.BoolOp .Or (b :: es) pos) y) : EW T X ρ (.BoolOp .Or (a :: b :: es) pos) (x || y) :=
  fun Hb Ob O σ H s Q k => wpW_of (pw_or (wpT_pt X a) (wpW_pw X _)) <| ha Hb Ob O σ H s _ fun H1 e1 => by
    cases x with
    | true => exact iteT (k H1 e1)
    | false => exact iteF (hb rfl Hb Ob O σ H1 (s.on e1) _ fun H2 e2 => k H2 (e1.trans e2))
theorem ET.to {x y : Bool} (h : ET T X ρ e x) (q : x = y) : ET T X ρ e y := q ▸ h

/-! ### items, slices, sums of tuples -/
theorem ed_ix {r : Sl} {ds : List D} {i : Int} {x : D} (ha : ED T X ρ a r) (hq : Seq r ds) (hb : ED T X ρ b (.d (.int i))) (hi : 0 ≤ i) (hx : ds[i.toNat]? = some x) (hs : PlainIx b := by exact fun _ _ => rfl) : ED T X ρ (.Subscript a b pos) (.d x) :=
  ed_bin (r := rIx X.K) (fun _ _ h g => pe_ix ix_seq h g hs) ha hb fun Ob O H v u Q _ rv ru k => by
    obtain ⟨q, vs, rfl, h2, hd⟩ := rv.seq (K := X.K) hq
    obtain rfl := Den.int_inv ru
    obtain ⟨y, hy, dy⟩ := hd.get hx
    have hat : atI vs i = some y := by
      have e : i = ((i.toNat : Nat) : Int) := by omega
      rw [e]; exact atI_nat hy
    rcases h2 with h2 | h2
    · exact .inl ⟨q, vs, i, y, rfl, rfl, h2, hat, k _ H (Ex.refl H) dy⟩
    · exact .inr (.inl ⟨q, vs, i, y, rfl, rfl, h2, hat, k _ H (Ex.refl H) dy⟩)
def cutD (xs : List D) (lo hi : Option Int) : List D := (xs.drop (HT.sIx xs.length 0 lo)).take (HT.sIx xs.length xs.length hi - HT.sIx xs.length 0 lo)
theorem Dens.cut {O : Ow} {H : Hp} {vs : List V} {ds : List D} (h : Dens O H vs ds) (lo hi : Option Int) : Dens O H (cutV vs lo hi) (cutD ds lo hi) := by
  unfold cutV cutD
  rw [h.length]
  exact (h.drop _).take _
theorem eo_none : EO T X ρ none none := ⟨_, po_none, fun _ _ _ _ H _ _ k => k H (Ex.refl H)⟩
theorem eo_some {i : Int} (h : ED T X ρ e (.d (.int i))) : EO T X ρ (some e) (some i) := ⟨_, po_some (wpE_pe X e), fun Hb Ob O σ H s Q k => h Hb Ob O σ H s _ fun v H1 e1 rv => ⟨i, Den.int_inv rv, k H1 e1⟩⟩
theorem ed_slT {ds : List D} {lo hi : Option Expr} {l u : Option Int} {p2 : Pos} (ha : ED T X ρ a (.d (.tup ds))) (hl : EO T X ρ lo l) (hu : EO T X ρ hi u) : ED T X ρ (.Subscript a (.Slice lo hi none p2) pos) (.d (.tup (cutD ds l u))) := by
  obtain ⟨tl, pl, ql⟩ := hl
  obtain ⟨tu, pu, qu⟩ := hu
  refine fun Hb Ob O σ H s Q k => wpE_of (pe_slice sl_tupA (wpE_pe X a) pl pu) <| ha Hb Ob O σ H s _ fun v H1 e1 rv => ql Hb Ob O σ H1 (s.on e1) _ fun H2 e2 => qu Hb Ob O σ H2 ((s.on e1).on e2) _ fun H3 e3 => ?_
  have rv := (Den.ex rv e2).ex e3
  have s3 := ((s.on e1).on e2).on e3
  cases rv with
  | @tup a vs _ h n hd =>
    refine ⟨a, vs, rfl, .inl h, fun z => k _ H3 (e1.trans (e2.trans e3)) (.tup h n ?_), fun z q hq => k _ _ (e1.trans (e2.trans (e3.trans (Ex.new hq)))) (.tup (.inl upd_same) (s3.fresh hq) ((hd.cut l u).ex (Ex.new (T := T) hq)))⟩
    have hc : cutV vs l u = vs := by unfold cutV; rw [z.1, z.2]; simp
    rw [← hc]; exact hd.cut l u
theorem ef_slL {r : Sl} {ds : List D} {lo hi : Option Expr} {l u : Option Int} {p2 : Pos} (ha : ED T X ρ a r) (hq : SeqL r ds) (hl : EO T X ρ lo l) (hu : EO T X ρ hi u) : EF T X ρ (.Subscript a (.Slice lo hi none p2) pos) (cutD ds l u) := by
  obtain ⟨tl, pl, ql⟩ := hl
  obtain ⟨tu, pu, qu⟩ := hu
  refine fun Hb Ob O σ H s Q k => wpE_of (pe_slice sl_list (wpE_pe X a) pl pu) <| ha Hb Ob O σ H s _ fun v H1 e1 rv => ql Hb Ob O σ H1 (s.on e1) _ fun H2 e2 => qu Hb Ob O σ H2 ((s.on e1).on e2) _ fun H3 e3 => ?_
  obtain ⟨q, vs, rfl, h2, hd⟩ := ((rv.ex e2).ex e3).seqL (K := X.K) hq
  have e4 := e1.trans (e2.trans e3)
  exact ⟨q, vs, rfl, h2, fun p hp => k _ _ _ (none_back e4 hp) (e4.trans (Ex.new hp)) upd_same (((hd.cut l u).grow hp).ex (Ex.new (T := T) hp))⟩
theorem ed_catT {xs ys : List D} (ha : ED T X ρ a (.d (.tup xs))) (hb : ED T X ρ b (.d (.tup ys))) (hl : xs.length + ys.length ≤ 100000) : ED T X ρ (.BinOp a .Add b pos) (.d (.tup (xs ++ ys))) :=
  ed_bin (r := rCatA X.K) (fun _ _ h g => pe_op op_catA h g) ha hb fun Ob O H v u Q oin rv ru k => by
    cases rv with
    | @tup p vs _ h n hd =>
      cases ru with
      | @tup q us _ h' n' hd' =>
        refine ⟨p, q, vs, us, rfl, rfl, .inl h, .inl h', le_line (by rw [hd.length, hd'.length]; exact hl), fun z => ?_, fun _ z => ?_, fun _ _ p2 hp2 => ?_⟩
        · subst z; cases hd; exact k _ H (Ex.refl H) (.tup h' n' hd')
        · subst z; cases hd'; exact k _ H (Ex.refl H) (by rw [List.append_nil]; exact .tup h n hd)
        · exact k _ _ (Ex.new hp2) (.tup (.inl upd_same) (fun z => oin _ z hp2) ((hd.append hd').ex (Ex.new (T := T) hp2)))

/-! ### in, not in over ints -/
theorem inV_ints (k : Int) (ns : List Int) : inV (.int k) (ns.map V.int) = decide (k ∈ ns) := by
  unfold inV
  induction ns with
  | nil => simp
  | cons n ns ih =>
    rw [List.map_cons, List.any_cons, ih]
    have e : eqV (.int n) (.int k) = decide (k = n) := by
      show (n == k) = decide (k = n)
      by_cases h : n = k
      · subst h; simp
      · have h' : ¬ k = n := fun z => h z.symm
        simp [h, h']
    rw [e]
    by_cases h : k = n <;> simp [h]
theorem flat_ints (ns : List Int) : (ns.map V.int).all flatV = true := by
  induction ns with
  | nil => rfl
  | cons n ns ih => rw [List.map_cons, List.all_cons, ih]; rfl
theorem ed_notIn {k : Int} {r : Sl} {ns : List Int} (ha : ED T X ρ a (.d (.int k))) (hb : ED T X ρ b r) (hq : Seq r (ns.map D.int)) (hm : behindInMarks .NotIn b = false := by rfl) : ED T X ρ (.Compare a [.NotIn] [b] pos) (.d (.bl (!decide (k ∈ ns)))) :=
  ed_bin (r := rIn X.K true) (fun _ _ h g => pe_cmpR op_notIn_seq h g hm) ha hb fun Ob O H v u Q _ rv ru q => by
    obtain rfl := Den.int_inv rv
    obtain ⟨p, vs, rfl, h2, hd⟩ := ru.seq (K := X.K) hq
    obtain rfl := hd.ints
    refine ⟨p, _, rfl, h2, rfl, flat_ints ns, ?_⟩
    rw [inV_ints]
    exact q _ H (Ex.refl H) (.bl _)

/-! ### built-in functions of one argument -/
theorem ed_cb {id : String} {x : Str} {r : List V → Hp → VK → Prop} {r1 w : Sl} (hc : CallR X (.builtin id) r) (hg : Gl X x) (hm : X.mg x = none) (hv : bootBuiltins x = some (.builtin id)) (ha : ED T X ρ a r1)
    (hr : ∀ Ob O H v (Q : VK), (∀ p, O p → H p ≠ none) → ROk Ob O H v r1 → (∀ z H2, Ex T H H2 → ROk Ob O H2 z w → Q z H2) → r [v] H Q) (hn : x ≠ "__name__" := by decide) (hdb : (x == ("__debug__" : Str)) = false := by decide)
    (hs : starEach [a] X.env = (false, eval a X.env) :: starEach [] X.env := by rfl) (hpl : (backTo pos (starEach [] X.env)).any (·.1) = false := by rfl) : ED T X ρ (.Call (.Name x p) [a] [] pos) w :=
  fun Hb Ob O σ H s Q k => wpE_of (pe_callB hc hg hm hv (pa_cons (wpE_pe X a) pa_nil hs) hn hdb (he := hs) (hpl := hpl)) <| ha Hb Ob O σ H s _ fun v H1 e1 rv => hr Ob O H1 v Q (s.on e1).oin rv fun z H3 e3 rz => k z H3 (e1.trans e3) rz
theorem ed_len {r : Sl} {ds : List D} (hm : X.mg "len" = none) (ha : ED T X ρ a r) (hq : Seq r ds) (hg : Gl X "len" := by rfl) (hs : starEach [a] X.env = (false, eval a X.env) :: starEach [] X.env := by rfl) : ED T X ρ (.Call (.Name "len" p) [a] [] pos) (.d (.int ds.length)) :=
  ed_cb call_len_seq hg hm PySem.boot_len ha (fun Ob O H v Q _ rv k => by
    obtain ⟨q, vs, rfl, h2, hd⟩ := rv.seq (K := X.K) hq
    exact ⟨q, vs, rfl, h2, by rw [hd.length]; exact k _ H (Ex.refl H) (.int _)⟩) (hs := hs)
/-- the greatest -/
def maxL : List Int → Int
  | [] => 0
  | [x] => x
  | x :: y :: r => max x (maxL (y :: r))
theorem maxL_mem : ∀ {ns : List Int}, ns ≠ [] → maxL ns ∈ ns
  | [], h => absurd rfl h
  | [x], _ => by simp [maxL]
  | x :: y :: r, _ => by
    have ih := maxL_mem (ns := y :: r) (by simp)
    show max x (maxL (y :: r)) ∈ x :: y :: r
    by_cases h : maxL (y :: r) ≤ x
    · rw [Int.max_eq_left h]; exact List.mem_cons_self
    · rw [Int.max_eq_right (by omega)]; exact List.mem_cons_of_mem _ ih
theorem le_maxL : ∀ {ns : List Int} {x : Int}, x ∈ ns → x ≤ maxL ns
  | [], _, h => by simp at h
  | [y], x, h => by simp at h; subst h; exact Int.le_refl _
  | y :: z :: r, x, h => by
    show x ≤ max y (maxL (z :: r))
    rcases List.mem_cons.mp h with h | h
    · subst h; omega
    · have := le_maxL (ns := z :: r) h; omega
theorem maxL_eq {ns : List Int} {m : Int} (h : m ∈ ns) (g : ∀ y ∈ ns, y ≤ m) : m = maxL ns := by
  have h1 := le_maxL h
  have h2 := g _ (maxL_mem (ns := ns) (by intro z; subst z; simp at h))
  omega
theorem ed_max {r : Sl} {ns : List Int} (hc : X.calm = true) (hm : X.mg "max" = none) (ha : ED T X ρ a r) (hq : SeqL r (ns.map D.int)) (hne : ns ≠ []) (hg : Gl X "max" := by rfl) (hs : starEach [a] X.env = (false, eval a X.env) :: starEach [] X.env := by rfl) : ED T X ρ (.Call (.Name "max" p) [a] [] pos) (.d (.int (maxL ns))) :=
  ed_cb (cr_max hc) hg hm (by decide +kernel) ha (fun Ob O H v Q _ rv k => by
    obtain ⟨q, vs, rfl, h2, hd⟩ := rv.seqL (K := X.K) hq
    obtain rfl := hd.ints
    refine ⟨q, ns, rfl, h2, by cases ns with | nil => exact absurd rfl hne | cons _ _ => simp, fun m h3 h4 => ?_⟩
    rw [maxL_eq h3 h4]
    exact k _ H (Ex.refl H) (.int _)) (hs := hs)
theorem ed_all {r : Sl} {bs : List Bool} (hc : X.calm = true) (hm : X.mg "all" = none) (ha : ED T X ρ a r) (hq : SeqL r (bs.map D.bl)) (hg : Gl X "all" := by rfl) (hs : starEach [a] X.env = (false, eval a X.env) :: starEach [] X.env := by rfl) : ED T X ρ (.Call (.Name "all" p) [a] [] pos) (.d (.bl (bs.all id))) :=
  ed_cb (cr_all hc) hg hm (by decide +kernel) ha (fun Ob O H v Q _ rv k => by
    obtain ⟨q, vs, rfl, h2, hd⟩ := rv.seqL (K := X.K) hq
    obtain rfl := hd.bls
    exact ⟨q, bs, rfl, h2, k _ H (Ex.refl H) (.bl _)⟩) (hs := hs)
theorem ed_any {r : Sl} {bs : List Bool} (hc : X.calm = true) (hm : X.mg "any" = none) (ha : ED T X ρ a r) (hq : SeqL r (bs.map D.bl)) (hg : Gl X "any" := by rfl) (hs : starEach [a] X.env = (false, eval a X.env) :: starEach [] X.env := by rfl) : ED T X ρ (.Call (.Name "any" p) [a] [] pos) (.d (.bl (bs.any id))) :=
  ed_cb (cr_any hc) hg hm (by decide +kernel) ha (fun Ob O H v Q _ rv k => by
    obtain ⟨q, vs, rfl, h2, hd⟩ := rv.seqL (K := X.K) hq
    obtain rfl := hd.bls
    exact ⟨q, bs, rfl, h2, k _ H (Ex.refl H) (.bl _)⟩) (hs := hs)
/-- the ints in order -/
def sortI (ns : List Int) : List Int := ns.mergeSort (fun a b => decide (a ≤ b))
theorem sortI_perm (ns : List Int) : (sortI ns).Perm ns := List.mergeSort_perm _ _
theorem sortI_sorted (ns : List Int) : (sortI ns).Pairwise (· ≤ ·) := by
  have h := List.pairwise_mergeSort (le := fun a b : Int => decide (a ≤ b)) (fun a b c h1 h2 => by simp at *; omega) (fun a b => by simp; omega) ns
  exact h.imp fun h => by simpa using h
theorem sortI_eq {ns ms : List Int} (hp : ms.Perm ns) (hs : ms.Pairwise (· ≤ ·)) : ms = sortI ns :=
  List.Perm.eq_of_pairwise (le := (· ≤ ·)) (fun a b _ _ h1 h2 => by omega) hs (sortI_sorted ns) (hp.trans (sortI_perm ns).symm)
theorem ef_sorted {r : Sl} {ns : List Int} (hm : X.mg "sorted" = none) (ha : ED T X ρ a r) (hq : SeqL r (ns.map D.int)) (hg : Gl X "sorted" := by rfl) (hs : starEach [a] X.env = (false, eval a X.env) :: starEach [] X.env := by rfl) : EF T X ρ (.Call (.Name "sorted" p) [a] [] pos) ((sortI ns).map D.int) :=
  fun Hb Ob O σ H s Q k => wpE_of (pe_callB cr_sortedI hg hm (by decide +kernel) (pa_cons (wpE_pe X a) pa_nil hs) (he := hs) (hpl := by rfl)) <| ha Hb Ob O σ H s _ fun v H1 e1 rv => by
    obtain ⟨q, vs, rfl, h2, hd⟩ := rv.seqL (K := X.K) hq
    obtain rfl := hd.ints
    refine ⟨q, ns, rfl, h2, fun ns' p2 h3 h4 hp => ?_⟩
    rw [sortI_eq h3 h4]
    exact k _ _ _ (none_back e1 hp) (e1.trans (Ex.new hp)) upd_same (Dens.of_ints _)
theorem ef_list {r : Sl} {ds : List D} (hm : X.mg "list" = none) (ha : ED T X ρ a r) (hq : Seq r ds) (hg : Gl X "list" := by rfl) (hs : starEach [a] X.env = (false, eval a X.env) :: starEach [] X.env := by rfl) : EF T X ρ (.Call (.Name "list" p) [a] [] pos) ds :=
  fun Hb Ob O σ H s Q k => wpE_of (pe_callTy call_list_of hg hm (by decide +kernel) (pa_cons (wpE_pe X a) pa_nil hs) (he := hs) (hpl := by rfl)) <| ha Hb Ob O σ H s _ fun v H1 e1 rv => by
    obtain ⟨q, vs, rfl, h2, hd⟩ := rv.seq (K := X.K) hq
    exact ⟨q, vs, rfl, h2, fun l hl => k _ _ _ (none_back e1 hl) (e1.trans (Ex.new hl)) upd_same ((hd.grow hl).ex (Ex.new (T := T) hl))⟩
theorem ed_tupleL {r : Sl} {ds : List D} (hm : X.mg "tuple" = none) (ha : ED T X ρ a r) (hq : SeqL r ds) (hg : Gl X "tuple" := by rfl) (hs : starEach [a] X.env = (false, eval a X.env) :: starEach [] X.env := by rfl) : ED T X ρ (.Call (.Name "tuple" p) [a] [] pos) (.d (.tup ds)) :=
  fun Hb Ob O σ H s Q k => wpE_of (pe_callTy call_tuple_of hg hm (by decide +kernel) (pa_cons (wpE_pe X a) pa_nil hs) (he := hs) (hpl := by rfl)) <| ha Hb Ob O σ H s _ fun v H1 e1 rv => by
    obtain ⟨q, vs, rfl, h2, hd⟩ := rv.seqL (K := X.K) hq
    exact ⟨q, vs, rfl, .inl ⟨h2, fun l hl => k _ _ (e1.trans (Ex.new hl)) (.tup (.inl upd_same) ((s.on e1).fresh hl) (hd.ex (Ex.new (T := T) hl)))⟩⟩
def rgD (n : Int) : List D := (List.range n.toNat).map fun i => D.int (i : Nat)
theorem dens_rg {O : Ow} {H : Hp} (n : Int) : Dens O H (rgV 0 n) (rgD n) := by
  have e1 : rgV 0 n = ((List.range n.toNat).map fun i : Nat => (i : Int)).map V.int := by
    unfold rgV; rw [List.map_map, Int.sub_zero]; apply List.map_congr_left; intro i _; simp
  have e2 : rgD n = ((List.range n.toNat).map fun i : Nat => (i : Int)).map D.int := by
    unfold rgD; rw [List.map_map]; rfl
  rw [e1, e2]; exact Dens.of_ints _
theorem ef_listRg {n : Int} {p2 pos2 : Pos} (hc : X.calm = true) (hm : X.mg "list" = none) (hm2 : X.mg "range" = none) (ha : ED T X ρ a (.d (.int n))) (hn : 0 ≤ n ∧ n ≤ 100000) (hg : Gl X "list" := by rfl) (hg2 : Gl X "range" := by rfl) (hs : starEach [a] X.env = (false, eval a X.env) :: starEach [] X.env := by rfl)
    (hs2 : starEach [.Call (.Name "range" p2) [a] [] pos2] X.env = (false, eval (.Call (.Name "range" p2) [a] [] pos2) X.env) :: starEach [] X.env := by rfl) : EF T X ρ (.Call (.Name "list" p) [.Call (.Name "range" p2) [a] [] pos2] [] pos) (rgD n) :=
  fun Hb Ob O σ H s Q k => wpE_of (pe_listRg hc hg hm (prg_1 hg2 hm2 (wpE_pe X a) hs) hs2) <| ha Hb Ob O σ H s _ fun v H1 e1 rv => by
    obtain rfl := Den.int_inv rv
    exact ⟨n, rfl, RgOk.of_le (by omega) (by omega) (by omega) (by omega), fun l hl => k _ _ _ (none_back e1 hl) (e1.trans (Ex.new hl)) upd_same (dens_rg n)⟩
/-- isinstance with a built-in class -/
def D.ty : D → String
  | .non => "NoneType"
  | .bl _ => "bool"
  | .int _ => "int"
  | .tup _ => "tuple"
  | .lst _ => "list"
  | .dct _ => "dict"
theorem Den.tyX {K : PySem.W.Frag} {O : Ow} {H : Hp} {v : V} {d : D} (h : Den O H v d) : TyX K H v (.type d.ty) := by
  cases h with
  | non => exact .base .non
  | bl b => exact .base (.bl b)
  | int i => exact .base (.int i)
  | tup h _ _ => rcases h with h | ⟨o, h⟩
                 · exact .base (.tup h)
                 · exact .fTuple h
  | lst h _ _ => rcases h with h | ⟨o, h⟩
                 · exact .base (.lst h)
                 · exact .base (.frz h)
  | dct h _ _ => exact .base (.dK h)
theorem ed_isi {d : D} {y : Str} {n : String} {r : Bool} (hm : X.mg "isinstance" = none) (ha : ED T X ρ a (.d d)) (hmT : X.mg y = none) (hvT : bootBuiltins y = some (.type n)) (hk : kitB d.ty n = some r) (hg : Gl X "isinstance" := by rfl) (hgT : Gl X y := by rfl) (hnT : y ≠ "__name__" := by decide) (hdT : (y == ("__debug__" : Str)) = false := by decide)
    (hs : starEach [a, .Name y p] X.env = (false, eval a X.env) :: starEach [.Name y p] X.env := by rfl) (hs2 : starEach [.Name y p] X.env = (false, eval (.Name y p) X.env) :: starEach [] X.env := by rfl) {p1 : Pos} (hpl : (backTo pos (starEach [.Name y p] X.env)).any (·.1) = false := by rfl) : ED T X ρ (.Call (.Name "isinstance" p1) [a, .Name y p] [] pos) (.d (.bl r)) :=
  fun Hb Ob O σ H s Q k => wpE_of (pe_callB call_isi hg hm (by decide +kernel) (pa_cons (wpE_pe X a) (pa_cons (pe_bltn (v := .ty n) hgT hmT hvT rfl hnT hdT) pa_nil hs2) hs) (he := hs) (hpl := hpl)) <| ha Hb Ob O σ H s _ fun v H1 e1 rv =>
    ⟨v, .ty n, .type d.ty, .type n, r, rfl, .ty n, Den.tyX rv, kit_ty hk, k _ H1 e1 (.bl r)⟩
theorem ed_intof {i : Int} (hm : X.mg "int" = none) (ha : ED T X ρ a (.d (.int i))) (hg : Gl X "int" := by rfl) (hs : starEach [a] X.env = (false, eval a X.env) :: starEach [] X.env := by rfl) : ED T X ρ (.Call (.Name "int" p) [a] [] pos) (.d (.int i)) :=
  fun Hb Ob O σ H s Q k => wpE_of (pe_callTy call_int1 hg hm (by decide +kernel) (pa_cons (wpE_pe X a) pa_nil hs) (he := hs) (hpl := by rfl)) <| ha Hb Ob O σ H s _ fun v H1 e1 rv => .inl ⟨i, by rw [Den.int_inv rv], k _ H1 e1 (.int i)⟩

/-! ### own functions -/
def Rel := List D → D → Prop
/-- called with data that R relates to out, the function gives out and keeps what stood -/
def spR (T : Tbs) (R : Rel) : Sp := fun vs H Q _ => ∃ O ds out, (∀ a, O a → H a ≠ none) ∧ LamX.Tabs T H ∧ Dens O H vs ds ∧ R ds out ∧ ∀ v H', Ex T H H' → Den O H' v out → Q v H'
structure Fn (T : Tbs) (P : Program) (w : World) (K : PySem.W.Frag) (mg : Str → Option Value) (base : Heap) (k : Nat) (x : Str) (R : Rel) : Prop where
  ex : ∃ f fd ps, FnOk P w K mg base CX0 k f fd ps (spR T R) ∧ mg x = some (.ref f) ∧ PySem.W.keepIn K (.ref f) = true ∧ Binds K fd ps []
theorem ed_call {k : Nat} {x : Str} {R : Rel} {ds : List D} {out : D} (F : Fn T X.prog X.w X.K X.mg X.base k x R) (hr : Room k X.A) (ha : EA T X ρ (e :: es) ds) (hR : R ds out) (hg : Gl X x := by rfl) (hdb : (x == ("__debug__" : Str)) = false := by decide)
    (he : starEach (e :: es) X.env = (false, eval e X.env) :: starEach es X.env := by rfl) (hpl : (backTo pos (starEach es X.env)).any (·.1) = false := by rfl) : ED T X ρ (.Call (.Name x p) (e :: es) [] pos) (.d out) := by
  obtain ⟨f, fd, ps, ok, hmg, hk, hb⟩ := F.ex
  refine fun Hb Ob O σ H s Q q => wpE_of (pe_call ok hr hg hmg hk hb .nil pass0 (wpA_pa X (e :: es)) hdb he hpl) <| ha Hb Ob O σ H s _ fun vs H1 e1 hd => ?_
  rw [List.append_nil]
  exact ⟨O, ds, out, (s.on e1).oin, (s.on e1).tabs, hd, hR, fun v H' e2 h => q v H' (e1.trans e2) h⟩
end
end Fl

/-! FloS -/
namespace Fl
open PySem L2 PyProof.Rows
variable {T : Tbs}

/-! ### what is walked -/
/-- a source of data: the readings of what walks it -/
def Src (T : Tbs) (ρ : List Sl) (wi : TI) (ds : List D) : Prop := ∀ Hb Ob O σ H, S T Hb Ob O H σ ρ → ∀ R : It → Hp → Prop,
  (∀ J G Y H1, Ex T H H1 → Walk J ds.length G Y → (∀ H', Keep O H1 H' → G H') →
    (∀ i (O' : Ow) H' x H'', i < ds.length → (∀ a, H1 a ≠ none → O' a → O a) → (∀ a, O' a → H' a ≠ none) → Keep O H1 H' → Y i H' x H'' → ∃ d, ds[i]? = some d ∧ Ex T H' H'' ∧ Den O' H'' x d) → R J H1) → wi σ H R
def EI (T : Tbs) (X : Cx) (ρ : List Sl) (tg it : Expr) (ds : List D) : Prop := ∃ wi, PI X tg it wi ∧ Src T ρ wi ds
section
variable {X : Cx} {ρ : List Sl} {a b c e tg it : Expr} {es : List Expr} {pos p : Pos}
theorem at_lt {α : Type} {xs : List α} {i : Nat} {x : α} (h : xs[i]? = some x) : i < xs.length := (List.getElem?_eq_some_iff.mp h).1
theorem ei_list {ds : List D} (h : ED T X ρ it (.d (.lst ds))) : EI T X ρ tg it ds := by
  refine ⟨_, pi_list (wpE_pe X it), fun Hb Ob O σ H s R k => h Hb Ob O σ H s _ fun v H1 e1 rv => ?_⟩
  cases rv with
  | @lst a vs _ hr n hd =>
    refine ⟨a, rfl, ⟨vs, .inl hr⟩, k _ _ (YAt vs) H1 e1 (hd.length ▸ walk_list) (fun H' hk => .inl (hk.rd n nt_lst hr)) fun i O' H' x H'' hi ho _ hk y => ?_⟩
    obtain ⟨rfl, hx⟩ := y
    have hg : ds[i]? = some ds[i] := by simp [hi]
    obtain ⟨v, hv, dv⟩ := hd.get hg
    rw [hx] at hv; cases hv
    exact ⟨_, hg, Ex.refl _, dv.gen ho hk⟩
theorem ei_tup {ds : List D} (h : ED T X ρ it (.d (.tup ds))) : EI T X ρ tg it ds := by
  refine ⟨_, pi_tup (wpE_pe X it), fun Hb Ob O σ H s R k => h Hb Ob O σ H s _ fun v H1 e1 rv => ?_⟩
  cases rv with
  | @tup a vs _ hr n hd =>
    refine ⟨a, rfl, ⟨vs, .inl hr⟩, k _ _ (YAt vs) H1 e1 (hd.length ▸ walk_tup) (fun H' hk => .inl (hk.rd n nt_tup hr)) fun i O' H' x H'' hi ho _ hk y => ?_⟩
    obtain ⟨rfl, hx⟩ := y
    have hg : ds[i]? = some ds[i] := by simp [hi]
    obtain ⟨v, hv, dv⟩ := hd.get hg
    rw [hx] at hv; cases hv
    exact ⟨_, hg, Ex.refl _, dv.gen ho hk⟩
theorem ei_range {n : Int} (hm : X.mg "range" = none) (h : ED T X ρ a (.d (.int n))) (hn : n ≤ 100000) (hn0 : -100000 ≤ n) (hg : Gl X "range" := by rfl) (hs : starEach [a] X.env = (false, eval a X.env) :: starEach [] X.env := by rfl)
    (hs' : starEach [a] X.env = [(false, eval a X.env)] := by rfl) : EI T X ρ tg (.Call (.Name "range" p) [a] [] pos) (rgD n) := by
  refine ⟨_, pi_range1 hg hm (pa_cons (wpE_pe X a) pa_nil hs) hs', fun Hb Ob O σ H s R k => h Hb Ob O σ H s _ fun v H1 e1 rv => ?_⟩
  obtain rfl := Den.int_inv rv
  have hl : (rgD n).length = n.toNat := by unfold rgD; simp
  refine ⟨n, rfl, by omega, by omega, k (Itr 0 n.toNat) (fun _ => True) (YFn fun i => .int (0 + (i : Nat))) H1 e1 (by rw [hl]; exact walk_range) (fun _ _ => trivial) fun i O' H' x H'' hi ho _ hk y => ?_⟩
  obtain ⟨rfl, rfl⟩ := y
  refine ⟨.int (i : Nat), ?_, Ex.refl _, ?_⟩
  · unfold rgD; rw [hl] at hi; simp [hi]
  · show Den O' H'' (.int (0 + (i : Nat))) _
    rw [Int.zero_add]; exact .int _
end

/-! ### targets -/
def GS (T : Tbs) (g : TG) (d : D) (up : List Sl → List Sl) (is : List Nat) : Prop := ∀ Hb Ob O σ H ρ v, S T Hb Ob O H σ ρ → Den O H v d → ∀ Q : L2.St → Hp → Prop,
  (∀ σ', S T Hb Ob O H σ' (up ρ) → (∀ vs, (∀ i ∈ is, i ∈ vs) → wipe σ' vs = wipe σ vs) → Q σ' H) → g v σ H Q
theorem set_none_comm {σ : L2.St} {i j : Nat} {x : Option V} : (σ.set i x).set j none = if i = j then σ.set j none else (σ.set j none).set i x := by
  split
  · rename_i h; subst h; rw [List.set_set]
  · rename_i h; rw [List.set_comm _ _ h]
theorem wipe_set {σ : L2.St} {i : Nat} {x : Option V} : ∀ {vs : List Nat}, i ∈ vs → wipe (σ.set i x) vs = wipe σ vs
  | v :: vs, h => by
    unfold wipe
    by_cases hv : i = v
    · subst hv
      by_cases h' : i ∈ vs
      · rw [wipe_set h']
      · have e : ∀ ws : List Nat, i ∉ ws → wipe (σ.set i x) ws = (wipe σ ws).set i x := by
          intro ws
          induction ws with
          | nil => intro _; rfl
          | cons w ws ih =>
            intro hw
            unfold wipe
            have h1 : i ≠ w := fun z => hw (by simp [z])
            rw [ih (fun z => hw (by simp [z])), List.set_comm _ _ h1]
        rw [e vs h', List.set_set]
    · have h' : i ∈ vs := by
        rcases List.mem_cons.mp h with z | z
        · exact absurd z hv
        · exact z
      rw [wipe_set h']
theorem gs_name (i : Nat) (d : D) : GS T (gName i) d (fun ρ => ρ.set i (.d d)) [i] := fun Hb Ob O σ H ρ v s hd Q k =>
  k _ (s.set i (r := .d d) hd) fun vs h => wipe_set (h i (by simp))
def gNames : List Nat → TGs
  | [] => gNil
  | i :: is => gCons (gName i) (gNames is)
def setAll : List Nat → List D → List Sl → List Sl
  | i :: is, d :: ds, ρ => setAll is ds (ρ.set i (.d d))
  | _, _, ρ => ρ
theorem gs_names : ∀ (is : List Nat) (ds : List D), is.length = ds.length → ∀ Hb Ob O σ H ρ vs, S T Hb Ob O H σ ρ → Dens O H vs ds → ∀ Q : L2.St → Hp → Prop,
    (∀ σ', S T Hb Ob O H σ' (setAll is ds ρ) → (∀ vs, (∀ i ∈ is, i ∈ vs) → wipe σ' vs = wipe σ vs) → Q σ' H) → gNames is vs σ H Q
  | [], [], _, Hb, Ob, O, σ, H, ρ, vs, s, hd, Q, k => by
    cases hd
    exact ⟨rfl, k σ s fun _ _ => rfl⟩
  | i :: is, d :: ds, hl, Hb, Ob, O, σ, H, ρ, vs, s, hd, Q, k => by
    cases hd with
    | cons h hs =>
      refine ⟨_, _, rfl, ?_⟩
      show gNames is _ (σ.set i (some _)) H Q
      refine gs_names is ds (by simpa using hl) Hb Ob O _ H _ _ (s.set i (r := .d d) h) hs Q fun σ' s' hw => k σ' s' fun vs hi => ?_
      rw [hw vs (fun j hj => hi j (List.mem_cons_of_mem _ hj)), wipe_set (hi i List.mem_cons_self)]
theorem gs_tup {K : PySem.W.Frag} (is : List Nat) (ds : List D) (hl : is.length = ds.length) : GS T (gTup K is.length (gNames is)) (.tup ds) (setAll is ds) is := fun Hb Ob O σ H ρ v s hd Q k => by
  cases hd with
  | tup h n hd => exact ⟨_, _, rfl, .inl h, by rw [hd.length, hl], gs_names is ds hl Hb Ob O σ H ρ _ s hd Q k⟩

/-! ### comprehensions -/
def wipeR (ρ : List Sl) : List Nat → List Sl
  | [] => ρ
  | v :: vs => (wipeR ρ vs).set v .any
theorem S.wipe {Hb : Hp} {Ob O : Ow} {H : Hp} {σ : L2.St} {ρ : List Sl} (s : S T Hb Ob O H σ ρ) : ∀ vs : List Nat, S T Hb Ob O H (L2.wipe σ vs) (wipeR ρ vs)
  | [] => s
  | v :: vs => by
    have ih := s.wipe vs
    refine ⟨ih.ex, ih.ob, ih.own, ih.oin, ih.kind, ih.tabs, by show ((L2.wipe σ vs).set v none).length = ((wipeR ρ vs).set v .any).length; simp [ih.len], fun i r h => ?_⟩
    have h : ((wipeR ρ vs).set v .any)[i]? = some r := h
    show r = .any ∨ ∃ w, ((L2.wipe σ vs).set v none)[i]? = some (some w) ∧ _
    by_cases e : v = i
    · subst e
      by_cases hl : v < (wipeR ρ vs).length
      · rw [List.getElem?_set_self hl] at h; cases h; exact .inl rfl
      · rw [List.getElem?_eq_none (by simpa using hl)] at h; cases h
    · rw [List.getElem?_set_ne e] at h
      rw [List.getElem?_set_ne e]
      exact ih.get i r h
/-- readings of tests and expressions, told over slots alone -/
def TSem (T : Tbs) (ρ : List Sl) (tt : TT) (b : Bool) : Prop := ∀ Hb Ob O σ H, S T Hb Ob O H σ ρ → ∀ Q : Bool → Hp → Prop, (∀ H2, Ex T H H2 → Q b H2) → tt σ H Q
def ESem (T : Tbs) (ρ : List Sl) (te : TE) (r : Sl) : Prop := ∀ Hb Ob O σ H, S T Hb Ob O H σ ρ → ∀ Q : VK, (∀ v H2, Ex T H H2 → ROk Ob O H2 v r → Q v H2) → te σ H Q
theorem tsem_yes (ρ : List Sl) : TSem T ρ tYes true := fun _ _ _ _ H _ _ k => k H (Ex.refl H)
theorem take_at {α : Type} {xs : List α} {i : Nat} {x : α} (h : xs[i]? = some x) : xs.take (i + 1) = xs.take i ++ [x] := by
  obtain ⟨hl, rfl⟩ := List.getElem?_eq_some_iff.mp h
  rw [List.take_add_one, List.getElem?_eq_getElem hl]; rfl
theorem filt_snoc {α : Type} (p : α → Bool) (f : α → D) (xs : List α) (x : α) : ((xs ++ [x]).filter p).map f = (xs.filter p).map f ++ (if p x = true then [f x] else []) := by
  rw [List.filter_append, List.map_append]
  congr 1
  by_cases h : p x = true
  · rw [if_pos h, List.filter_cons_of_pos h]; rfl
  · rw [if_neg h, List.filter_cons_of_neg h]; rfl
theorem tlc {α : Type} {ρ : List Sl} {wi : TI} {ds : List D} (hw : Src T ρ wi ds) (xs : List α) (enc : α → D) (hds : ds = xs.map enc) (hl : xs.length ≤ 50000) {g : TG} (up : α → List Sl → List Sl) {is vs : List Nat} (hg : ∀ x ∈ xs, GS T g (enc x) (up x) is) (his : ∀ i ∈ is, i ∈ vs)
    {tt : TT} {te : TE} (p : α → Bool) (f : α → D) (ht : ∀ x ∈ xs, TSem T (up x (wipeR ρ vs)) tt (p x)) (hf : ∀ x ∈ xs, p x = true → ESem T (up x (wipeR ρ vs)) te (.d (f x)))
    (Hb : Hp) (Ob O : Ow) (σ : L2.St) (H : Hp) (s : S T Hb Ob O H σ ρ) (Q : VK) (k : ∀ q us H2, H q = none → Ex T H H2 → H2 q = some (.lst us) → Dens (Op O q) H2 us ((xs.filter p).map f) → Q (.ref q) H2) : tLc wi g tt te vs σ H Q := by
  refine hw Hb Ob O σ H s _ fun J G Y H1 e1 W hG hY => ?_
  intro q hq
  have hlen : ds.length = xs.length := by rw [hds]; simp
  have hO : ∀ a, H1 a ≠ none → Op O q a → O a := fun a h z => op_grow hq a h z
  refine lc_it W (fun i H' => Ex T H1 H' ∧ ∃ us, H' q = some (.lst us) ∧ Dens (Op O q) H' us (((xs.take i).filter p).map f)) ⟨Ex.new hq, [], upd_same, by simpa using Dens.nil⟩ (fun i H' _ h => hG H' (.of h.1)) ?_ ?_
  · rintro i x H' H'' hi ⟨ex, us, hus, hd⟩ y
    have s' : S T Hb Ob (Op O q) H' σ ρ := (s.on e1).take hq ex ⟨_, hus, ld_lst⟩
    obtain ⟨d, hdi, ex2, hx⟩ := hY i (Op O q) H' x H'' hi hO s'.oin (.of ex) y
    subst hds
    rw [List.getElem?_map] at hdi
    obtain ⟨y', hy', rfl⟩ : ∃ y', xs[i]? = some y' ∧ enc y' = d := by
      cases h : xs[i]? with
      | none => rw [h] at hdi; cases hdi
      | some y' => rw [h] at hdi; exact ⟨y', rfl, Option.some.inj hdi⟩
    have hm : y' ∈ xs := List.mem_of_getElem? hy'
    refine hg y' hm Hb Ob (Op O q) _ H'' _ x ((s'.on ex2).wipe vs) hx _ fun σ2 s2 hwp => ⟨?_, ?_⟩
    · rw [hwp vs his]
      have : ∀ ws : List Nat, L2.wipe (L2.wipe σ ws) ws = L2.wipe σ ws := fun ws => by
        have : ∀ us vs : List Nat, (∀ v ∈ us, v ∈ vs) → L2.wipe (L2.wipe σ us) vs = L2.wipe σ vs := by
          intro us
          induction us with
          | nil => intro vs _; rfl
          | cons u us ih => intro vs hv; show L2.wipe ((L2.wipe σ us).set u none) vs = _; rw [wipe_set (hv u (by simp)), ih vs (fun v h => hv v (by simp [h]))]
        exact this ws ws fun _ h => h
      exact this vs
    · refine ht y' hm Hb Ob (Op O q) _ H'' s2 _ fun H3 ex3 => ?_
      have hup : (xs.take (i + 1)) = xs.take i ++ [y'] := take_at hy'
      by_cases hp : p y' = true
      · rw [if_pos hp]
        refine hf y' hm hp Hb Ob (Op O q) _ H3 (s2.on ex3) _ fun v H4 ex4 rv => ?_
        have e4 : Ex T H' H4 := ex2.trans (ex3.trans ex4)
        refine ⟨us, e4.keep _ _ hus nt_lst, ?_, ?_, (us ++ [v]), upd_same, ?_⟩
        · have h1 := hd.length
          have h2 : (((xs.take i).filter p).map f).length ≤ i := by
            rw [List.length_map]
            exact Nat.le_trans (List.length_filter_le _ _) (by rw [List.length_take]; omega)
          exact Evl.sz_lt (by omega)
        · exact (ex.trans e4).mut hq (e4.keep _ _ hus nt_lst) ld_lst
        · rw [hup, filt_snoc, if_pos hp]
          have hk : Keep (Op O q) H4 (upd H4 q (.lst (us ++ [v]))) := fun a o n h _ => by rw [upd_ne (fun z => n (.inr z))]; exact h
          exact ((hd.ex e4).append (.cons rv .nil)).mono (fun _ z => z) hk
      · rw [if_neg hp]
        refine ⟨ex.trans (ex2.trans ex3), us, (ex2.trans ex3).keep _ _ hus nt_lst, ?_⟩
        rw [hup, filt_snoc, if_neg hp, List.append_nil]
        exact hd.ex (ex2.trans ex3)
  · rintro H' ⟨ex, us, hus, hd⟩
    rw [hlen, List.take_length] at hd
    exact k q us H' (none_back e1 hq) (e1.trans ex) hus hd

section
variable {X : Cx} {ρ : List Sl} {a b c e tg it elt : Expr} {es : List Expr} {pos p spos py : Pos} {scope : Scope} {own : List (Str × Nat)}
/-- within a comprehension's block -/
def EB (T : Tbs) (X : Cx) (scope : Scope) (ρ : List Sl) (e : Expr) (r : Sl) : Prop := ∀ (s : Shared) (H : Hp) (C : Addr) (cl : List (Str × Addr)) (fp : List Addr), ED T (X.blk s H scope (compEnvC scope cl C X.env) fp) ρ e r
def TB (T : Tbs) (X : Cx) (scope : Scope) (ρ : List Sl) (e : Expr) (r : Bool) : Prop := ∀ (s : Shared) (H : Hp) (C : Addr) (cl : List (Str × Addr)) (fp : List Addr), ET T (X.blk s H scope (compEnvC scope cl C X.env) fp) ρ e r
def bE (X : Cx) (scope : Scope) (e : Expr) : TE := fun σ Hh Q => ∀ (s : Shared) (H : Hp) (C : Addr) (cl : List (Str × Addr)) (fp : List Addr), wpE (X.blk s H scope (compEnvC scope cl C X.env) fp) e σ Hh Q
def bT (X : Cx) (scope : Scope) (e : Expr) : TT := fun σ Hh Q => ∀ (s : Shared) (H : Hp) (C : Addr) (cl : List (Str × Addr)) (fp : List Addr), wpT (X.blk s H scope (compEnvC scope cl C X.env) fp) e σ Hh Q
theorem bE_pe (s : Shared) (H : Hp) (C : Addr) (cl : List (Str × Addr)) (fp : List Addr) : PE (X.blk s H scope (compEnvC scope cl C X.env) fp) e (bE X scope e) := ⟨fun pins s1 σ H1 Q I h => (wpE_pe _ e).run pins s1 σ H1 Q I (h s H C cl fp)⟩
theorem bT_pt (s : Shared) (H : Hp) (C : Addr) (cl : List (Str × Addr)) (fp : List Addr) : PT (X.blk s H scope (compEnvC scope cl C X.env) fp) e (bT X scope e) := ⟨fun pins s1 σ H1 Q I h => (wpT_pt _ e).run pins s1 σ H1 Q I (h s H C cl fp)⟩
theorem EB.sem {r : Sl} (h : EB T X scope ρ e r) : ESem T ρ (bE X scope e) r := fun Hb Ob O σ H s Q k s1 H1 C cl fp => h s1 H1 C cl fp Hb Ob O σ H s Q k
theorem TB.sem {r : Bool} (h : TB T X scope ρ e r) : TSem T ρ (bT X scope e) r := fun Hb Ob O σ H s Q k s1 H1 C cl fp => h s1 H1 C cl fp Hb Ob O σ H s Q k
/-- what a comprehension's target is, in its block -/
structure Tg (X : Cx) (scope : Scope) (tg : Expr) (g : TG) : Prop where
  pg : ∀ (s : Shared) (H : Hp) (C : Addr) (cl : List (Str × Addr)) (fp : List Addr), PG (X.blk s H scope (compEnvC scope cl C X.env) fp) tg g
theorem ef_lc {α : Type} {ds : List D} (hc : X.calm = true) (hN : X.N.Nodup) (hi : EI T X ρ tg it ds) (ok : BlkOk X.N X.env.scope scope own) (xs : List α) (enc : α → D) (hds : ds = xs.map enc) (hl : xs.length ≤ 50000) {g : TG} (tgt : Tg X scope tg g)
    (up : α → List Sl → List Sl) {is : List Nat} (hg : ∀ x ∈ xs, GS T g (enc x) (up x) is) (his : ∀ i ∈ is, i ∈ own.map (·.2)) (f : α → D)
    (hf : ∀ x ∈ xs, EB T X scope (up x (wipeR ρ (own.map (·.2)))) elt (.d (f x))) (hs : ∀ x, foldedSetIterable it X.env x = pure x := by intro _; rfl) : EF T X ρ (.ListComp elt [⟨tg, it, [], 0⟩] scope pos) (xs.map f) := by
  obtain ⟨wi, pi, hw⟩ := hi
  refine fun Hb Ob O σ H s Q k => wpE_of (pe_lc hc hN pi ok tgt.pg (fun _ _ _ _ _ => pts_nil) (fun s H C cl fp => bE_pe s H C cl fp) hs) ?_
  have := tlc hw xs enc hds hl (g := g) up hg his (tt := tYes) (te := bE X scope elt) (fun _ => true) f (fun x _ => tsem_yes _) (fun x hx _ => (hf x hx).sem) Hb Ob O σ H s Q (fun q us H2 h1 h2 h3 h4 => k q us H2 h1 h2 h3 (by rwa [show xs.filter (fun _ => true) = xs from List.filter_eq_self.mpr fun _ _ => rfl] at h4))
  exact this
theorem ef_lcIf {α : Type} {ds : List D} (hc : X.calm = true) (hN : X.N.Nodup) (hi : EI T X ρ tg it ds) (ok : BlkOk X.N X.env.scope scope own) (xs : List α) (enc : α → D) (hds : ds = xs.map enc) (hl : xs.length ≤ 50000) {g : TG} (tgt : Tg X scope tg g)
    (up : α → List Sl → List Sl) {is : List Nat} (hg : ∀ x ∈ xs, GS T g (enc x) (up x) is) (his : ∀ i ∈ is, i ∈ own.map (·.2)) (pr : α → Bool) (f : α → D) (ht : ∀ x ∈ xs, TB T X scope (up x (wipeR ρ (own.map (·.2)))) c (pr x))
    (hf : ∀ x ∈ xs, pr x = true → EB T X scope (up x (wipeR ρ (own.map (·.2)))) elt (.d (f x))) (hs : ∀ x, foldedSetIterable it X.env x = pure x := by intro _; rfl) : EF T X ρ (.ListComp elt [⟨tg, it, [c], 0⟩] scope pos) ((xs.filter pr).map f) := by
  obtain ⟨wi, pi, hw⟩ := hi
  refine fun Hb Ob O σ H s Q k => wpE_of (pe_lc hc hN pi ok tgt.pg (fun s H C cl fp => pts_one (bT_pt s H C cl fp)) (fun s H C cl fp => bE_pe s H C cl fp) hs) ?_
  exact tlc hw xs enc hds hl (g := g) up hg his (tt := bT X scope c) (te := bE X scope elt) pr f (fun x hx => (ht x hx).sem) (fun x hx hp => (hf x hx hp).sem) Hb Ob O σ H s Q k
end

/-! ### statements -/
structure Po where
  nx : List Sl → Prop := fun _ => False
  rt : D → Prop := fun _ => False
  bk : List Sl → Prop := fun _ => False
  ct : List Sl → Prop := fun _ => False
  rs : List Sl → D → Prop := fun _ _ => False
structure Post (T : Tbs) (Hb : Hp) (Ob : Ow) (P : Po) (Dn : Ends) : Prop where
  nx : ∀ O σ H ρ, P.nx ρ → S T Hb Ob O H σ ρ → Dn.nx σ H
  bk : ∀ O σ H ρ, P.bk ρ → S T Hb Ob O H σ ρ → Dn.bk σ H
  ct : ∀ O σ H ρ, P.ct ρ → S T Hb Ob O H σ ρ → Dn.ct σ H
  rt : ∀ v d H, P.rt d → Ex T Hb H → Den Ob H v d → Dn.rt v H
  rs : ∀ O σ H ρ v d, P.rs ρ d → S T Hb Ob O H σ ρ → Den O H v d → Dn.rt v H
def XS (T : Tbs) (X : Cx) (ρ : List Sl) (sts : List Stmt) (P : Po) : Prop := ∀ Hb Ob O σ H, S T Hb Ob O H σ ρ → ∀ Dn, Post T Hb Ob P Dn → wpSs X sts Dn σ H
def XT (T : Tbs) (X : Cx) (ρ : List Sl) (st : Stmt) (P : Po) : Prop := ∀ Hb Ob O σ H, S T Hb Ob O H σ ρ → ∀ Dn, Post T Hb Ob P Dn → wpS X st Dn σ H
section
variable {X : Cx} {ρ ρ' : List Sl} {a b c e tg it elt : Expr} {es : List Expr} {st : Stmt} {sts body : List Stmt} {pos p spos py : Pos} {P : Po}
theorem XS.weak (h : XS T X ρ' sts P) (w : Weak ρ ρ') : XS T X ρ sts P := fun Hb Ob O σ H s Dn k => h Hb Ob O σ H (s.weak w) Dn k
theorem xs_nil (h : P.nx ρ) : XS T X ρ [] P := fun Hb Ob O σ H s Dn k => wpSs_of pss_nil (k.nx O σ H ρ h s)
theorem xs_cons (M : List Sl → Prop) (h : XT T X ρ st { P with nx := M }) (k : ∀ ρ', M ρ' → XS T X ρ' sts P) : XS T X ρ (st :: sts) P :=
  fun Hb Ob O σ H s Dn q => wpSs_of (pss_cons (wpS_ps X st) (wpSs_ps X sts)) <| h Hb Ob O σ H s _ ⟨fun O' σ' H' ρ' m s' => k ρ' m Hb Ob O' σ' H' s' Dn q, q.bk, q.ct, q.rt, q.rs⟩
theorem xs_one (h : XT T X ρ st P) : XS T X ρ [st] P := xs_cons P.nx h fun ρ' m => xs_nil m
theorem xs_then (h : XT T X ρ st { P with nx := fun r => r = ρ' }) (k : XS T X ρ' sts P) : XS T X ρ (st :: sts) P := xs_cons _ h fun _ e => e ▸ k
theorem xt_asg {x : Str} {r : Sl} (i : Nat) (h : ED T X ρ e r) (q : P.nx (ρ.set i r)) (hN : X.N.Nodup) (hi : X.N[i]? = some x := by rfl) (hx : Loc X.env.scope x := by first | exact .inl rfl | exact .inr rfl) (hs : swapsWith e (some (.Name x py)) pos.line X.env = pure false := by rfl)
    (hf : X.fn x = true ∨ X.env.scope.names.lookup x = some .local := by first | exact .inl rfl | exact .inr rfl) : XT T X ρ (.Assign [.Name x py] e pos) P :=
  fun Hb Ob O σ H s Dn k => wpS_of (ps_set hN hi hx (wpE_pe X e) hs hf) <| h Hb Ob O σ H s _ fun v H1 e1 rv => k.nx O _ H1 _ q ((s.on e1).set i rv)
/-- no slot holds an own object at l -/
def NoOwn (l : Addr) : List Sl → Prop
  | [] => True
  | .ol l' _ :: r => l' ≠ l ∧ NoOwn l r
  | .od l' _ :: r => l' ≠ l ∧ NoOwn l r
  | .d _ :: r => NoOwn l r
  | .any :: r => NoOwn l r
theorem NoOwn.ol {l : Addr} : ∀ {ρ : List Sl} {j : Nat} {l' : Addr} {ds : List D}, NoOwn l ρ → ρ[j]? = some (.ol l' ds) → l' ≠ l
  | [], _, _, _, _, e => by simp at e
  | r :: ρ, 0, l', ds, h, e => by simp at e; subst e; exact h.1
  | r :: ρ, j + 1, l', ds, h, e => by
    have h' : NoOwn l ρ := by cases r <;> first | exact h.2 | exact h
    exact NoOwn.ol h' (by simpa using e)
theorem NoOwn.od {l : Addr} : ∀ {ρ : List Sl} {j : Nat} {l' : Addr} {ds : List (Int × D)}, NoOwn l ρ → ρ[j]? = some (.od l' ds) → l' ≠ l
  | [], _, _, _, _, e => by simp at e
  | r :: ρ, 0, l', ds, h, e => by simp at e; subst e; exact h.1
  | r :: ρ, j + 1, l', ds, h, e => by
    have h' : NoOwn l ρ := by cases r <;> first | exact h.2 | exact h
    exact NoOwn.od h' (by simpa using e)
theorem noOwn_of {l : Addr} : ∀ {ρ : List Sl}, (∀ (j : Nat) l' ds, ρ[j]? = some (.ol l' ds) → l' ≠ l) → (∀ (j : Nat) l' ds, ρ[j]? = some (.od l' ds) → l' ≠ l) → NoOwn l ρ
  | [], _, _ => trivial
  | r :: ρ, h, g => by
    have ih : NoOwn l ρ := noOwn_of (fun j l' ds e => h (j + 1) l' ds (by simpa using e)) (fun j l' ds e => g (j + 1) l' ds (by simpa using e))
    cases r with
    | any => exact ih
    | d x => exact ih
    | ol l' ds => exact ⟨h 0 l' ds rfl, ih⟩
    | od l' ds => exact ⟨g 0 l' ds rfl, ih⟩
theorem S.noOwn {Hb : Hp} {Ob O : Ow} {H : Hp} {σ : L2.St} (s : S T Hb Ob O H σ ρ) {l : Addr} (h : H l = none) : NoOwn l ρ :=
  noOwn_of (fun j l' ds e z => by
    subst z
    rcases s.get j _ e with w | ⟨v, _, w⟩
    · cases w
    · exact s.oin _ w.2.1 h) (fun j l' ds e z => by
    subst z
    rcases s.get j _ e with w | ⟨v, _, w⟩
    · cases w
    · exact s.oin _ w.2.1 h)
/-- an own object is written -/
theorem S.write {Hb : Hp} {Ob O : Ow} {H : Hp} {σ : L2.St} {r0 r1 : Sl} {o : HO} {l : Addr} (s : S T Hb Ob O H σ ρ) (i : Nat) (hr : ρ[i]? = some r0) (hO : O l) (hOb : ¬ Ob l) (hno : NoOwn l (ρ.set i .any)) (ho : LD o)
    (hv : ∃ v, σ[i]? = some (some v) ∧ ROk Ob O (upd H l o) v r1) : S T Hb Ob O (upd H l o) σ (ρ.set i r1) := by
  have hk : Keep O H (upd H l o) := fun a u n z _ => by rw [upd_ne (fun w => by subst w; exact n hO)]; exact z
  obtain ⟨o0, k1, k2⟩ := s.kind l hO hOb
  refine ⟨s.ex.mut (s.own _ hO hOb) k1 k2 (o := o), s.ob, s.own, fun a z => ?_, fun a z n => ?_, tabs_ld s.tabs (fun a w ha n => by rw [upd_ne (fun z => by subst z; rw [k1] at ha; cases ha; exact n k2)]; exact ha), by simp [s.len], fun j r hj => ?_⟩
  · by_cases w : a = l
    · subst w; rw [upd_same]; exact fun z => nomatch z
    · rw [upd_ne w]; exact s.oin a z
  · by_cases w : a = l
    · subst w; exact ⟨o, upd_same, ho⟩
    · rw [upd_ne w]; exact s.kind a z n
  · by_cases w : i = j
    · subst w
      rw [List.getElem?_set_self (at_lt hr)] at hj
      cases hj
      exact .inr hv
    · rw [List.getElem?_set_ne w] at hj
      have hj' : (ρ.set i .any)[j]? = some r := by rw [List.getElem?_set_ne w]; exact hj
      rcases s.get j r hj with z | ⟨v', z1, z2⟩
      · exact .inl z
      · refine .inr ⟨v', z1, ?_⟩
        cases r with
        | any => trivial
        | d x => exact Den.mono (fun _ z => z) hk z2
        | ol l' ds' =>
          obtain ⟨w1, w2, w3, us, w4, w5⟩ := z2
          exact ⟨w1, w2, w3, us, by rw [upd_ne (hno.ol hj')]; exact w4, w5.mono (fun _ z => z) hk⟩
        | od l' ds' =>
          obtain ⟨w1, w2, w3, us, w4, w5⟩ := z2
          exact ⟨w1, w2, w3, us, by rw [upd_ne (hno.od hj')]; exact w4, w5.mono (fun _ z => z) hk⟩
/-- a new list comes to be owned -/
theorem xt_asgF {x : Str} {ds : List D} (i : Nat) (h : EF T X ρ e ds) (q : ∀ l, NoOwn l ρ → P.nx (ρ.set i (.ol l ds))) (hN : X.N.Nodup) (hi : X.N[i]? = some x := by rfl) (hx : Loc X.env.scope x := by first | exact .inl rfl | exact .inr rfl) (hs : swapsWith e (some (.Name x py)) pos.line X.env = pure false := by rfl)
    (hf : X.fn x = true ∨ X.env.scope.names.lookup x = some .local := by first | exact .inl rfl | exact .inr rfl) : XT T X ρ (.Assign [.Name x py] e pos) P :=
  fun Hb Ob O σ H s Dn k => wpS_of (ps_set hN hi hx (wpE_pe X e) hs hf) <| h Hb Ob O σ H s _ fun l vs H1 hl e1 h1 hd =>
    k.nx (Op O l) _ H1 _ (q l (s.noOwn hl)) ((s.take hl e1 ⟨_, h1, ld_lst⟩).set i (r := .ol l ds) ⟨rfl, .inr rfl, fun z => s.oin l (s.ob l z) hl, vs, h1, hd⟩)
theorem xt_asgFd {x : Str} {ds : List (Int × D)} (i : Nat) (h : EFd T X ρ e ds) (q : ∀ l, NoOwn l ρ → P.nx (ρ.set i (.od l ds))) (hN : X.N.Nodup) (hi : X.N[i]? = some x := by rfl) (hx : Loc X.env.scope x := by first | exact .inl rfl | exact .inr rfl) (hs : swapsWith e (some (.Name x py)) pos.line X.env = pure false := by rfl)
    (hf : X.fn x = true ∨ X.env.scope.names.lookup x = some .local := by first | exact .inl rfl | exact .inr rfl) : XT T X ρ (.Assign [.Name x py] e pos) P :=
  fun Hb Ob O σ H s Dn k => wpS_of (ps_set hN hi hx (wpE_pe X e) hs hf) <| h Hb Ob O σ H s _ fun l vs H1 hl e1 h1 hd =>
    k.nx (Op O l) _ H1 _ (q l (s.noOwn hl)) ((s.take hl e1 ⟨_, h1, ld_dK⟩).set i (r := .od l ds) ⟨rfl, .inr rfl, fun z => s.oin l (s.ob l z) hl, vs, h1, hd⟩)
/-- names = a tuple -/
theorem xt_unpack {k1 : Nat} {ds : List D} {n : Nat} (is : List Nat) (h : ED T X ρ e (.d (.tup ds))) (q : P.nx (setAll is ds ρ)) (hl : is.length = ds.length) (hg : PG X (.Tuple es k1 py) (gTup X.K is.length (gNames is)))
    (hs : swapsWithSole [.Tuple es k1 py] e pos.line X.env = pure false := by rfl) (hw : swappedStores [.Tuple es k1 py] e X.env = pure none := by rfl) (h1 : (assignEach [.Tuple es k1 py] X.env).map (·.2) = [assign (.Tuple es k1 py) X.env] := by rfl) : XT T X ρ (.Assign [.Tuple es k1 py] e pos) P :=
  fun Hb Ob O σ H s Dn k => wpS_of (ps_asg (wpE_pe X e) hg hs hw h1) <| h Hb Ob O σ H s _ fun v H1 e1 rv => gs_tup is ds hl Hb Ob O σ H1 ρ v (s.on e1) rv _ fun σ' s' _ => k.nx O _ H1 _ q s'
theorem xt_ret {d : D} (h : ED T X ρ e (.d d)) (q : P.rt d) : XT T X ρ (.Return (some e) pos) P :=
  fun Hb Ob O σ H s Dn k => wpS_of (ps_ret (wpE_pe X e)) <| h Hb Ob O σ H s _ fun v H1 e1 rv => k.rt v d H1 q (s.on e1).ex (Den.mono s.ob (.refl _) rv)
/-- .. the own objects told as well -/
theorem xt_retS {d : D} (h : ED T X ρ e (.d d)) (q : P.rs ρ d) : XT T X ρ (.Return (some e) pos) P :=
  fun Hb Ob O σ H s Dn k => wpS_of (ps_ret (wpE_pe X e)) <| h Hb Ob O σ H s _ fun v H1 e1 rv => k.rs O σ H1 ρ v d q (s.on e1) rv
theorem xt_retNS (q : P.rs ρ .non) : XT T X ρ (.Return none pos) P :=
  fun Hb Ob O σ H s Dn k => wpS_of ps_retN (k.rs O σ H ρ _ _ q s .non)
theorem xt_retO {l : Addr} {ds : List D} (h : ED T X ρ e (.ol l ds)) (q : P.rt (.lst ds)) : XT T X ρ (.Return (some e) pos) P :=
  fun Hb Ob O σ H s Dn k => wpS_of (ps_ret (wpE_pe X e)) <| h Hb Ob O σ H s _ fun v H1 e1 rv => by
    obtain ⟨rfl, h2, h3, vs, h4, h5⟩ := rv
    exact k.rt _ _ H1 q (s.on e1).ex (.lst (.inl h4) h3 (h5.mono s.ob (.refl _)))
theorem xt_retN (q : P.rt .non) : XT T X ρ (.Return none pos) P :=
  fun Hb Ob O σ H s Dn k => wpS_of ps_retN (k.rt _ _ H q s.ex .non)
theorem xt_expr {r : Sl} (h : ED T X ρ e r) (q : P.nx ρ) (hs : swapsWith e none pos.line X.env = pure false := by rfl) : XT T X ρ (.Expr e pos) P :=
  fun Hb Ob O σ H s Dn k => wpS_of (ps_expr (wpE_pe X e) hs) <| h Hb Ob O σ H s _ fun v H1 e1 rv => k.nx O σ H1 ρ q (s.on e1)
theorem xt_break (q : P.bk ρ) : XT T X ρ (.Break pos) P := fun Hb Ob O σ H s Dn k => wpS_of ps_break (k.bk O σ H ρ q s)
theorem xt_if {x : Bool} (hc : ET T X ρ c x) (h1 : x = true → XS T X ρ body P) (h2 : x = false → XS T X ρ sts P) : XT T X ρ (.If c body sts pos) P :=
  fun Hb Ob O σ H s Dn k => wpS_of (ps_if (wpT_pt X c) (wpSs_ps X body) (wpSs_ps X sts)) <| hc Hb Ob O σ H s _ fun H1 e1 => by
    cases x with
    | true => exact iteT (h1 rfl Hb Ob O σ H1 (s.on e1) Dn k)
    | false => exact iteF (h2 rfl Hb Ob O σ H1 (s.on e1) Dn k)
theorem xs_any (h : False) : XS T X ρ sts P := h.elim
/-- if c: (what leaves); the rest where c is false -/
theorem xs_ifL {x : Bool} (hc : ET T X ρ c x) (h1 : x = true → XS T X ρ body { P with nx := fun _ => False }) (h2 : x = false → XS T X ρ sts P) : XS T X ρ (.If c body [] pos :: sts) P :=
  xs_cons (fun r => r = ρ ∧ x = false) (xt_if hc (fun hx Hb Ob O σ H s Dn k => h1 hx Hb Ob O σ H s Dn ⟨fun _ _ _ _ z => z.elim, k.bk, k.ct, k.rt, k.rs⟩) (fun hx => xs_nil ⟨rfl, hx⟩)) fun r h => h.1 ▸ h2 h.2
/-- if c: .. with c false -/
theorem xs_ifF (hc : ET T X ρ c false) (h2 : XS T X ρ sts P) : XS T X ρ (.If c body [] pos :: sts) P := xs_ifL hc (fun z => nomatch z) fun _ => h2
/-- x.append(e) -/
theorem xt_app {x : Str} {l : Addr} {ds : List D} {d : D} (i : Nat) {apos cpos np : Pos} (hr : ρ[i]? = some (.ol l ds)) (h : ED T X ρ e (.d d)) (hlen : ds.length < 100000) (hno : NoOwn l (ρ.set i .any)) (q : P.nx (ρ.set i (.ol l (ds ++ [d]))))
    (hn : PE X (.Name x np) (tVar i)) (hp : PE X (.Call (.Attribute (.Name x np) "append" apos) [e] [] cpos) (tBM X.K "list" rAppend (tVar i) (tCons (wpE X e) tNil)))
    (hs : swapsWith (.Call (.Attribute (.Name x np) "append" apos) [e] [] cpos) none pos.line X.env = pure false := by rfl) : XT T X ρ (.Expr (.Call (.Attribute (.Name x np) "append" apos) [e] [] cpos) pos) P := by
  refine fun Hb Ob O σ H s Dn k => wpS_of (ps_expr hp hs) ?_
  rcases s.get i _ hr with z | ⟨v, z1, rfl, h2, h3, vs, h4, h5⟩
  · cases z
  refine ⟨_, z1, .inl ⟨rfl, _, SqL.of h4⟩, h Hb Ob O σ H s _ fun y H2 e2 ry => ?_⟩
  refine ⟨l, vs, y, rfl, rfl, e2.keep _ _ h4 nt_lst, Evl.sz_lt (by rw [h5.length]; exact hlen), ?_⟩
  have hk : Keep O H2 (upd H2 l (.lst (vs ++ [y]))) := fun a o n z _ => by rw [upd_ne (fun w => by subst w; exact n h2)]; exact z
  exact k.nx O σ _ _ q ((s.on e2).write i hr h2 h3 hno ld_lst ⟨_, z1, rfl, h2, h3, _, upd_same, ((h5.ex e2).append (.cons ry .nil)).mono (fun _ z => z) hk⟩)
end
end Fl

/-! FloT -/
namespace Fl
open PySem L2 PyProof.Rows
variable {T : Tbs}

/-! ### loops -/
open Classical in
/-- what stands, but for what the def owns itself -/
noncomputable def rb (Ob O : Ow) (H : Hp) : Hp := fun a => if O a ∧ ¬ Ob a then none else H a
section
variable {Hb : Hp} {Ob O O' : Ow} {H H' : Hp} {σ σ' : L2.St} {ρ ρ' : List Sl}
theorem rb_of {a : Addr} {o : HO} (h : rb Ob O H a = some o) : H a = some o ∧ ¬ (O a ∧ ¬ Ob a) := by
  unfold rb at h
  split at h
  · cases h
  · rename_i hn; exact ⟨h, hn⟩
theorem rb_at {a : Addr} {o : HO} (h : H a = some o) (n : ¬ (O a ∧ ¬ Ob a)) : rb Ob O H a = some o := by
  unfold rb; rw [if_neg n]; exact h
theorem rb_nl (s : S T Hb Ob O H σ ρ) {a : Addr} {o : HO} (h : H a = some o) (n : ¬ LD o) : rb Ob O H a = some o := rb_at h fun z => by
  obtain ⟨u, h1, h2⟩ := s.kind a z.1 z.2
  rw [h] at h1; cases h1; exact n h2
theorem S.rb_ex (s : S T Hb Ob O H σ ρ) : Ex T Hb (rb Ob O H) := by
  refine ⟨fun a o h n => rb_at (s.ex.keep a o h n) fun z => ?_, fun a h z => ?_, fun t => tabs_ld (s.ex.tabs t) fun a o h n => rb_nl s h n⟩
  · rw [s.own a z.1 z.2] at h; cases h
  have h1 := s.ex.some a h
  unfold rb at z
  split at z
  · rename_i w; exact h (s.own a w.1 w.2)
  · exact h1 z
theorem rb_back (s : S T Hb Ob O H σ ρ) : Ex T (rb Ob O H) H := by
  refine ⟨fun a o h _ => (rb_of h).1, fun a h => ?_, fun t => tabs_ld t fun a o h _ => (rb_of h).1⟩
  cases q : rb Ob O H a with
  | none => exact absurd q h
  | some o => rw [(rb_of q).1]; exact fun z => nomatch z
theorem S.rebase (s : S T Hb Ob O H σ ρ) : S T (rb Ob O H) Ob O H σ ρ :=
  ⟨rb_back s, s.ob, fun a h n => by unfold rb; rw [if_pos ⟨h, n⟩], s.oin, s.kind, s.tabs, s.len, s.get⟩
theorem S.debase (s : S T Hb Ob O H σ ρ) (s' : S T (rb Ob O H) Ob O' H' σ' ρ') : S T Hb Ob O' H' σ' ρ' :=
  ⟨s.rb_ex.trans s'.ex, s'.ob, fun a h n => none_back s.rb_ex (s'.own a h n), s'.oin, s'.kind, s'.tabs, s'.len, s'.get⟩
theorem S.rb_keep (s : S T Hb Ob O H σ ρ) (s' : S T (rb Ob O H) Ob O' H' σ' ρ') : Keep O H H' := fun a o n h nt => s'.ex.keep a o (rb_at h fun z => n z.1) nt
theorem S.rb_own (s : S T Hb Ob O H σ ρ) (s' : S T (rb Ob O H) Ob O' H' σ' ρ') : ∀ a, H a ≠ none → O' a → O a := fun a h h' => by
  by_cases n : Ob a
  · exact s.ob a n
  · have := s'.own a h' n
    unfold rb at this
    split at this
    · rename_i z; exact z.1
    · exact absurd this h
end
section
variable {X : Cx} {ρ ρ' : List Sl} {a b c e tg it elt : Expr} {es : List Expr} {st : Stmt} {sts body : List Stmt} {pos p spos py : Pos} {P : Po}
theorem xt_for {ds : List D} {g : TG} (I : Nat → List Sl → Prop) (hc : X.calm = true) (hp : PassesOwn (model X.prog X.w) X.A X.env X.xe) (hi : EI T X ρ tg it ds) (pg : PG X tg g) (up : D → List Sl → List Sl) {is : List Nat} (hg : ∀ d ∈ ds, GS T g d (up d) is)
    (h0 : I 0 ρ) (turn : ∀ i d ρ', ds[i]? = some d → I i ρ' → XS T X (up d ρ') body { nx := I (i + 1), ct := I (i + 1), bk := P.nx, rt := P.rt, rs := P.rs }) (done : ∀ ρ', I ds.length ρ' → P.nx ρ')
    (hs : ∀ x, foldedSetIterable it X.env x = pure x := by intro _; rfl) : XT T X ρ (.For tg it body [] pos) P := by
  obtain ⟨wi, pi, hw⟩ := hi
  refine fun Hb Ob O σ H s Dn k => wpS_of (ps_for hp hc pi pg (wpSs_ps X body) hs) ?_
  refine hw Hb Ob O σ H s _ fun J G Y H1 e1 W hG hY => ?_
  have s1 := s.on e1
  refine for_it W (fun i σ' H' => ∃ O' ρ', S T (rb Ob O H1) Ob O' H' σ' ρ' ∧ I i ρ') ⟨O, ρ, s1.rebase, h0⟩ (fun i σ' H' _ ⟨O', ρ', s', _⟩ => hG H' (s1.rb_keep s')) ?_ ?_
  · rintro i x σ' H' H'' hi ⟨O', ρ', s', hI⟩ y
    obtain ⟨d, hd, ex2, hx⟩ := hY i O' H' x H'' hi (s1.rb_own s') s'.oin (s1.rb_keep s') y
    refine hg d (List.mem_of_getElem? hd) _ _ _ _ _ _ x (s'.on ex2) hx _ fun σ2 s2 _ => ?_
    refine turn i d ρ' hd hI _ _ _ _ _ s2 _ ⟨fun O3 σ3 H3 ρ3 h3 s3 => ⟨O3, ρ3, s3, h3⟩, fun O3 σ3 H3 ρ3 h3 s3 => k.nx O3 σ3 H3 ρ3 h3 (s1.debase s3), fun O3 σ3 H3 ρ3 h3 s3 => ⟨O3, ρ3, s3, h3⟩, fun v d H3 h3 e3 hv => k.rt v d H3 h3 (s1.rb_ex.trans e3) hv, fun O3 σ3 H3 ρ3 v d h3 s3 dv => k.rs O3 σ3 H3 ρ3 v d h3 (s1.debase s3) dv⟩
  · rintro σ' H' ⟨O', ρ', s', hI⟩
    exact k.nx O' σ' H' ρ' (done ρ' hI) (s1.debase s')
theorem xt_while (I : Nat → List Sl → Prop) (hp : PassesOwn (model X.prog X.w) X.A X.env X.xe) (m0 : Nat) (h0 : I m0 ρ)
    (turn : ∀ m ρ', I m ρ' → ∃ b, ET T X ρ' c b ∧ (b = true → XS T X ρ' body { nx := fun r => ∃ m', m' < m ∧ I m' r, ct := fun r => ∃ m', m' < m ∧ I m' r, bk := P.nx, rt := P.rt, rs := P.rs }) ∧ (b = false → P.nx ρ')) : XT T X ρ (.While c body [] pos) P := by
  refine fun Hb Ob O σ H s Dn k => wpS_of (ps_while hp (wpT_pt X c) (wpSs_ps X body)) ?_
  refine ⟨fun m σ' H' => ∃ O' ρ', S T Hb Ob O' H' σ' ρ' ∧ I m ρ', ⟨m0, O, ρ, s, h0⟩, ?_⟩
  rintro m σ' H' ⟨O', ρ', s', hI⟩
  obtain ⟨b, ht, h1, h2⟩ := turn m ρ' hI
  refine ht _ _ _ _ _ s' _ fun H2 e2 => ?_
  cases b with
  | true =>
    refine iteT ⟨fun σ3 H3 => ∃ m', m' < m ∧ ∃ O' ρ', S T Hb Ob O' H3 σ3 ρ' ∧ I m' ρ', fun σ3 H3 h => h, ?_⟩
    exact h1 rfl _ _ _ _ _ (s'.on e2) _ ⟨fun O3 σ3 H3 ρ3 ⟨m', hm, h3⟩ s3 => ⟨m', hm, O3, ρ3, s3, h3⟩, k.nx, fun O3 σ3 H3 ρ3 ⟨m', hm, h3⟩ s3 => ⟨m', hm, O3, ρ3, s3, h3⟩, k.rt, k.rs⟩
  | false => exact iteF (k.nx O' σ' H2 ρ' (h2 rfl) (s'.on e2))

/-! ### a comprehension that a name takes -/
section
variable {scope : Scope} {own : List (Str × Nat)} {α : Type} {ds : List D} {g : TG} {is : List Nat} {x : Str}
theorem xt_setLc (i : Nat) (hc : X.calm = true) (hN : X.N.Nodup) (hi : EI T X ρ tg it ds) (ok : BlkOk X.N X.env.scope scope own) (xs : List α) (enc : α → D) (hds : ds = xs.map enc) (hl : xs.length ≤ 50000) (tgt : Tg X scope tg g)
    (up : α → List Sl → List Sl) (hg : ∀ x ∈ xs, GS T g (enc x) (up x) is) (his : ∀ i ∈ is, i ∈ own.map (·.2)) (f : α → D)
    (hf : ∀ x ∈ xs, EB T X scope (up x (wipeR ρ (own.map (·.2)))) elt (.d (f x))) (q : P.nx (ρ.set i (.d (.lst (xs.map f))))) (hy : X.N[i]? = some x := by rfl) (hyl : X.env.scope.names.lookup x = some .local := by rfl)
    (hsw : swapsWith (.ListComp elt [⟨tg, it, [], 0⟩] scope pos) (some (.Name x py)) spos.line X.env = pure true := by exact sw_true rfl rfl rfl (by decide +kernel)) (hs : ∀ x, foldedSetIterable it X.env x = pure x := by intro _; rfl) : XT T X ρ (.Assign [.Name x py] (.ListComp elt [⟨tg, it, [], 0⟩] scope pos) spos) P := by
  obtain ⟨wi, pi, hw⟩ := hi
  refine fun Hb Ob O σ H s Dn k => wpS_of (ps_setLc (py := py) (spos := spos) hc hN hy hyl hsw pi ok tgt.pg (fun _ _ _ _ _ => pts_nil) (fun s H C cl fp => bE_pe s H C cl fp) hs) ?_
  exact tlc hw xs enc hds hl (g := g) up hg his (tt := tYes) (te := bE X scope elt) (fun _ => true) f (fun x _ => tsem_yes _) (fun x hx _ => (hf x hx).sem) Hb Ob O σ H s (fun v H1 => gName i v σ H1 Dn.nx) (fun r us H2 h1 h2 h3 h4 =>
    k.nx O _ H2 _ q ((s.on h2).set i (r := .d _) (.lst (.inl h3) (s.fresh h1) (by rw [show xs.filter (fun _ => true) = xs from List.filter_eq_self.mpr fun _ _ => rfl] at h4; exact h4.less))))
theorem xt_setLcIf (i : Nat) (hc : X.calm = true) (hN : X.N.Nodup) (hi : EI T X ρ tg it ds) (ok : BlkOk X.N X.env.scope scope own) (xs : List α) (enc : α → D) (hds : ds = xs.map enc) (hl : xs.length ≤ 50000) (tgt : Tg X scope tg g)
    (up : α → List Sl → List Sl) (hg : ∀ x ∈ xs, GS T g (enc x) (up x) is) (his : ∀ i ∈ is, i ∈ own.map (·.2)) (pr : α → Bool) (f : α → D) (ht : ∀ x ∈ xs, TB T X scope (up x (wipeR ρ (own.map (·.2)))) c (pr x))
    (hf : ∀ x ∈ xs, pr x = true → EB T X scope (up x (wipeR ρ (own.map (·.2)))) elt (.d (f x))) (q : P.nx (ρ.set i (.d (.lst ((xs.filter pr).map f))))) (hy : X.N[i]? = some x := by rfl) (hyl : X.env.scope.names.lookup x = some .local := by rfl)
    (hsw : swapsWith (.ListComp elt [⟨tg, it, [c], 0⟩] scope pos) (some (.Name x py)) spos.line X.env = pure true := by exact sw_true rfl rfl rfl (by decide +kernel)) (hs : ∀ x, foldedSetIterable it X.env x = pure x := by intro _; rfl) : XT T X ρ (.Assign [.Name x py] (.ListComp elt [⟨tg, it, [c], 0⟩] scope pos) spos) P := by
  obtain ⟨wi, pi, hw⟩ := hi
  refine fun Hb Ob O σ H s Dn k => wpS_of (ps_setLc (py := py) (spos := spos) hc hN hy hyl hsw pi ok tgt.pg (fun s H C cl fp => pts_one (bT_pt s H C cl fp)) (fun s H C cl fp => bE_pe s H C cl fp) hs) ?_
  exact tlc hw xs enc hds hl (g := g) up hg his (tt := bT X scope c) (te := bE X scope elt) pr f (fun x hx => (ht x hx).sem) (fun x hx hp => (hf x hx hp).sem) Hb Ob O σ H s (fun v H1 => gName i v σ H1 Dn.nx) (fun r us H2 h1 h2 h3 h4 =>
    k.nx O _ H2 _ q ((s.on h2).set i (r := .d _) (.lst (.inl h3) (s.fresh h1) h4.less)))
end

/-! ### dicts -/
def lookD (kvs : List (Int × D)) (k : Int) : Option D := (kvs.find? fun p => decide (p.1 = k)).map (·.2)
def DctK (r : Sl) (kvs : List (Int × D)) : Prop := r = .d (.dct kvs) ∨ ∃ l, r = .od l kvs
theorem ROk.dct {Ob O : Ow} {H : Hp} {v : V} {r : Sl} {kvs : List (Int × D)} (h : ROk Ob O H v r) (q : DctK r kvs) : ∃ a ks, v = .ref a ∧ H a = some (.dK ks) ∧ DenK O H ks kvs := by
  rcases q with rfl | ⟨l, rfl⟩
  · cases h with
    | dct h n hd => exact ⟨_, _, rfl, h, hd⟩
  · obtain ⟨h1, h2, h3, vs, h4, h5⟩ := h
    exact ⟨l, vs, h1, h4, h5⟩
theorem DenK.val {O : Ow} {H : Hp} {ks : List (L2.Key × V)} {kvs : List (Int × D)} (h : DenK O H ks kvs) (k : Int) : (lookD kvs k = none ∧ valV ks (Sum.inl k) = none) ∨ ∃ d v, lookD kvs k = some d ∧ valV ks (Sum.inl k) = some v ∧ Den O H v d := by
  induction kvs generalizing ks with
  | nil => cases h; exact .inl ⟨rfl, rfl⟩
  | cons p kvs ih =>
    cases h with
    | @cons k' v d vs ds h1 h2 =>
      by_cases e : k' = k
      · subst e
        exact .inr ⟨d, v, by simp [lookD], by rw [valV_pos rfl], h1⟩
      · have e1 : lookD ((k', d) :: kvs) k = lookD kvs k := by simp [lookD, e]
        have e2 : valV ((Sum.inl k', v) :: vs) (Sum.inl k) = valV vs (Sum.inl k) := valV_neg (fun z => e (Sum.inl.inj z))
        rw [e1, e2]
        exact ih h2
theorem DenK.append {O : Ow} {H : Hp} {ks : List (L2.Key × V)} {kvs : List (Int × D)} (h : DenK O H ks kvs) {k : Int} {v : V} {d : D} (g : Den O H v d) : DenK O H (ks ++ [(Sum.inl k, v)]) (kvs ++ [(k, d)]) := by
  induction kvs generalizing ks with
  | nil => cases h; exact .cons g .nil
  | cons p kvs ih =>
    cases h with
    | cons h1 h2 => exact .cons h1 (ih h2)
theorem DenK.length {O : Ow} {H : Hp} {ks : List (L2.Key × V)} {kvs : List (Int × D)} (h : DenK O H ks kvs) : ks.length = kvs.length := by
  induction kvs generalizing ks with
  | nil => cases h; rfl
  | cons p kvs ih =>
    cases h with
    | cons h1 h2 => simp [ih h2]
theorem DenK.values {O : Ow} {H : Hp} {ks : List (L2.Key × V)} {kvs : List (Int × D)} (h : DenK O H ks kvs) : Dens O H (ks.map (·.2)) (kvs.map (·.2)) := by
  induction kvs generalizing ks with
  | nil => cases h; exact .nil
  | cons p kvs ih =>
    cases h with
    | cons h1 h2 => exact .cons h1 (ih h2)
theorem ed_dget {r : Sl} {kvs : List (Int × D)} {k : Int} {d : D} (hu : X.A.units + 1 < cLine) (ha : ED T X ρ a r) (hq : DctK r kvs) (hb : ED T X ρ b (.d (.int k))) (hk : lookD kvs k = some d) (hs : NoSl b := by exact fun _ _ => rfl) : ED T X ρ (.Subscript a b pos) (.d d) :=
  fun Hb Ob O σ H s Q q => wpE_of (pe_dget hu (wpE_pe X a) (wpE_pe X b) hs) <| ha Hb Ob O σ H s _ fun v H1 e1 rv => hb Hb Ob O σ H1 (s.on e1) _ fun u H2 e2 ru => by
    obtain ⟨l, ks, rfl, h2, hd⟩ := (rv.ex e2).dct hq
    obtain rfl := Den.int_inv ru
    rcases hd.val k with ⟨z, _⟩ | ⟨d', v, h3, h4, h5⟩
    · rw [hk] at z; cases z
    · rw [hk] at h3; cases h3
      exact ⟨l, v, rfl, h4 ▸ DGet.k (k := Sum.inl k) h2, q v H2 (e1.trans e2) h5⟩
theorem ed_dgetm {r : Sl} {kvs : List (Int × D)} {k : Int} {apos cpos : Pos} (hu : X.A.units + 1 < cLine) (ha : ED T X ρ a r) (hq : DctK r kvs) (hb : ED T X ρ b (.d (.int k))) (hm : M1 X a "get" apos b cpos) : ED T X ρ (.Call (.Attribute a "get" apos) [b] [] cpos) (.d ((lookD kvs k).getD .non)) :=
  fun Hb Ob O σ H s Q q => wpE_of (pe_dget1 hu (wpE_pe X a) (wpE_pe X b) hm) <| ha Hb Ob O σ H s _ fun v H1 e1 rv => by
    obtain ⟨l, ks, rfl, h2, hd⟩ := rv.dct hq
    refine ⟨l, rfl, .inl ⟨ks, .inl h2⟩, hb Hb Ob O σ H1 (s.on e1) _ fun u H2 e2 ru => ?_⟩
    obtain rfl := Den.int_inv ru
    refine ⟨_, DGet.k (k := Sum.inl k) (e2.keep _ _ h2 nt_dK), ?_⟩
    rcases (hd.ex e2).val k with ⟨z1, z2⟩ | ⟨d', v, h3, h4, h5⟩
    · rw [z2]; exact q _ H2 (e1.trans e2) (by rw [z1]; exact .non)
    · rw [h4]; exact q _ H2 (e1.trans e2) (by rw [h3]; exact h5)
/-- d[k] = e, a new key of an own dict -/
theorem xt_dput {x : Str} {l : Addr} {kvs : List (Int × D)} {d : D} {k : Int} (i : Nat) {np pos' : Pos} (hu : X.A.units + 1 < cLine) (hr : ρ[i]? = some (.od l kvs)) (h : ED T X ρ e (.d d)) (hb : ED T X ρ b (.d (.int k))) (hk : lookD kvs k = none) (hlen : kvs.length < 100000) (hno : NoOwn l (ρ.set i .any))
    (q : P.nx (ρ.set i (.od l (kvs ++ [(k, d)])))) (hn : PE X (.Name x np) (tVar i)) (hs : swapsWith e (some (.Subscript (.Name x np) b pos')) pos.line X.env = pure false := by rfl) : XT T X ρ (.Assign [.Subscript (.Name x np) b pos'] e pos) P := by
  refine fun Hb Ob O σ H s Dn kk => wpS_of (ps_dput hu hn (wpE_pe X b) (wpE_pe X e) hs) ?_
  rcases s.get i _ hr with z | ⟨v, z1, rfl, h2, h3, ks, h4, h5⟩
  · cases z
  refine h Hb Ob O σ H s _ fun y H1 e1 ry => ⟨_, z1, hb Hb Ob O σ H1 (s.on e1) _ fun u H2 e2 ru => ?_⟩
  obtain rfl := Den.int_inv ru
  have e3 := e1.trans e2
  have h5' := h5.ex e3
  have hl : ks.length < sizeLine := Evl.sz_lt (by rw [h5.length]; exact hlen)
  refine ⟨l, _, rfl, DPut.k (k := Sum.inl k) (e3.keep _ _ h4 nt_dK) hl, ?_⟩
  have hv : valV ks (Sum.inl k) = none := by
    rcases h5'.val k with ⟨_, z⟩ | ⟨_, _, z, _⟩
    · exact z
    · rw [hk] at z; cases z
  rw [putK_new y hv]
  have hkp : Keep O H2 (upd H2 l (.dK (ks ++ [(Sum.inl k, y)]))) := fun a o n z _ => by rw [upd_ne (fun w => by subst w; exact n h2)]; exact z
  exact kk.nx O σ _ _ q ((s.on e3).write i hr h2 h3 hno ld_dK ⟨_, z1, rfl, h2, h3, _, upd_same, (h5'.append (Den.ex ry e2)).mono (fun _ z => z) hkp⟩)
/-- x.extend(a new list) -/
theorem xt_ext {x : Str} {l : Addr} {ds es' : List D} (i : Nat) {apos cpos np : Pos} (hr : ρ[i]? = some (.ol l ds)) (h : EF T X ρ e es') (hlen : ds.length + es'.length ≤ 100000) (hno : NoOwn l (ρ.set i .any)) (q : P.nx (ρ.set i (.ol l (ds ++ es'))))
    (hp : PE X (.Call (.Attribute (.Name x np) "extend" apos) [e] [] cpos) (tBM X.K "list" rExtend (tVar i) (tCons (wpE X e) tNil)))
    (hs : swapsWith (.Call (.Attribute (.Name x np) "extend" apos) [e] [] cpos) none pos.line X.env = pure false := by rfl) : XT T X ρ (.Expr (.Call (.Attribute (.Name x np) "extend" apos) [e] [] cpos) pos) P := by
  refine fun Hb Ob O σ H s Dn k => wpS_of (ps_expr hp hs) ?_
  rcases s.get i _ hr with z | ⟨v, z1, rfl, h2, h3, vs, h4, h5⟩
  · cases z
  refine ⟨_, z1, .inl ⟨rfl, _, SqL.of h4⟩, h Hb Ob O σ H s _ fun p us H2 hp2 e2 h6 h7 => ?_⟩
  refine ⟨l, p, vs, us, rfl, rfl, e2.keep _ _ h4 nt_lst, h6, Evl.sz_of (by rw [h5.length, h7.length]; exact hlen), ?_⟩
  have hk : Keep O H2 (upd H2 l (.lst (vs ++ us))) := fun a o n z _ => by rw [upd_ne (fun w => by subst w; exact n h2)]; exact z
  exact k.nx O σ _ _ q ((s.on e2).write i hr h2 h3 hno ld_lst ⟨_, z1, rfl, h2, h3, _, upd_same, ((h5.ex e2).append h7.less).mono (fun _ z => z) hk⟩)
/-- a, b = e1, e2 -/
theorem xt_par {x y : Str} {d1 d2 : D} (i j : Nat) {px py pt pt2 : Pos} {kt k2 : Nat} (ha : ED T X ρ a (.d d1)) (hb : ED T X ρ b (.d d2)) (q : P.nx ((ρ.set i (.d d1)).set j (.d d2))) (hc : X.calm = true) (hN : X.N.Nodup) (hi : X.N[i]? = some x := by rfl) (hj : X.N[j]? = some y := by rfl) (hij : i ≠ j := by decide)
    (hx : X.env.scope.names.lookup x = some .local := by rfl) (hy : X.env.scope.names.lookup y = some .local := by rfl) (hsa : starEach [a, b] X.env = (false, eval a X.env) :: starEach [b] X.env := by rfl) (hsb : starEach [b] X.env = (false, eval b X.env) :: starEach [] X.env := by rfl)
    (hw : swappedStores [.Tuple [.Name x px, .Name y py] kt pt] (.Tuple [a, b] k2 pt2) X.env = pure (some [x, y]) := by rfl) (hs : swapsWithSole [.Tuple [.Name x px, .Name y py] kt pt] (.Tuple [a, b] k2 pt2) pos.line X.env = pure false := by rfl) :
    XT T X ρ (.Assign [.Tuple [.Name x px, .Name y py] kt pt] (.Tuple [a, b] k2 pt2) pos) P :=
  fun Hb Ob O σ H s Dn k => wpS_of (ps_par hc hN hi hj hij hx hy (pa_cons (wpE_pe X a) (pa_cons (wpE_pe X b) pa_nil hsb) hsa) hw hs) <| ha Hb Ob O σ H s _ fun v H1 e1 rv => hb Hb Ob O σ H1 (s.on e1) _ fun u H2 e2 ru =>
    ⟨v, u, rfl, k.nx O _ H2 _ q ((((s.on e1).on e2).set i (r := .d d1) (Den.ex rv e2)).set j (r := .d d2) ru)⟩
/-- a, b = {}, {} -/
theorem xt_parD {x y : Str} (i j : Nat) {px py pt pt2 pa pb : Pos} {kt k2 : Nat} (q : ∀ l m, l ≠ m → NoOwn l ρ → NoOwn m ρ → P.nx ((ρ.set i (.od l [])).set j (.od m []))) (hc : X.calm = true) (hN : X.N.Nodup) (hi : X.N[i]? = some x := by rfl) (hj : X.N[j]? = some y := by rfl) (hij : i ≠ j := by decide)
    (hx : X.env.scope.names.lookup x = some .local := by rfl) (hy : X.env.scope.names.lookup y = some .local := by rfl) (hsa : starEach [.Dict [] [] pa, .Dict [] [] pb] X.env = (false, eval (.Dict [] [] pa) X.env) :: starEach [.Dict [] [] pb] X.env := by rfl) (hsb : starEach [.Dict [] [] pb] X.env = (false, eval (.Dict [] [] pb) X.env) :: starEach [] X.env := by rfl)
    (hw : swappedStores [.Tuple [.Name x px, .Name y py] kt pt] (.Tuple [.Dict [] [] pa, .Dict [] [] pb] k2 pt2) X.env = pure (some [x, y]) := by rfl) (hs : swapsWithSole [.Tuple [.Name x px, .Name y py] kt pt] (.Tuple [.Dict [] [] pa, .Dict [] [] pb] k2 pt2) pos.line X.env = pure false := by rfl) :
    XT T X ρ (.Assign [.Tuple [.Name x px, .Name y py] kt pt] (.Tuple [.Dict [] [] pa, .Dict [] [] pb] k2 pt2) pos) P :=
  fun Hb Ob O σ H s Dn k => wpS_of (ps_par hc hN hi hj hij hx hy (pa_cons pe_dnewK (pa_cons pe_dnewK pa_nil hsb) hsa) hw hs) <| fun l hl m hm => by
    have hml : l ≠ m := fun z => by subst z; rw [upd_same] at hm; cases hm
    have hm' : H m = none := by rw [upd_ne hml.symm] at hm; exact hm
    have s1 := s.take hl (Ex.new (o := .dK []) hl) ⟨_, upd_same, ld_dK⟩
    have s2 := s1.take hm (Ex.new (o := .dK []) hm) ⟨_, upd_same, ld_dK⟩
    exact ⟨_, _, rfl, k.nx (Op (Op O l) m) _ _ _ (q l m hml (s.noOwn hl) (s.noOwn hm')) ((s2.set i (r := .od l []) ⟨rfl, .inl (.inr rfl), fun z => s.oin l (s.ob l z) hl, [], by rw [upd_ne hml]; exact upd_same, .nil⟩).set j (r := .od m []) ⟨rfl, .inr rfl, fun z => s.oin m (s.ob m z) hm', [], upd_same, .nil⟩)⟩
end

/-! ### a def -/
def rho (N : List Str) (ds : List D) : List Sl := ds.map Sl.d ++ List.replicate (N.length - ds.length) .any
theorem start_S {N : List Str} {H : Hp} {O : Ow} {vs : List V} {ds : List D} (hO : ∀ a, O a → H a ≠ none) (hT : LamX.Tabs T H) (hd : Dens O H vs ds) (hl : ds.length ≤ N.length) : S T H O O H (L2.start N vs) (rho N ds) := by
  refine ⟨Ex.refl H, fun _ h => h, fun a h n => absurd h n, hO, fun a h n => absurd h n, hT, ?_, fun i r h => ?_⟩
  · unfold L2.start rho; rw [List.length_append, List.length_append, List.length_map, List.length_map, List.length_replicate, List.length_replicate, hd.length]
  · unfold rho at h
    unfold L2.start
    by_cases hi : i < ds.length
    · rw [List.getElem?_append_left (by simpa using hi), List.getElem?_map] at h
      have e : ds[i]? = some ds[i] := by simp [hi]
      rw [e] at h
      obtain rfl : Sl.d ds[i] = r := Option.some.inj h
      obtain ⟨v, h1, h2⟩ := hd.get e
      refine .inr ⟨v, ?_, h2⟩
      rw [List.getElem?_append_left (by rw [List.length_map, hd.length]; exact hi), List.getElem?_map, h1]; rfl
    · rw [List.getElem?_append_right (by simpa using hi), List.getElem?_replicate] at h
      split at h
      · exact .inl (Option.some.inj h).symm
      · cases h
theorem fn_xs {P : Program} {w : World} {K : PySem.W.Frag} {mg : Str → Option Value} {base : Heap} {x qual : Str} {st : Stmt} {f : Addr} {fd : FuncData} {N ps : List Str} {k : Nat} {R : Rel} (F : Fun K x qual st f fd) (sc : FnScope N ps (defScope st)) (hm : mg x = some (.ref f)) (hb : Binds K fd ps [])
    (hlen : ∀ ds out, R ds out → ds.length = ps.length) (hps : ps.length ≤ N.length)
    (body : ∀ (cdv : Value) (A : Around) (outer : List Env) (s : Shared) (H : Hp) (E : XK) (ds : List D) (out : D), Room k (A.deeper (envOfC qual (defScope st) s.heap.objs.size f cdv)) → R ds out →
      XS T (cxOf CX0 P w K mg base N qual (defScope st) f cdv A outer s H E).nox (rho N ds) (defBody st) { nx := fun _ => out = .non, rt := fun d => d = out }) : Fn T P w K mg base (k + 1) x R := by
  refine ⟨f, fd, ps, F.ok sc (fun vs H Q E h => ?_) (fun cdv A outer s H vs Q E hr h => ?_), hm, F.kp, hb⟩
  · obtain ⟨O, ds, out, _, _, hd, hR, _⟩ := h
    rw [hd.length]; exact hlen ds out hR
  · obtain ⟨O, ds, out, hO, hT, hd, hR, q⟩ := h
    refine ⟨_, wpSs_ps _ _, ?_⟩
    refine body cdv A outer s H E ds out hr hR H O O _ H (start_S hO hT hd (by rw [hlen ds out hR]; exact hps)) _ ⟨fun O' σ H' ρ h s' => ?_, fun _ _ _ _ z => z.elim, fun _ _ _ _ z => z.elim, fun v d H' h e hv => ?_, fun _ _ _ _ _ _ z => z.elim⟩
    · subst h; exact q .non H' s'.ex .non
    · subst h; exact q v H' e hv
end Fl
namespace Fl
open PySem L2 PyProof.Rows
variable {T : Tbs}
/-- a def of the text stands where its name says -/
structure Df (K : PySem.W.Frag) (mg : Str → Option Value) (x : Str) (st : Stmt) (ps : List Str) : Prop where
  ex : ∃ f fd, Fun K x x st f fd ∧ mg x = some (.ref f) ∧ Binds K fd ps []
theorem fn_df {P : Program} {w : World} {K : PySem.W.Frag} {mg : Str → Option Value} {base : Heap} {x : Str} {st : Stmt} {ps : List Str} {k : Nat} {R : Rel} (N : List Str) (Dd : Df K mg x st ps) (sc : FnScope N ps (defScope st))
    (hlen : ∀ ds out, R ds out → ds.length = ps.length)
    (body : ∀ (f : Addr) (cdv : Value) (A : Around) (outer : List Env) (s : Shared) (H : Hp) (E : XK) (ds : List D) (out : D), Room k (A.deeper (envOfC x (defScope st) s.heap.objs.size f cdv)) → R ds out →
      XS T (cxOf CX0 P w K mg base N x (defScope st) f cdv A outer s H E).nox (rho N ds) (defBody st) { nx := fun _ => out = .non, rt := fun d => d = out }) : Fn T P w K mg base (k + 1) x R := by
  obtain ⟨f, fd, F, hm, hb⟩ := Dd.ex
  have hps : ps.length ≤ N.length := by have := congrArg List.length sc.pre; rw [List.length_take] at this; omega
  exact fn_xs F sc hm hb hlen hps (body f)
end Fl

/-! FloU -/
namespace Fl
open PySem L2 PyProof.Rows
variable {T : Tbs}

/-! ### enumerate(a tuple) -/
section
open Builtin
theorem enumT_new {v : Value} {ob : Obj} {G : Heap → Prop} (B : Begins v ob G) :
    Meets (Builtin.«enumerate.__new__» ⟨[.type "enumerate", v], []⟩) (fun _ R s => G s.heap ∧ R (.ok (.ret (.ref (s.heap.push ob).objs.size)))
      { s with heap := (s.heap.push ob).push { cls := .type "enumerate", data := .fields #[.none, .bool false, .ref s.heap.objs.size, rawInt 0, .none, .none] } }) := by
  refine .of_wp fun prog w A R s hs => ?_
  obtain ⟨hp, gg, dd, tt, oo⟩ := s
  obtain ⟨hG, hR⟩ := hs
  have sub := sub_enumerate
  have step : ∀ {A2 : Around} {E2 : Value → Shared → Prop} {Q2 : Value → Shared → Prop}, Q2 (.ref hp.objs.size) ⟨hp.push ob, gg, dd, tt, oo⟩ → wpAny (model prog w) A2 (pyIter v) Q2 E2 ⟨hp, gg, dd, tt, oo⟩ :=
    fun q => B.iter prog w _ _ ⟨hp, gg, dd, tt, oo⟩ _ hG q
  wp_walk using step
  refine wpAny_stack_any fun st => wpAny_pure ?_
  split
  · rename_i c _ _ _ _ _
    cases (c == Value.type "enumerate") <;> (wp_walk using step; exact ⟨_, rfl, hR⟩)
  · wp_walk using step
    exact ⟨_, rfl, hR⟩
end
section
variable {prog : Program} {w : World} {A : Around} {E : Value → Shared → Prop} {s : Shared}
theorem enumT_call {t : Addr} {items : Array Value} {Q : Value → Shared → Prop} (hT : s.heap.IsTuple t items)
    (k : ∀ h', IsEnum h' (s.heap.objs.size + 1) s.heap.objs.size 0 .none → h'.IsTupleIter s.heap.objs.size t 0 → (∀ b o, s.heap.get? b = some o → h'.get? b = some o) → Q (.ref (s.heap.objs.size + 1)) { s with heap := h' }) :
    wpAny (model prog w) A (call (.type "enumerate") [.ref t]) Q E s := by
  have z1 : (s.heap.push { cls := .type "tuple_iterator", data := .fields #[.ref t, .int 0 0] }).objs.size = s.heap.objs.size + 1 := Heap.size_push ..
  refine callType_new F.called_enumerate (by decide) (F.typeCall_enumerate_1 _) (F.newCall_enumerate_1 _) (fun obj => F.args_object_init_2 obj _) F.entry_enumerate_new (enumT_new (begins_tuple t items)) ⟨hT, ?_⟩
  show _ ∧ _
  rw [z1]
  have en : IsEnum ((s.heap.push { cls := .type "tuple_iterator", data := .fields #[.ref t, .int 0 0] }).push { cls := .type "enumerate", data := .fields #[.none, .bool false, .ref s.heap.objs.size, rawInt 0, .none, .none] }) (s.heap.objs.size + 1) s.heap.objs.size 0 .none := by
    have q := Heap.get?_push_size (s.heap.push { cls := .type "tuple_iterator", data := .fields #[.ref t, .int 0 0] }) (o := { cls := .type "enumerate", data := .fields #[.none, .bool false, .ref s.heap.objs.size, rawInt 0, .none, .none] }) rfl
    rwa [z1] at q
  exact ⟨⟨_, en, rfl⟩, k _ en ⟨_, Heap.get?_push_of_some _ (Heap.get?_push_size _ rfl), rfl, rfl⟩ fun b o x => Heap.get?_push_of_some _ (Heap.get?_push_of_some _ x)⟩
end
/-- the tuple at a, each item in a new pair -/
def ItN (K : PySem.W.Frag) (a : Addr) : It where
  go i H := ∃ (xs : List V) (x : V), SqT K H a xs ∧ xs[i]? = some x
  yld i H v H' := ∃ T x, v = .ref T ∧ H T = none ∧ H' = upd H T (.tup [.int (i : Nat), x]) ∧ ∀ xs, SqT K H a xs → xs[i]? = some x
  stop i H := ∃ xs : List V, SqT K H a xs ∧ xs.length ≤ i
theorem turn_enumT {P : Program} {w : World} {K : PySem.W.Frag} {elts : List Expr} {kk : Nat} {tpos : Pos} (a e it : Addr) :
    Turn P w K (.Tuple elts kk tpos) (ItN K a) [e, it] e (fun i h => (∃ old, IsEnum h e it ((i : Nat) : Int) old) ∧ h.IsTupleIter it a i ∧ e ≠ it) := by
  have two : ∀ b, b ∈ [e, it] → b = e ∨ b = it := fun b hb => by simpa using hb
  refine ⟨by simp, fun i h st b hb => ?_, fun i h h' st k => ?_, ?_, ?_, fun A i s Q E st h => let ⟨⟨_, he⟩, _⟩ := st; wpAny_pyIter_enum he h⟩
  · obtain ⟨⟨old, he⟩, ⟨o, ho, _, hd⟩, _⟩ := st
    rcases two b hb with z | z <;> rw [z]
    · exact ⟨_, he, fun v q => nomatch q⟩
    · exact ⟨o, ho, fun v q => by rw [hd] at q; cases q⟩
  · obtain ⟨⟨old, he⟩, hi, hne⟩ := st
    exact ⟨⟨old, k e (by simp) _ he⟩, hi.at fun o q => k it (by simp) o q, hne⟩
  · intro X hP hw hK hc i pins s σ H E I hf st hg
    subst hP hw hK
    obtain ⟨⟨old, he⟩, hit, hne⟩ := st
    obtain ⟨xs, x, hq, hx⟩ := hg
    obtain ⟨its, rv, pt, hz⟩ := I.tuple hq
    obtain ⟨u, hu, ru⟩ := rv.get hx
    have hel : e < s.heap.objs.size := Heap.lt_size he
    have hil : it < s.heap.objs.size := by obtain ⟨_, q, _⟩ := hit; exact Heap.lt_size q
    have hsz : i < its.toArray.size := by
      have := at_lt hu
      simpa using this
    have ait : a ≠ it := by
      rintro rfl
      obtain ⟨o1, h1, c1, _⟩ := hit
      obtain ⟨o2, h2, c2, _⟩ := pt
      rw [h1] at h2; cases h2
      rw [c1] at c2
      injection c2 with c2
      exact absurd c2 (by decide)
    have ae : e ∉ [it, a] := by
      intro z
      rcases List.mem_cons.mp z with z | z
      · exact hne z
      · obtain rfl : e = a := by simpa using z
        obtain ⟨o2, h2, c2, _⟩ := pt
        have : some _ = some o2 := he.symm.trans h2
        cases this
        injection c2 with c2
        exact absurd c2 (by decide)
    refine wpAny_pyNext_enum_itemD (Draws.tuple (show X.A.in1.handled = none from I.ok.hd hc) it a ait its.toArray) he ⟨hit, pt⟩ hsz hne ae fun y h' tk hy ho hs' hT hsz' hk => ?_
    have hy' : its[i]? = some y := by simpa using hy
    rw [hu] at hy'; cases hy'
    refine ⟨_, rfl, wpAny_letOwnedTupleGo_enum (s := { s with heap := h', toks := tk + 1 }) ho fun h'' he' sb => ?_⟩
    have hT2 : h''.get? s.heap.objs.size = some { cls := .type "tuple", data := .seq #[.int i tk, u] } := (sb.2 _ (Nat.ne_of_gt hel)).trans hT
    have new : ObjOk X.prog X.w (upd H s.heap.objs.size (.tup [.int (i : Nat), x])) h'' s.heap.objs.size (.tup [.int (i : Nat), x]) :=
      ⟨by show 2 ≤ sizeLine; decide, [.int i tk, u], .cons ⟨_, rfl⟩ (.cons ru .nil), ⟨_, hT2, rfl, _, rfl⟩⟩
    have I1 : Inv X pins σ (upd H s.heap.objs.size (.tup [.int (i : Nat), x])) { s with heap := h'', toks := tk + 1 } :=
      I.turnedNew (ch := [e, it]) (fun b ob hb q => (sb.2 b (fun z => hb (by simp [z]))).trans (hk b ob (fun z => hb (by simp [z])) (fun z => hb (by simp [z])) q)) hf (Nat.le_refl _) new
    refine ⟨.ref s.heap.objs.size, _, I1, rfl, ⟨_, x, rfl, I.hok.fresh (Nat.le_refl _), rfl, fun ys hy => by rw [I.tuple_inj hy hq]; exact hx⟩, ⟨⟨u, ?_⟩, hs'.1.at fun o q => (sb.2 it (Ne.symm hne)).trans q, hne⟩, fun b hb => ?_⟩
    · rw [show ((i + 1 : Nat) : Int) = (i : Int) + 1 from by omega]
      exact he'
    · have hb' : b < s.heap.objs.size := by rcases two b hb with z | z <;> (rw [z]; assumption)
      rw [upd_ne (Nat.ne_of_lt hb')]
      exact (hf b hb).1
  · intro X hP hw hK hc i pins s σ H E I hf st hg
    subst hP hw hK
    obtain ⟨⟨old, he⟩, hit, hne⟩ := st
    obtain ⟨xs, hq, hx⟩ := hg
    obtain ⟨its, rv, pt, hz⟩ := I.tuple hq
    obtain ⟨f0, f1, f2, f3, f4, f5⟩ := hf it (by simp)
    have hl := rv.length
    have hh : X.A.in1.handled = none := I.ok.hd hc
    have hT : s.TypeIs (.ref e) "enumerate" := ⟨_, he, rfl⟩
    unfold pyNext
    refine wpAny_bind (wpAny_attempt (wpAny_callSpecial?_slot (name := Str.ofString "__next__") hT F.slot_enumerate_next (wpAny_call_entry F.slot_enumerate_next hT F.entry_enumerate_next ?_ (F.args_enumerate_next_1 _))))
    show wpAny _ _ (field (.ref e) 2 >>= _) _ _ _
    refine wpAny_bind (wpAny_field he rfl (x := .ref it) rfl ?_)
    refine wpAny_bind (wpAny_nextOf_tuple_end hh hit (show s.heap.IsTuple a its.toArray from pt) (by simp; omega) fun h' x hx' hs' => ?_)
    obtain ⟨o, ho, hcl⟩ := hs'
    refine wpAny_bind (wpAny_isInstance (T := "StopIteration") (b := true) ⟨o, ho, hcl⟩ isSubtype_stop ?_)
    exact wpAny_pure ⟨rfl, I.turned (t' := s.toks) (fun b o hb q => hx' b o hb q) f0 f1 f3 f4 f5⟩
def iEnN (K : PySem.W.Frag) (ta : TA) : TI := fun σ H R => ta σ H fun vs H1 => ∃ a xs, vs = [.ref a] ∧ SqT K H1 a xs ∧ R (ItN K a) H1
theorem pi_enumT {X : Cx} {e : Expr} {ta : TA} {p pos tpos : Pos} {elts : List Expr} {kk : Nat} (hg : Gl X "enumerate") (hm : X.mg "enumerate" = none) (ha : PA X [e] ta) (hs : starEach [e] X.env = [(false, eval e X.env)] := by rfl) :
    PI X (.Tuple elts kk tpos) (.Call (.Name "enumerate" p) [e] [] pos) (iEnN X.K ta) := by
  refine ⟨fun pins s σ H R I h => Call_ (ld_blt I hg hm boot_enumerate (PyProof.Rows.callWith_type1 (thn (ha.run pos pins s σ H _ I h) fun us s1 ⟨vs, H1, I1, r1, q1⟩ => ?_) hs rfl))⟩
  obtain ⟨a, xs, rfl, hq, q⟩ := q1
  obtain rfl := Vals.ref1 r1
  obtain ⟨its, rv, pt, hz⟩ := I1.tuple hq
  refine enumT_call (show s1.heap.IsTuple a its.toArray from pt) fun h' he hit hk => wpAny_pyIter_enum he ?_
  have I2 : Inv X pins σ H1 { s1 with heap := h' } := I1.kept (t' := s1.toks) hk
  refine ⟨s1.heap.objs.size + 1, [s1.heap.objs.size + 1, s1.heap.objs.size], _, _, H1, rfl, I2, turn_enumT a (s1.heap.objs.size + 1) s1.heap.objs.size, ⟨⟨.none, he⟩, hit, Nat.succ_ne_self _⟩, fun b hb => ?_, q⟩
  have hle : s1.heap.objs.size ≤ b := by
    have z : b = s1.heap.objs.size + 1 ∨ b = s1.heap.objs.size := by simpa using hb
    rcases z with z | z <;> rw [z]
    · exact Nat.le_add_right _ _
    · exact Nat.le_refl _
  exact I1.fpOk hle (I1.hok.fresh hle)
theorem walk_enumT {K : PySem.W.Frag} {a : Addr} {xs : List V} : Walk (ItN K a) xs.length (fun H => SqT K H a xs) (YPair (fun i => some (.int (i : Nat))) (fun i => xs[i]?)) := by
  refine ⟨fun i _ hi q => ⟨xs, xs[i], q, by simp [hi]⟩, fun _ q => ⟨xs, q, Nat.le_refl _⟩, fun i H v H' _ q y => ?_⟩
  obtain ⟨T, x, h1, h2, h3, h4⟩ := y
  exact ⟨T, .int (i : Nat), x, h1, h2, h3, rfl, h4 xs q⟩
/-- the pairs (place, item) -/
def enD (ds : List D) : List D := (List.range ds.length).map fun i => .tup [.int (i : Nat), ds.getD i .non]
theorem ei_enumT {X : Cx} {ρ : List Sl} {a : Expr} {p pos tpos : Pos} {elts : List Expr} {kk : Nat} {ds : List D} (hm : X.mg "enumerate" = none) (h : ED T X ρ a (.d (.tup ds))) (hg : Gl X "enumerate" := by rfl) (hs : starEach [a] X.env = (false, eval a X.env) :: starEach [] X.env := by rfl)
    (hs' : starEach [a] X.env = [(false, eval a X.env)] := by rfl) : EI T X ρ (.Tuple elts kk tpos) (.Call (.Name "enumerate" p) [a] [] pos) (enD ds) := by
  refine ⟨_, pi_enumT hg hm (pa_cons (wpE_pe X a) pa_nil hs) hs', fun Hb Ob O σ H s R k => h Hb Ob O σ H s _ fun v H1 e1 rv => ?_⟩
  have hl : (enD ds).length = ds.length := by unfold enD; simp
  cases rv with
  | @tup a vs _ hr n hd =>
    refine ⟨a, vs, rfl, .inl hr, k (ItN X.K a) (fun H => SqT X.K H a vs) (YPair (fun i => some (.int (i : Nat))) (fun i => vs[i]?)) H1 e1 (by rw [hl, ← hd.length]; exact walk_enumT) (fun H' hk => .inl (hk.rd n nt_tup hr)) fun i O' H' x H'' hi ho hin hk y => ?_⟩
    obtain ⟨t, y1, y2, rfl, hT, rfl, g1, g2⟩ := y
    cases g1
    rw [hl] at hi
    have hg : ds[i]? = some ds[i] := by simp [hi]
    obtain ⟨v, hv, dv⟩ := hd.get hg
    have g2 : vs[i]? = some y2 := g2
    rw [g2] at hv; cases hv
    have e3 : Ex T H' (upd H' t (.tup [.int (i : Nat), y2])) := Ex.new hT
    refine ⟨.tup [.int (i : Nat), ds[i]], by unfold enD; simp [hi], e3, ?_⟩
    exact .tup (.inl upd_same) (fun z => hin _ z hT) (.cons (.int _) (.cons ((dv.gen ho hk).ex e3) .nil))
end Fl

/-! FloV -/
namespace Fl
open PySem L2 PyProof.Rows
variable {T : Tbs}

/-! ### list(d.values()) -/
def rVals (x : V) (H : Hp) (Q : VK) : Prop := ∃ (d : Addr) (ks : List (L2.Key × V)), x = .ref d ∧ H d = some (.dK ks) ∧ ∀ p, H p = none → Q (.ref p) (upd H p (.lst (ks.map (·.2))))
theorem kv_at {vs : List (L2.Key × Value)} : ∀ {ks : List (L2.Key × V)} {i : Nat} {k : L2.Key} {u : Value}, KV ks vs → vs[i]? = some (k, u) → ∃ x, (ks.map (·.2))[i]? = some x ∧ RelV x u := by
  induction vs with
  | nil => intro ks i k u _ h; simp at h
  | cons p vs ih =>
    intro ks i k u r h
    cases r with
    | @cons q _ ks' _ r1 r2 =>
      cases i with
      | zero =>
        obtain rfl : p = (k, u) := Option.some.inj h
        exact ⟨q.2, rfl, r1.2⟩
      | succ i => exact ih (ks := ks') (i := i) (k := k) r2 (by simpa using h)
theorem pe_listVals {X : Cx} {e : Expr} {te : TE} {p apos cpos pos : Pos} (hc : X.calm = true) (he : PE X e te) (hg : Gl X "list") (hm : X.mg "list" = none) (hbase : attributeBase e "values" X.env (eval e X.env) = eval e X.env := by rfl) (hline : (apos.endLine == cpos.line) = true := by rfl)
    (hs : starEach [.Call (.Attribute e "values" apos) [] [] cpos] X.env = (false, eval (.Call (.Attribute e "values" apos) [] [] cpos) X.env) :: starEach [] X.env := by rfl) :
    PE X (.Call (.Name "list" p) [.Call (.Attribute e "values" apos) [] [] cpos] [] pos) (fun σ H Q => te σ H fun x H1 => rVals x H1 Q) := by
  refine ⟨fun pins s σ H Q I hq => wpAny_Call_Name_kw (ld_blt I hg hm (show bootBuiltins "list" = some (.type "list") by decide +kernel) (PyProof.Rows.callWith_type1 ?_ hs rfl))⟩
  rw [hs]
  refine Calls.spliced_cons (wpAny_Call_method (T := "dict") (id := "dict.values") hbase rfl hline F.plainAttrs_dict F.slot_dict_values F.type_dict_values (thn (he.run pins s σ H _ I hq) fun u s1 ⟨x, H1, I1, rx, d, ks, ex, hd, q⟩ => ?_))
  subst ex
  obtain rfl : u = Value.ref d := rx
  obtain ⟨hz, hs0, vs, kv, hdo⟩ := I1.hok d _ hd
  obtain ⟨ep, hat⟩ := hdo.dictAt
  have lk : ks.length = vs.length := Paired.length kv
  have I2 : Inv X pins σ H1 { s1 with heap := s1.heap.push { cls := .type "dict_values", data := .fields #[.ref d] } } := I1.kept (t' := s1.toks) fun b ob q => Heap.get?_push_of_some _ q
  refine ⟨hdo.typeIs, hdo.mapOf.noDict, ?_⟩
  show wpAny _ _ (callWith cpos (.builtin "dict.values") [.ref d] [] []) _ X.xe s1
  refine method_meetsIn F.slot_dict_values F.entry_dict_values rfl (PySem.evalArgs_none ⟨rfl, hdo.typeIs, F.args_dict_values_1 _, _, meets_dict_values (mixKind X.prog X.w) d hs0, ⟨vs, hdo⟩, Calls.spliced_nil ?_⟩)
  refine PySem.W.kdl_call (PySem.W.kdl_values (knd := mixKind X.prog X.w) (kvs := vs) (ep := ep)) (I1.ok.hd hc) ⟨⟨_, Heap.get?_push_size _ rfl, rfl, rfl⟩, hat.push _⟩ (by rw [← lk]; exact hz) fun h' tk acc c hk hS hacc => ?_
  have el : acc.toList.length = acc.size := by simp
  refine ⟨.ref _, _, I2.laid hk (Nat.le_refl _) (o := .lst (ks.map (·.2))) ⟨by rw [List.length_map]; exact hz, acc.toList, c, vals_of_at (by rw [List.length_map, el, hacc.1, lk]) fun j x u h1 h2 => ?_, by rw [Array.toArray_toList]; exact hS⟩, rfl, q _ (I2.hok.fresh (Nat.le_refl _))⟩
  obtain ⟨k, hk2⟩ := hacc.2 j u (by rw [← Array.getElem?_toList]; exact h2)
  obtain ⟨y, hy, ry⟩ := kv_at kv hk2
  rw [h1] at hy; cases hy
  exact ry
section
variable {X : Cx} {ρ ρ' : List Sl} {a b c e tg it elt : Expr} {es : List Expr} {st : Stmt} {sts body : List Stmt} {pos p apos cpos spos py : Pos} {P : Po}
theorem ef_listVals {r : Sl} {kvs : List (Int × D)} (hc : X.calm = true) (hm : X.mg "list" = none) (h : ED T X ρ e r) (hq : DctK r kvs) (hg : Gl X "list" := by rfl) (hbase : attributeBase e "values" X.env (eval e X.env) = eval e X.env := by rfl) (hline : (apos.endLine == cpos.line) = true := by rfl)
    (hs : starEach [.Call (.Attribute e "values" apos) [] [] cpos] X.env = (false, eval (.Call (.Attribute e "values" apos) [] [] cpos) X.env) :: starEach [] X.env := by rfl) : EF T X ρ (.Call (.Name "list" p) [.Call (.Attribute e "values" apos) [] [] cpos] [] pos) (kvs.map (·.2)) :=
  fun Hb Ob O σ H s Q k => wpE_of (pe_listVals hc (wpE_pe X e) hg hm hbase hline hs) <| h Hb Ob O σ H s _ fun v H1 e1 rv => by
    obtain ⟨l, ks, rfl, h2, hd⟩ := rv.dct hq
    exact ⟨l, ks, rfl, h2, fun p hp => k _ _ _ (none_back e1 hp) (e1.trans (Ex.new hp)) upd_same ((hd.values.grow hp).ex (Ex.new (T := T) hp))⟩

/-! ### == of data -/
mutual
def D.py : D → PyData
  | .non => .none
  | .bl b => .bool b
  | .int i => .int i
  | .tup ds => .tuple (pys ds)
  | .lst ds => .list (pys ds)
  | .dct _ => .none
def pys : List D → List PyData
  | [] => []
  | d :: ds => d.py :: pys ds
end
mutual
/-- no dict within -/
def D.pl : D → Bool
  | .dct _ => false
  | .tup ds => pls ds
  | .lst ds => pls ds
  | _ => true
def pls : List D → Bool
  | [] => true
  | d :: ds => d.pl && pls ds
end
mutual
theorem Den.dp {K : PySem.W.Frag} {O : Ow} {H : Hp} : ∀ {v : V} {d : D}, Den O H v d → d.pl = true → Dp K H v d.py
  | _, _, .non, _ => .non
  | _, _, .bl b, _ => .bl b
  | _, _, .int i, _ => .int i
  | _, _, .tup h _ hd, q => .tup (.inl h) (Dens.dp hd q)
  | _, _, .lst h _ hd, q => .lst (.inl h) (Dens.dp hd q)
  | _, _, .dct _ _ _, q => nomatch q
theorem Dens.dp {K : PySem.W.Frag} {O : Ow} {H : Hp} : ∀ {vs : List V} {ds : List D}, Dens O H vs ds → pls ds = true → DpAll K H vs (pys ds)
  | _, _, .nil, _ => .nil
  | _, _, .cons h hs, q => .cons (Den.dp h (Bool.and_eq_true_iff.mp q).1) (Dens.dp hs (Bool.and_eq_true_iff.mp q).2)
end
mutual
/-- no dict, no truth value within -/
def D.nb : D → Bool
  | .dct _ => false
  | .bl _ => false
  | .tup ds => nbs ds
  | .lst ds => nbs ds
  | _ => true
def nbs : List D → Bool
  | [] => true
  | d :: ds => d.nb && nbs ds
end
mutual
theorem D.nb_pl : ∀ d : D, d.nb = true → d.pl = true ∧ d.py.canLay0 = true
  | .non, _ => ⟨rfl, by simp [D.py, PyData.canLay0]⟩
  | .int _, _ => ⟨rfl, by simp [D.py, PyData.canLay0]⟩
  | .tup ds, h => by
    obtain ⟨h1, h2⟩ := nbs_pls ds (by simpa [D.nb] using h)
    exact ⟨by simpa [D.pl] using h1, by simpa [D.py, PyData.canLay0] using h2⟩
  | .lst ds, h => by
    obtain ⟨h1, h2⟩ := nbs_pls ds (by simpa [D.nb] using h)
    exact ⟨by simpa [D.pl] using h1, by simpa [D.py, PyData.canLay0] using h2⟩
theorem nbs_pls : ∀ ds : List D, nbs ds = true → pls ds = true ∧ PyData.canLayAll0 (pys ds) = true
  | [], _ => ⟨rfl, by simp [pys, PyData.canLayAll0]⟩
  | d :: ds, h => by
    have h' : d.nb = true ∧ nbs ds = true := by simpa [nbs] using h
    obtain ⟨h1, h2⟩ := D.nb_pl d h'.1
    obtain ⟨h3, h4⟩ := nbs_pls ds h'.2
    exact ⟨by simp [pls, h1, h3], by simp [pys, PyData.canLayAll0, h2, h4]⟩
end
mutual
theorem eqD_iff : ∀ x y : D, x.nb = true → y.nb = true → (PyData.eqv x.py y.py = true ↔ x = y)
  | .non, y, _, hy => by cases y <;> simp [D.py, PyData.eqv, D.nb] at hy ⊢
  | .int i, y, _, hy => by cases y <;> simp [D.py, PyData.eqv, D.nb] at hy ⊢
  | .tup ds, y, hx, hy => by
    have hx' : nbs ds = true := by simpa [D.nb] using hx
    cases y <;> simp [D.py, PyData.eqv, D.nb] at hy ⊢
    exact eqDs_iff ds _ hx' hy
  | .lst ds, y, hx, hy => by
    have hx' : nbs ds = true := by simpa [D.nb] using hx
    cases y <;> simp [D.py, PyData.eqv, D.nb] at hy ⊢
    exact eqDs_iff ds _ hx' hy
theorem eqDs_iff : ∀ xs ys : List D, nbs xs = true → nbs ys = true → (PyData.eqvAll (pys xs) (pys ys) = true ↔ xs = ys)
  | [], ys, _, _ => by cases ys <;> simp [pys, PyData.eqvAll]
  | x :: xs, ys, hx, hy => by
    have hx' : x.nb = true ∧ nbs xs = true := by simpa [nbs] using hx
    cases ys with
    | nil => simp [pys, PyData.eqvAll]
    | cons y ys =>
      have hy' : y.nb = true ∧ nbs ys = true := by simpa [nbs] using hy
      simp [pys, PyData.eqvAll, eqD_iff x y hx'.1 hy'.1, eqDs_iff xs ys hx'.2 hy'.2]
end
theorem shaped_nb {d : D} (h : d.nb = true) (hd : d.py.depth ≤ 64) : SeqAt.shaped d.py = true := by
  unfold SeqAt.shaped
  rw [(D.nb_pl d h).2, decide_eq_true hd]; rfl
/-- the answer of == -/
def eqD (x y : D) : Bool := PyData.eqv x.py y.py
theorem eqD_dec {x y : D} (hx : x.nb = true) (hy : y.nb = true) [Decidable (x = y)] : eqD x y = decide (x = y) := by
  by_cases h : x = y
  · rw [decide_eq_true h]; exact (eqD_iff x y hx hy).mpr h
  · rw [decide_eq_false h]
    cases e : eqD x y with
    | false => rfl
    | true => exact absurd ((eqD_iff x y hx hy).mp e) h
theorem ed_eqD {x y : D} (hu : X.A.units + 64 < cLine) (ha : ED T X ρ a (.d x)) (hb : ED T X ρ b (.d y)) (nx : x.nb = true) (ny : y.nb = true) (dx : x.py.depth ≤ 64) (dy : y.py.depth ≤ 64) : ED T X ρ (.Compare a [.Eq] [b] pos) (.d (.bl (eqD x y))) :=
  ed_bin (r := rEqD X.K) (fun _ _ h g => pe_cmpR (op_eqD hu) h g (nomark _)) ha hb fun Ob O H v u Q _ rv ru k => ⟨x.py, y.py, Den.dp rv (D.nb_pl x nx).1, Den.dp ru (D.nb_pl y ny).1, shaped_nb nx dx, shaped_nb ny dy, k _ H (Ex.refl H) (.bl _)⟩
theorem ed_neD {x y : D} (hu : X.A.units + 64 < cLine) (ha : ED T X ρ a (.d x)) (hb : ED T X ρ b (.d y)) (nx : x.nb = true) (ny : y.nb = true) (dx : x.py.depth ≤ 64) (dy : y.py.depth ≤ 64) : ED T X ρ (.Compare a [.NotEq] [b] pos) (.d (.bl (!eqD x y))) :=
  ed_bin (r := rNeD X.K) (fun _ _ h g => pe_cmpR (op_neD hu) h g (nomark _)) ha hb fun Ob O H v u Q _ rv ru k => ⟨x.py, y.py, Den.dp rv (D.nb_pl x nx).1, Den.dp ru (D.nb_pl y ny).1, shaped_nb nx dx, shaped_nb ny dy, k _ H (Ex.refl H) (.bl _)⟩
end
end Fl

/-! FloW -/
namespace Fl
open PySem L2 PyProof.Rows
variable {T : Tbs}

/-! ### a dict's comprehension -/
theorem map_at {α : Type} {xs : List α} {enc : α → D} {i : Nat} {d : D} (h : (xs.map enc)[i]? = some d) : ∃ x, xs[i]? = some x ∧ enc x = d := by
  rw [List.getElem?_map] at h
  cases e : xs[i]? with
  | none => rw [e] at h; cases h
  | some x => rw [e] at h; exact ⟨x, rfl, Option.some.inj h⟩
theorem wipe_wipe (σ : L2.St) : ∀ us vs : List Nat, (∀ v ∈ us, v ∈ vs) → L2.wipe (L2.wipe σ us) vs = L2.wipe σ vs
  | [], _, _ => rfl
  | u :: us, vs, h => by
    show L2.wipe ((L2.wipe σ us).set u none) vs = _
    rw [wipe_set (h u (by simp)), wipe_wipe σ us vs fun v hv => h v (by simp [hv])]
theorem lookD_none {kvs : List (Int × D)} {k : Int} (h : k ∉ kvs.map (·.1)) : lookD kvs k = none := by
  unfold lookD
  rw [List.find?_eq_none.mpr]
  · rfl
  · intro p hp
    have : p.1 ≠ k := fun z => h (List.mem_map.mpr ⟨p, hp, z⟩)
    simp [this]
theorem tdc {α : Type} {ρ : List Sl} {wi : TI} {ds : List D} (hw : Src T ρ wi ds) (xs : List α) (enc : α → D) (hds : ds = xs.map enc) (hl : xs.length ≤ 50000) {g : TG} (up : α → List Sl → List Sl) {is vs : List Nat} (hg : ∀ x ∈ xs, GS T g (enc x) (up x) is) (his : ∀ i ∈ is, i ∈ vs)
    {tk tv : TE} (kf : α → Int) (f : α → D) (hk : ∀ x ∈ xs, ESem T (up x (wipeR ρ vs)) tk (.d (.int (kf x)))) (hf : ∀ x ∈ xs, ESem T (up x (wipeR ρ vs)) tv (.d (f x))) (nd : (xs.map kf).Nodup)
    (Hb : Hp) (Ob O : Ow) (σ : L2.St) (H : Hp) (s : S T Hb Ob O H σ ρ) (Q : VK) (k : ∀ q ks H2, H q = none → Ex T H H2 → H2 q = some (.dK ks) → DenK (Op O q) H2 ks (xs.map fun x => (kf x, f x)) → Q (.ref q) H2) : tDc wi g tYes tk tv vs σ H Q := by
  refine hw Hb Ob O σ H s _ fun J G Y H1 e1 W hG hY => ?_
  intro q hq
  subst hds
  have hlen : (xs.map enc).length = xs.length := by simp
  have hO : ∀ a, H1 a ≠ none → Op O q a → O a := fun a h z => op_grow hq a h z
  let Pv : Nat → Hp → Prop := fun i H' => Ex T H1 H' ∧ ∃ ks, H' q = some (.dK ks) ∧ DenK (Op O q) H' ks ((xs.take i).map fun x => (kf x, f x))
  refine ⟨fun i m H' => m = xs.length - i ∧ i ≤ xs.length ∧ Pv i H', ⟨xs.length, by simp, Nat.zero_le _, Ex.new hq, [], upd_same, .nil⟩, ?_⟩
  rintro i m H' ⟨rfl, hi, ex, ks, hks, hd⟩
  by_cases hlt : i < xs.length
  · refine .inr ⟨W.goes i H' (by rw [hlen]; exact hlt) (hG H' (.of ex)), Pv (i + 1), fun H2 p2 => ⟨xs.length - (i + 1), by omega, rfl, hlt, p2⟩, fun x H'' y => ?_⟩
    have y := W.yields i H' x H'' (by rw [hlen]; exact hlt) (hG H' (.of ex)) y
    have s' : S T Hb Ob (Op O q) H' σ ρ := (s.on e1).take hq ex ⟨_, hks, ld_dK⟩
    obtain ⟨d, hdi, ex2, hx⟩ := hY i (Op O q) H' x H'' (by rw [hlen]; exact hlt) hO s'.oin (.of ex) y
    obtain ⟨z, hz, rfl⟩ := map_at hdi
    have hm : z ∈ xs := List.mem_of_getElem? hz
    refine hg z hm Hb Ob (Op O q) _ H'' _ x ((s'.on ex2).wipe vs) hx _ fun σ2 s2 hwp => ⟨?_, ?_⟩
    · rw [hwp vs his]; exact wipe_wipe σ vs vs fun _ h => h
    · refine iteT (B := True) ?_
      rw [if_pos rfl]
      refine hk z hm Hb Ob (Op O q) _ H'' s2 _ fun v3 H3 ex3 rk => ?_
      refine hf z hm Hb Ob (Op O q) _ H3 (s2.on ex3) _ fun v4 H4 ex4 rv => ?_
      have e4 : Ex T H' H4 := ex2.trans (ex3.trans ex4)
      have hd4 := hd.ex e4
      have hlk : lookD ((xs.take i).map fun x => (kf x, f x)) (kf z) = none := by
        refine lookD_none ?_
        rw [List.map_map]
        intro hmem
        have h1 : xs.map kf = (xs.take i).map kf ++ (xs.drop i).map kf := by rw [← List.map_append, List.take_append_drop]
        rw [h1] at nd
        have h2 := (List.nodup_append.mp nd).2.2
        have hz' : z ∈ xs.drop i := by
          obtain ⟨hl', rfl⟩ := List.getElem?_eq_some_iff.mp hz
          exact List.mem_drop_iff_getElem.mpr ⟨0, by simpa using hl', by simp⟩
        exact h2 (kf z) (show kf z ∈ (xs.take i).map kf from hmem) (kf z) (List.mem_map.mpr ⟨z, hz', rfl⟩) rfl
      have hv : valV ks (Sum.inl (kf z)) = none := by
        rcases hd4.val (kf z) with ⟨_, w⟩ | ⟨_, _, w, _⟩
        · exact w
        · rw [hlk] at w; cases w
      have hln : ks.length < sizeLine := by
        have := hd4.length
        rw [List.length_map, List.length_take] at this
        exact Evl.sz_lt (by omega)
      refine ⟨ks, Sum.inl (kf z), by rw [Den.int_inv rk]; rfl, e4.keep _ _ hks nt_dK, hln, ?_⟩
      rw [putK_new v4 hv]
      refine ⟨(ex.trans e4).mut hq (e4.keep _ _ hks nt_dK) ld_dK, _, upd_same, ?_⟩
      · rw [take_at hz, List.map_append]
        have hkp : Keep (Op O q) H4 (upd H4 q (.dK (ks ++ [(Sum.inl (kf z), v4)]))) := fun a o n h _ => by rw [upd_ne (fun w => n (.inr w))]; exact h
        exact (hd4.append rv).mono (fun _ w => w) hkp
  · have e : i = xs.length := by omega
    subst e
    rw [List.take_length] at hd
    exact .inl ⟨by rw [← hlen]; exact W.stops H' (hG H' (.of ex)), k q ks H' (none_back e1 hq) (e1.trans ex) hks hd⟩
section
variable {X : Cx} {ρ : List Sl} {a b c kx vx tg it tg1 it1 elt : Expr} {es : List Expr} {pos p spos py : Pos} {scope : Scope} {own : List (Str × Nat)} {P : Po}
theorem efd_dc {α : Type} {ds : List D} (hc : X.calm = true) (hN : X.N.Nodup) (hi : EI T X ρ tg it ds) (ok : BlkOk X.N X.env.scope scope own) (xs : List α) (enc : α → D) (hds : ds = xs.map enc) (hl : xs.length ≤ 50000) {g : TG} (tgt : Tg X scope tg g)
    (up : α → List Sl → List Sl) {is : List Nat} (hg : ∀ x ∈ xs, GS T g (enc x) (up x) is) (his : ∀ i ∈ is, i ∈ own.map (·.2)) (kf : α → Int) (f : α → D) (nd : (xs.map kf).Nodup)
    (hk : ∀ x ∈ xs, EB T X scope (up x (wipeR ρ (own.map (·.2)))) kx (.d (.int (kf x)))) (hf : ∀ x ∈ xs, EB T X scope (up x (wipeR ρ (own.map (·.2)))) vx (.d (f x))) (hs : ∀ x, foldedSetIterable it X.env x = pure x := by intro _; rfl) :
    EFd T X ρ (.DictComp kx vx [⟨tg, it, [], 0⟩] scope pos) (xs.map fun x => (kf x, f x)) := by
  obtain ⟨wi, pi, hw⟩ := hi
  refine fun Hb Ob O σ H s Q k => wpE_of (pe_dc hc hN pi ok tgt.pg (fun _ _ _ _ _ => pts_nil) (fun s H C cl fp => bE_pe s H C cl fp) (fun s H C cl fp => bE_pe s H C cl fp) hs) ?_
  exact tdc hw xs enc hds hl (g := g) up hg his (tk := bE X scope kx) (tv := bE X scope vx) kf f (fun x hx => (hk x hx).sem) (fun x hx => (hf x hx).sem) nd Hb Ob O σ H s Q k
end

/-! ### [elt for tg in it for tg1 in it1 if c] -/
/-- all but the list at q stands -/
structure ExQ (T : Tbs) (q : Addr) (H H' : Hp) : Prop where
  keep : ∀ a o, a ≠ q → H a = some o → NT o → H' a = some o
  some : ∀ a, H a ≠ none → H' a ≠ none
  tabs : LamX.Tabs T H → LamX.Tabs T H'
theorem ExQ.refl (q : Addr) (H : Hp) : ExQ T q H H := ⟨fun _ _ _ h _ => h, fun _ h => h, fun h => h⟩
theorem ExQ.then {q : Addr} {H H1 H2 : Hp} (a : ExQ T q H H1) (b : Ex T H1 H2) : ExQ T q H H2 := ⟨fun c o n h nt => b.keep c o (a.keep c o n h nt) nt, fun c h => b.some c (a.some c h), fun h => b.tabs (a.tabs h)⟩
theorem ExQ.mut {q : Addr} {H H' : Hp} {o u : HO} (e : ExQ T q H H') (hu : H' q = Option.some u) (lu : LD u) : ExQ T q H (upd H' q o) := by
  refine ⟨fun a w n ha nt => by rw [upd_ne n]; exact e.keep a w n ha nt, fun a ha => ?_, fun t => tabs_ld (e.tabs t) fun a w ha n => ?_⟩
  · by_cases z : a = q
    · subst z; rw [upd_same]; exact fun z => nomatch z
    · rw [upd_ne z]; exact e.some a ha
  · by_cases z : a = q
    · subst z; rw [hu] at ha; cases ha; exact absurd lu n
    · rw [upd_ne z]; exact ha
theorem S.off {Hb : Hp} {Ob O : Ow} {H H' : Hp} {σ : L2.St} {ρ : List Sl} (s : S T Hb Ob O H σ ρ) {q : Addr} (hq : O q) (hn : ¬ Ob q) (no : NoOwn q ρ) (e : ExQ T q H H') (hk : ∃ o, H' q = some o ∧ LD o) : S T Hb Ob O H' σ ρ := by
  have kp : Keep O H H' := fun a o n h nt => e.keep a o (fun z => n (z ▸ hq)) h nt
  have nb : Hb q = none := s.own _ hq hn
  refine ⟨⟨fun a o h nt => e.keep a o (fun z => by subst z; rw [nb] at h; cases h) (s.ex.keep a o h nt) nt, fun a h => e.some a (s.ex.some a h), fun t => e.tabs (s.ex.tabs t)⟩, s.ob, s.own, fun a h => e.some a (s.oin a h), fun a h n => ?_, e.tabs s.tabs, s.len, fun i r hr => (s.get i r hr).imp id fun ⟨v, w1, w2⟩ => ⟨v, w1, ?_⟩⟩
  · by_cases z : a = q
    · rw [z]; exact hk
    · obtain ⟨o, h1, h2⟩ := s.kind a h n
      exact ⟨o, e.keep a o z h1 h2.nt, h2⟩
  · cases r with
    | any => trivial
    | d x => exact Den.mono (fun _ z => z) kp w2
    | ol l ds =>
      obtain ⟨z1, z2, z3, zs, z4, z5⟩ := w2
      exact ⟨z1, z2, z3, zs, e.keep _ _ (no.ol hr) z4 nt_lst, z5.mono (fun _ z => z) kp⟩
    | od l ds =>
      obtain ⟨z1, z2, z3, zs, z4, z5⟩ := w2
      exact ⟨z1, z2, z3, zs, e.keep _ _ (no.od hr) z4 nt_dK, z5.mono (fun _ z => z) kp⟩
theorem tlc2 {α β : Type} {ρ : List Sl} {wi wi1 : TI} {ds : List D} (hw : Src T ρ wi ds) (xs : List α) (enc : α → D) (hds : ds = xs.map enc) {g g1 : TG} (up : α → List Sl → List Sl) {is is1 vs vs1 : List Nat} (hg : ∀ x ∈ xs, GS T g (enc x) (up x) is) (his : ∀ i ∈ is, i ∈ vs)
    (hno : ∀ x ∈ xs, ∀ l, NoOwn l (up x (wipeR ρ vs))) (ys : List β) (enc1 : β → D) (hw1 : ∀ x ∈ xs, Src T (up x (wipeR ρ vs)) wi1 (ys.map enc1)) (up1 : β → List Sl → List Sl) (hg1 : ∀ y ∈ ys, GS T g1 (enc1 y) (up1 y) is1) (his1 : ∀ i ∈ is1, i ∈ vs1) (hl : xs.length * ys.length ≤ 50000)
    {tt : TT} {te : TE} (p : α → β → Bool) (f : α → β → D) (ht : ∀ x ∈ xs, ∀ y ∈ ys, TSem T (up1 y (wipeR (up x (wipeR ρ vs)) vs1)) tt (p x y)) (hf : ∀ x ∈ xs, ∀ y ∈ ys, p x y = true → ESem T (up1 y (wipeR (up x (wipeR ρ vs)) vs1)) te (.d (f x y)))
    (Hb : Hp) (Ob O : Ow) (σ : L2.St) (H : Hp) (s : S T Hb Ob O H σ ρ) (Q : VK) (k : ∀ q us H2, H q = none → Ex T H H2 → H2 q = some (.lst us) → Dens (Op O q) H2 us (xs.flatMap fun x => (ys.filter (p x)).map (f x)) → Q (.ref q) H2) : tLc2 wi g tYes wi1 g1 tt te vs vs1 σ H Q := by
  refine hw Hb Ob O σ H s _ fun J G Y H1 e1 W hG hY => ?_
  intro q hq
  subst hds
  have hlen : (xs.map enc).length = xs.length := by simp
  have hlen1 : (ys.map enc1).length = ys.length := by simp
  have hO : ∀ a, H1 a ≠ none → Op O q a → O a := fun a h z => op_grow hq a h z
  have hOb : ¬ Ob q := fun z => (s.on e1).oin q (s.ob q z) hq
  let res : α → List D := fun x => (ys.filter (p x)).map (f x)
  have hres : ∀ x, (res x).length ≤ ys.length := fun x => by
    show (List.map _ _).length ≤ _
    rw [List.length_map]; exact List.length_filter_le _ _
  have hfl : ∀ zs : List α, (zs.flatMap res).length ≤ zs.length * ys.length := by
    intro zs
    induction zs with
    | nil => simp
    | cons z zs ih =>
      rw [List.flatMap_cons, List.length_append, List.length_cons, Nat.succ_mul]
      have := hres z
      omega
  let Pv : Nat → Hp → Prop := fun i H' => Ex T H1 H' ∧ ∃ us, H' q = some (.lst us) ∧ Dens (Op O q) H' us ((xs.take i).flatMap res)
  refine ⟨fun i m H' => m = xs.length - i ∧ i ≤ xs.length ∧ Pv i H', ⟨xs.length, by simp, Nat.zero_le _, Ex.new hq, [], upd_same, .nil⟩, ?_⟩
  rintro i m H' ⟨rfl, hi, ex, us, hus, hd⟩
  by_cases hlt : i < xs.length
  · refine .inr ⟨W.goes i H' (by rw [hlen]; exact hlt) (hG H' (.of ex)), Pv (i + 1), fun H2 p2 => ⟨xs.length - (i + 1), by omega, rfl, hlt, p2⟩, fun x H'' y => ?_⟩
    have y := W.yields i H' x H'' (by rw [hlen]; exact hlt) (hG H' (.of ex)) y
    have s' : S T Hb Ob (Op O q) H' σ ρ := (s.on e1).take hq ex ⟨_, hus, ld_lst⟩
    obtain ⟨d, hdi, ex2, hx⟩ := hY i (Op O q) H' x H'' (by rw [hlen]; exact hlt) hO s'.oin (.of ex) y
    obtain ⟨z, hz, rfl⟩ := map_at hdi
    have hm : z ∈ xs := List.mem_of_getElem? hz
    refine hg z hm Hb Ob (Op O q) _ H'' _ x ((s'.on ex2).wipe vs) hx _ fun σ2 s2 hwp => ⟨?_, ?_⟩
    · rw [hwp vs his]; exact wipe_wipe σ vs vs fun _ h => h
    · refine iteT (B := True) ?_
      rw [if_pos rfl]
      refine hw1 z hm Hb Ob (Op O q) σ2 H'' s2 _ fun J1 G1 Y1 H4 e4 W1 hG1 hY1 => ?_
      have s4 := s2.on e4
      have hus4 : H4 q = some (.lst us) := (ex2.trans e4).keep _ _ hus nt_lst
      have hd4 := hd.ex (ex2.trans e4)
      let Pw : Nat → Hp → Prop := fun j H5 => ExQ T q H4 H5 ∧ ∃ us', H5 q = some (.lst us') ∧ Dens (Op O q) H5 us' ((xs.take i).flatMap res ++ (((ys.take j).filter (p z)).map (f z)))
      refine ⟨fun j m H5 => m = ys.length - j ∧ j ≤ ys.length ∧ Pw j H5, ⟨ys.length, by simp, Nat.zero_le _, .refl q H4, us, hus4, by simpa using hd4⟩, ?_⟩
      rintro j m H5 ⟨rfl, hj, k5, us5, hus5, hd5⟩
      have kp5 : Keep (Op O q) H4 H5 := fun a o n h nt => k5.keep a o (fun w => n (.inr w)) h nt
      have e14 := ex.trans (ex2.trans e4)
      have ex5 : Ex T H1 H5 := ⟨fun a o h nt => k5.keep a o (fun w => by subst w; rw [hq] at h; cases h) (e14.keep a o h nt) nt, fun a h => k5.some a (e14.some a h), fun t => k5.tabs (e14.tabs t)⟩
      have s5 := s4.off (.inr rfl) hOb (hno z hm q) k5 ⟨_, hus5, ld_lst⟩
      by_cases hjt : j < ys.length
      · refine .inr ⟨W1.goes j H5 (by rw [hlen1]; exact hjt) (hG1 H5 kp5), Pw (j + 1), fun H6 p6 => ⟨ys.length - (j + 1), by omega, rfl, hjt, p6⟩, fun x1 H6 y1 => ?_⟩
        have y1 := W1.yields j H5 x1 H6 (by rw [hlen1]; exact hjt) (hG1 H5 kp5) y1
        obtain ⟨d1, hd1, ex6, hx1⟩ := hY1 j (Op O q) H5 x1 H6 (by rw [hlen1]; exact hjt) (fun a _ w => w) s5.oin kp5 y1
        obtain ⟨z1, hz1, rfl⟩ := map_at hd1
        have hm1 : z1 ∈ ys := List.mem_of_getElem? hz1
        refine hg1 z1 hm1 Hb Ob (Op O q) _ H6 _ x1 ((s5.on ex6).wipe vs1) hx1 _ fun σ3 s3 hwp1 => ⟨?_, ?_⟩
        · rw [hwp1 vs1 his1]; exact wipe_wipe σ2 vs1 vs1 fun _ h => h
        · refine ht z hm z1 hm1 Hb Ob (Op O q) _ H6 s3 _ fun H7 ex7 => ?_
          have hup : ys.take (j + 1) = ys.take j ++ [z1] := take_at hz1
          by_cases hp : p z z1 = true
          · rw [if_pos hp]
            refine hf z hm z1 hm1 hp Hb Ob (Op O q) _ H7 (s3.on ex7) _ fun v H8 ex8 rv => ?_
            have e8 : Ex T H5 H8 := ex6.trans (ex7.trans ex8)
            refine ⟨us5, e8.keep _ _ hus5 nt_lst, ?_, (k5.then e8).mut (e8.keep _ _ hus5 nt_lst) ld_lst, us5 ++ [v], upd_same, ?_⟩
            · have h1 := hd5.length
              rw [List.length_append] at h1
              have h2 := hfl (xs.take i)
              have h3 : (((ys.take j).filter (p z)).map (f z)).length ≤ ys.length := by
                rw [List.length_map]
                exact Nat.le_trans (List.length_filter_le _ _) (by rw [List.length_take]; omega)
              rw [List.length_take] at h2
              have h4 : min i xs.length * ys.length + ys.length ≤ xs.length * ys.length := by
                have : min i xs.length + 1 ≤ xs.length := by omega
                calc min i xs.length * ys.length + ys.length = (min i xs.length + 1) * ys.length := by rw [Nat.succ_mul]
                  _ ≤ xs.length * ys.length := Nat.mul_le_mul_right _ this
              exact Evl.sz_lt (by omega)
            · rw [hup, filt_snoc, if_pos hp, ← List.append_assoc]
              have hk : Keep (Op O q) H8 (upd H8 q (.lst (us5 ++ [v]))) := fun a o n h _ => by rw [upd_ne (fun z => n (.inr z))]; exact h
              exact ((hd5.ex e8).append (.cons rv .nil)).mono (fun _ z => z) hk
          · rw [if_neg hp]
            have e7 := ex6.trans ex7
            refine ⟨k5.then e7, us5, e7.keep _ _ hus5 nt_lst, ?_⟩
            rw [hup, filt_snoc, if_neg hp, List.append_nil]
            exact hd5.ex e7
      · have ej : j = ys.length := by omega
        subst ej
        rw [List.take_length] at hd5
        refine .inl ⟨by rw [← hlen1]; exact W1.stops H5 (hG1 H5 kp5), ex5, us5, hus5, ?_⟩
        rw [take_at hz, List.flatMap_append, List.flatMap_cons, List.flatMap_nil, List.append_nil]
        exact hd5
  · have e : i = xs.length := by omega
    subst e
    rw [List.take_length] at hd
    exact .inl ⟨by rw [← hlen]; exact W.stops H' (hG H' (.of ex)), k q us H' (none_back e1 hq) (e1.trans ex) hus hd⟩
section
variable {X : Cx} {ρ : List Sl} {a b c tg it tg1 it1 elt : Expr} {es : List Expr} {pos p spos py : Pos} {scope : Scope} {own : List (Str × Nat)} {P : Po}
/-- within a block: what is walked -/
def IB (X : Cx) (scope : Scope) (tg1 it1 : Expr) (wi : TI) : Prop := ∀ (s : Shared) (H : Hp) (C : Addr) (cl : List (Str × Addr)) (fp : List Addr), PI (X.blk s H scope (compEnvC scope cl C X.env) fp) tg1 it1 wi
theorem ib_range {a : Expr} (hm : X.mg "range" = none) (hg : ∀ (s : Shared) (H : Hp) (C : Addr) (cl : List (Str × Addr)) (fp : List Addr), Gl (X.blk s H scope (compEnvC scope cl C X.env) fp) "range" := by exact fun _ _ _ _ _ => rfl)
    (hs : ∀ (s : Shared) (H : Hp) (C : Addr) (cl : List (Str × Addr)) (fp : List Addr), starEach [a] (X.blk s H scope (compEnvC scope cl C X.env) fp).env = (false, eval a (X.blk s H scope (compEnvC scope cl C X.env) fp).env) :: starEach [] (X.blk s H scope (compEnvC scope cl C X.env) fp).env := by exact fun _ _ _ _ _ => rfl)
    (hs' : ∀ (s : Shared) (H : Hp) (C : Addr) (cl : List (Str × Addr)) (fp : List Addr), starEach [a] (X.blk s H scope (compEnvC scope cl C X.env) fp).env = [(false, eval a (X.blk s H scope (compEnvC scope cl C X.env) fp).env)] := by exact fun _ _ _ _ _ => rfl) :
    IB X scope tg1 (.Call (.Name "range" p) [a] [] pos) (iRng1 (tCons (bE X scope a) tNil)) :=
  fun s H C cl fp => pi_range1 (hg s H C cl fp) hm (pa_cons (bE_pe s H C cl fp) pa_nil (hs s H C cl fp)) (hs' s H C cl fp)
theorem src_range {te : TE} {n : Int} (h : ESem T ρ te (.d (.int n))) (hn : n ≤ 100000) (hn0 : -100000 ≤ n) : Src T ρ (iRng1 (tCons te tNil)) (rgD n) := by
  refine fun Hb Ob O σ H s R k => h Hb Ob O σ H s _ fun v H1 e1 rv => ?_
  obtain rfl := Den.int_inv rv
  have hl : (rgD n).length = n.toNat := by unfold rgD; simp
  refine ⟨n, rfl, by omega, by omega, k (Itr 0 n.toNat) (fun _ => True) (YFn fun i => .int (0 + (i : Nat))) H1 e1 (by rw [hl]; exact walk_range) (fun _ _ => trivial) fun i O' H' x H'' hi ho _ hk y => ?_⟩
  obtain ⟨rfl, rfl⟩ := y
  refine ⟨.int (i : Nat), ?_, Ex.refl _, ?_⟩
  · unfold rgD; rw [hl] at hi; simp [hi]
  · show Den O' H'' (.int (0 + (i : Nat))) _
    rw [Int.zero_add]; exact .int _
theorem xt_setLc2 {α β : Type} {ds : List D} {g g1 : TG} {is is1 vs1 : List Nat} {x : Str} {wi1 : TI} (i : Nat) (hc : X.calm = true) (hN : X.N.Nodup) (hi : EI T X ρ tg it ds) (ok : BlkOk X.N X.env.scope scope own) (hv : ∀ i ∈ vs1, i ∈ own.map (·.2)) (xs : List α) (enc : α → D) (hds : ds = xs.map enc) (tgt : Tg X scope tg g)
    (up : α → List Sl → List Sl) (hg : ∀ x ∈ xs, GS T g (enc x) (up x) is) (his : ∀ i ∈ is, i ∈ own.map (·.2)) (hno : ∀ x ∈ xs, ∀ l, NoOwn l (up x (wipeR ρ (own.map (·.2))))) (ys : List β) (enc1 : β → D) (hib : IB X scope tg1 it1 wi1) (hw1 : ∀ x ∈ xs, Src T (up x (wipeR ρ (own.map (·.2)))) wi1 (ys.map enc1)) (tgt1 : Tg X scope tg1 g1)
    (up1 : β → List Sl → List Sl) (hg1 : ∀ y ∈ ys, GS T g1 (enc1 y) (up1 y) is1) (his1 : ∀ i ∈ is1, i ∈ vs1) (hl : xs.length * ys.length ≤ 50000) (pr : α → β → Bool) (f : α → β → D)
    (ht : ∀ x ∈ xs, ∀ y ∈ ys, TB T X scope (up1 y (wipeR (up x (wipeR ρ (own.map (·.2)))) vs1)) c (pr x y)) (hf : ∀ x ∈ xs, ∀ y ∈ ys, pr x y = true → EB T X scope (up1 y (wipeR (up x (wipeR ρ (own.map (·.2)))) vs1)) elt (.d (f x y)))
    (q : P.nx (ρ.set i (.d (.lst (xs.flatMap fun x => (ys.filter (pr x)).map (f x)))))) (hy : X.N[i]? = some x := by rfl) (hyl : X.env.scope.names.lookup x = some .local := by rfl)
    (hsw : swapsWith (.ListComp elt [⟨tg, it, [], 0⟩, ⟨tg1, it1, [c], 0⟩] scope pos) (some (.Name x py)) spos.line X.env = pure true := by exact sw_true rfl rfl rfl (by decide +kernel)) (hs : ∀ x, foldedSetIterable it X.env x = pure x := by intro _; rfl) (hs1 : ∀ env x, foldedSetIterable it1 env x = pure x := by intro _ _; rfl) :
    XT T X ρ (.Assign [.Name x py] (.ListComp elt [⟨tg, it, [], 0⟩, ⟨tg1, it1, [c], 0⟩] scope pos) spos) P := by
  obtain ⟨wi, pi, hw⟩ := hi
  refine fun Hb Ob O σ H s Dn k => wpS_of (ps_setLc2 (py := py) (spos := spos) hc hN hy hyl hsw pi ok hv tgt.pg (fun _ _ _ _ _ => pts_nil) hib tgt1.pg (fun s H C cl fp => pts_one (bT_pt s H C cl fp)) (fun s H C cl fp => bE_pe s H C cl fp) hs hs1) ?_
  exact tlc2 hw xs enc hds (g := g) (g1 := g1) up hg his hno ys enc1 hw1 up1 hg1 his1 hl (tt := bT X scope c) (te := bE X scope elt) pr f (fun x hx y hy => (ht x hx y hy).sem) (fun x hx y hy hp => (hf x hx y hy hp).sem) Hb Ob O σ H s (fun v H1 => gName i v σ H1 Dn.nx) (fun r us H2 h1 h2 h3 h4 =>
    k.nx O _ H2 _ q ((s.on h2).set i (r := .d _) (.lst (.inl h3) (s.fresh h1) h4.less)))
end
end Fl

/-! FloL -/
namespace Fl
open PySem L2 PyProof.Rows
variable {T : Tbs}

/-! ### lambda y: x[y][1], x captured -/
/-- the scope of such a lambda -/
structure LamP (sc scope : Scope) (x y : Str) : Prop where
  kind : scope.kind = .function
  co : scope.isCoroutine = false
  gen : scope.isGenerator = false
  cell : ∀ z ∈ scope.names, z.2 ≠ .cell
  par : scope.names.lookup y = some .local
  cap : scope.names.lookup x = some .free
  free : ∀ z ∈ scope.names, z.2 = .free → sc.names.lookup z.1 = some .cell ∨ sc.names.lookup z.1 = some .free
  uni : ∀ z ∈ scope.names, scope.names.lookup z.1 = some z.2
def lamPB (sc scope : Scope) (x y : Str) : Bool :=
  decide (scope.kind = .function) && !scope.isCoroutine && !scope.isGenerator && (scope.names.all fun z => !decide (z.2 = .cell)) && decide (scope.names.lookup y = some .local) && decide (scope.names.lookup x = some .free) &&
    (scope.names.all fun z => (!decide (z.2 = .free) || decide (sc.names.lookup z.1 = some .cell) || decide (sc.names.lookup z.1 = some .free)) && decide (scope.names.lookup z.1 = some z.2))
theorem lamP_by {sc scope : Scope} {x y : Str} (h : lamPB sc scope x y = true) : LamP sc scope x y := by
  unfold lamPB at h
  simp only [Bool.and_eq_true, Bool.or_eq_true, Bool.not_eq_true', decide_eq_true_eq, decide_eq_false_iff_not, List.all_eq_true] at h
  obtain ⟨⟨⟨⟨⟨⟨h1, h2⟩, h3⟩, h4⟩, h5⟩, h6⟩, h7⟩ := h
  refine ⟨h1, h2, h3, h4, h5, h6, fun z hz e => ?_, fun z hz => (h7 z hz).2⟩
  rcases (h7 z hz).1 with (w | w) | w
  · exact absurd e w
  · exact .inl w
  · exact .inr w
section
variable {prog : Program} {w : World} {A : Around} {s : Shared}
theorem lam_key {f c' c a b : Addr} {params : Arguments} {sc scope : Scope} {x y qual : Str} {p1 p2 p3 p4 p5 : Pos} {jj : Nat} {clos : List (Str × Addr)} {pm ctv : Value} {its js : List Value} {i : Nat} {t tz : Tok} {z : Int} (L : LamP sc scope x y)
    (hroom : A.depth < recursionLimit) (hf : s.heap.get? f = some (PySem.W.kla_obj "<lambda>" qual params (.Subscript (.Subscript (.Name x p1) (.Name y p2) p3) (.Constant (.int 1) jj p4) p5) scope clos pm c' ctv)) (hcd : s.heap.CodeRec (.ref c') qual)
    (hcl : clos.lookup x = some c) (hc : s.heap.IsCell c (some (.ref a))) (ha : IsTup s.heap a its.toArray) (hi : its[i]? = some (.ref b)) (hz : its.length ≤ sizeLine) (hb : IsTup s.heap b js.toArray) (hj : js[1]? = some (.int z tz)) (hz2 : js.length ≤ sizeLine)
    (hbind : ∀ u, bindArgs (PySem.W.kla_fn "<lambda>" qual params (.Subscript (.Subscript (.Name x p1) (.Name y p2) p3) (.Constant (.int 1) jj p4) p5) scope clos pm (.ref c') ctv) ⟨[u], []⟩ = pure [(y, u)]) (lim : s.heap.NoLimit)
    (dx : (x == ("__debug__" : Str)) = false) (dx2 : (x == ("__classdict__" : Str)) = false) (dy : (y == ("__debug__" : Str)) = false) :
    wpAny (model prog w) A (call (.ref f) [.int (i : Nat) t]) (fun v s' => ∃ h' tk, s' = { s with heap := h', toks := tk } ∧ (∀ b o, s.heap.get? b = some o → h'.get? b = some o) ∧ v = .int z tz) (fun _ _ => False) s := by
  refine wpAny_call ?_
  refine PySem.W.kla_callFunE hroom hf rfl L.co L.gen rfl hcd ?_
  rw [hbind]
  refine wpAny_pure (wpAny_newFunctionEnv L.cell (fun q hq => ?_) (fun h₁ hns hsb => ⟨lim.fresh _ hsb, ?_⟩) L.kind)
  · obtain rfl : q = (y, Value.int (i : Nat) t) := List.mem_singleton.mp hq
    exact L.par
  have kp : ∀ b o, s.heap.get? b = some o → h₁.get? b = some o := fun b o e => hsb.extBut b o (Nat.ne_of_lt (Heap.lt_size e)) (Heap.get?_push_of_some _ e)
  show codeAny _ _ (.expr _ (PySem.W.envX qual scope s.heap.objs.size f (.ref c') clos)) _ _
  obtain ⟨oc, hoc, hcd2⟩ := hc
  obtain ⟨oa, hoa, ra⟩ := ha
  obtain ⟨ob, hob, rb⟩ := hb
  have li := at_lt hi
  have lj := at_lt hj
  have hl := line63
  refine PySem.W.kla_codeExpr (Subscript_ (Subscript_ (wpAny_Name (wpAny_loadName_free (c := c) (v := .ref a) L.kind L.cap hcl ⟨oc, kp _ _ hoc, hcd2⟩ ?_ dx2) dx)))
  refine wpAny_Name (wpAny_loadName_local L.kind L.par hns (v := .int (i : Nat) t) (by simp) ?_) dy
  refine subscriptTail_builtinR (x := .ref b) (T := "tuple") (id := "tuple.__getitem__") ⟨oa, kp _ _ hoa, ra.1⟩ slot_tuple_getitem.lookup (PyProof.Rows.getItem_tuple (j := i) ⟨oa, kp _ _ hoa, ra⟩ (by omega) (by omega) ?_ (by simpa using hi) ⟨rfl, ?_⟩) rfl
  · rw [List.size_toArray]; exact seqIndex_of (by omega) (by omega)
  refine wpAny_Constant_int ?_
  refine subscriptTail_builtinR (x := .int z tz) (T := "tuple") (id := "tuple.__getitem__") ⟨ob, kp _ _ hob, rb.1⟩ slot_tuple_getitem.lookup (PyProof.Rows.getItem_tuple (j := 1) ⟨ob, kp _ _ hob, rb⟩ (by omega) (by omega) ?_ (by simpa using hj) ⟨rfl, ?_⟩) rfl
  · rw [List.size_toArray]; exact seqIndex_of (by omega) (by omega)
  exact ⟨h₁, _, rfl, kp, rfl⟩
end
/-- the table at P of the code object at c is one of those told -/
structure LamT (T : Tbs) (base : Heap) (mg : Str → Option Value) (c P : Addr) (q : Str) : Prop where
  tb : LamX.TabB base mg c P
  mem : (P, q) ∈ T
  uni : ∀ p ∈ T, p.1 = P → p.2 = q
section
variable {X : Cx} {pins : List (Addr × Obj)} {σ : L2.St} {H : Hp} {s : Shared}
theorem tab_more {P c : Addr} {q : Str} {ps : Array Value} {pos : Pos} (hT : LamX.Tabs T H) (hu : ∀ p ∈ T, p.1 = P → p.2 = q) (hP : H P = some (.tbl ps)) (hc : H c = none) :
    Ex T H (upd (upd H P (.tbl (ps ++ #[rawInt pos.line, rawInt pos.col, .ref c]))) c (LamX.CodeO c q)) := by
  have nPc : P ≠ c := ne_of_none hP hc
  have kp : ∀ a o, H a = some o → NT o → upd (upd H P (.tbl (ps ++ #[rawInt pos.line, rawInt pos.col, .ref c]))) c (LamX.CodeO c q) a = some o := fun a o h n => by
    rw [upd_ne (ne_of_none h hc), upd_ne (fun z => by subst z; rw [hP] at h; exact n ps (Option.some.inj h).symm)]
    exact h
  refine ⟨kp, fun a h => ?_, fun _ => fun p hp => ?_⟩
  · by_cases z : a = P
    · subst z; rw [upd_ne nPc, upd_same]; exact fun z => nomatch z
    · rw [upd_ne (fun w => by subst w; exact h hc), upd_ne z]; exact h
  · obtain ⟨qs, h1, h2, h3⟩ := hT p hp
    by_cases z : p.1 = P
    · rw [z, hP] at h1
      cases h1
      have e : (ps ++ #[rawInt pos.line, rawInt pos.col, .ref c]).toList = ps.toList ++ [rawInt pos.line, rawInt pos.col, .ref c] := by simp
      refine ⟨_, by rw [z, upd_ne nPc]; exact upd_same, by rw [e]; exact PySem.TriplesOk_snoc _ _ _ _ h2, fun p' cv hcv => ?_⟩
      rw [e] at hcv
      rcases LamX.among_app _ h2 hcv with w | w
      · obtain ⟨c0, e1, e2⟩ := h3 p' cv w
        exact ⟨c0, e1, kp _ _ e2 fun ps z => LamX.codeO_ne ps z⟩
      · exact ⟨c, w, by rw [hu p hp z]; exact upd_same⟩
    · refine ⟨qs, by rw [upd_ne (ne_of_none h1 hc), upd_ne z]; exact h1, h2, fun p' cv hcv => ?_⟩
      obtain ⟨c0, e1, e2⟩ := h3 p' cv hcv
      exact ⟨c0, e1, kp _ _ e2 fun ps z => LamX.codeO_ne ps z⟩
/-- a lambda is made -/
theorem lam_made {c P : Addr} {params : Arguments} {body : Expr} {scope : Scope} {pos : Pos} {E : Value → Shared → Prop} {Q : Value → Shared → Prop} (I : Inv X pins σ H s) (LT : LamT T X.base X.mg c P (X.env.qual ++ "<lambda>")) (hcode : X.env.code = .ref c) (hT : LamX.Tabs T H)
    (hdef : defaultsOf params X.env = ([], [])) (hfree : ∀ y ∈ scope.names, y.2 = .free → ∃ c, X.env.cells.lookup y.1 = some c)
    (k : ∀ (f c' : Addr) (pm ctv : Value) (H1 : Hp) (s' : Shared), Inv X pins σ H1 s' → Ex T H H1 → s'.heap.get? f = some (PySem.W.kla_obj "<lambda>" (X.env.qual ++ "<lambda>") params body scope (cloFrom X.env.cells scope.names []) pm c' ctv) → f ≠ X.env.locals → s'.heap.CodeRec (.ref c') (X.env.qual ++ "<lambda>") → c' ≠ X.env.locals → Q (.ref f) s') :
    wpAny (model X.prog X.w) X.A (eval (.Lambda params body scope pos) X.env) Q E s := by
  obtain ⟨ps, hP, ht, ha⟩ := hT _ LT.mem
  have bP : s.heap.BuiltinsAt X.mg P := LT.tb.bm.keeps I.bk
  have hP' : s.heap.get? P = some { cls := .none, data := .fields ps } := I.hok P _ hP
  have hL := I.lt
  refine PySem.W.kla_eval hdef ?_
  cases hc : codeAmong pos ps.toList with
  | none =>
    refine PySem.W.kla_makeFunction (mg := X.mg) (c := c) (P := P) (ps := ps) (closure_ok hfree) I.ok.glob (I.mod.glob.keeps I.bk) hcode (LT.tb.code.keeps I.bk) hP' ht hc LT.tb.gP bP fun c' ctv h' tk hx hge hlt hrec htb => ?_
    obtain ⟨c2, oc, vs, t, e2, hoc, hd, hv⟩ := hrec
    cases e2
    have nC : H c' = none := I.hok.fresh hge
    have I1 := LamX.inv_table (t' := tk) (more := #[rawInt pos.line, rawInt pos.col, .ref c']) (h' := h'.push (PySem.W.kla_obj "<lambda>" (X.env.qual ++ "<lambda>") params body scope (cloFrom X.env.cells scope.names []) ((X.mg "__name__").getD .none) c' ctv)) I hP
      (fun b o hb e => Heap.get?_push_of_some _ (hx b o hb e)) (Heap.get?_push_of_some _ htb) hge ⟨oc, vs, t, Heap.get?_push_of_some _ hoc, hd, hv⟩
    exact k h'.objs.size c' _ ctv _ _ I1 (tab_more hT LT.uni hP nC) (Heap.get?_push_size _ rfl) (Nat.ne_of_gt (Nat.lt_of_lt_of_le hL (Nat.le_trans hge (Nat.le_of_lt hlt)))) ⟨c', oc, vs, t, rfl, Heap.get?_push_of_some _ hoc, hd, hv⟩ (Nat.ne_of_gt (Nat.lt_of_lt_of_le hL hge))
  | some cv =>
    obtain ⟨c', e, hco⟩ := ha pos cv hc
    subst e
    refine PySem.W.kla_makeFunctionHit (mg := X.mg) (c := c) (P := P) (ps := ps) (closure_ok hfree) I.ok.glob (I.mod.glob.keeps I.bk) hcode (LT.tb.code.keeps I.bk) hP' ht hc bP fun ctv h' tk hx hsz => ?_
    have kp : ∀ b o, s.heap.get? b = some o → (h'.push (PySem.W.kla_obj "<lambda>" (X.env.qual ++ "<lambda>") params body scope (cloFrom X.env.cells scope.names []) ((X.mg "__name__").getD .none) c' ctv)).get? b = some o := fun b o e => Heap.get?_push_of_some _ (hx b o e)
    obtain ⟨⟨oc, vs, t, hoc, hd, hv⟩, _, _⟩ := I.hok c' _ hco
    exact k h'.objs.size c' _ ctv H _ (I.kept kp) (.refl H) (Heap.get?_push_size _ rfl) (Nat.ne_of_gt (Nat.lt_of_lt_of_le hL hsz)) ⟨c', oc, vs, t, rfl, kp _ _ hoc, hd, hv⟩ (ne_of_none hco I.free)
end
/-- numbers as data -/
abbrev dN (n : Nat) : D := .int (n : Nat)
def sortK (key : Nat → Int) (ns : List Nat) : List Nat := ns.mergeSort fun a b => decide (key a ≤ key b)
/-- the first one with the greatest key -/
def maxK (key : Nat → Int) : List Nat → Nat
  | [] => 0
  | [n] => n
  | n :: m :: r => if key n < key (maxK key (m :: r)) then maxK key (m :: r) else n
theorem maxK_spec (key : Nat → Int) : ∀ (ns : List Nat) (i n : Nat), ns[i]? = some n → (∀ j m, ns[j]? = some m → key m ≤ key n ∧ (j < i → key m < key n)) → n = maxK key ns
  | [], i, n, h, _ => by simp at h
  | [a], i, n, h, _ => by
    cases i with
    | zero => simp at h; exact h.symm
    | succ i => simp at h
  | a :: b :: r, 0, n, h, g => by
    obtain rfl : a = n := by simpa using h
    have hm : maxK key (b :: r) ∈ b :: r := by
      have : ∀ l : List Nat, l ≠ [] → maxK key l ∈ l := by
        intro l
        induction l with
        | nil => intro h; exact absurd rfl h
        | cons x l ih =>
          intro _
          cases l with
          | nil => simp [maxK]
          | cons y l =>
            show (if key x < key (maxK key (y :: l)) then maxK key (y :: l) else x) ∈ _
            split
            · exact List.mem_cons_of_mem _ (ih (by simp))
            · exact List.mem_cons_self
      exact this _ (by simp)
    obtain ⟨j, hj, e⟩ := List.mem_iff_getElem.mp hm
    have := (g (j + 1) (maxK key (b :: r)) (by simp; rw [← e]; simp [hj])).1
    show a = if key a < key (maxK key (b :: r)) then maxK key (b :: r) else a
    rw [if_neg (by omega)]
  | a :: b :: r, i + 1, n, h, g => by
    have ih := maxK_spec key (b :: r) i n (by simpa using h) fun j m hj => by
      have := g (j + 1) m (by simpa using hj)
      exact ⟨this.1, fun hlt => this.2 (by omega)⟩
    have h0 := (g 0 a rfl).2 (by omega)
    show n = if key a < key (maxK key (b :: r)) then maxK key (b :: r) else a
    rw [← ih, if_pos h0]
theorem vals_nats {ns : List Nat} : ∀ {us : List Value}, Vals (ns.map fun n => V.int (n : Nat)) us → PySem.W.EachIs (fun v n => ∃ t, v = Value.int (n : Nat) t) us ns := by
  induction ns with
  | nil => intro us h; cases h; exact .nil
  | cons n ns ih => intro us h; cases h with
    | cons h hs => exact .cons h (ih hs)
theorem each_nats {ns : List Nat} : ∀ {us : List Value}, PySem.W.EachIs (fun v n => ∃ t, v = Value.int (n : Nat) t) us ns → Vals (ns.map fun n => V.int (n : Nat)) us := by
  induction ns with
  | nil => intro us h; cases h; exact .nil
  | cons n ns ih => intro us h; cases h with
    | cons h hs => exact .cons h (ih hs)
theorem Dens.nats {O : Ow} {H : Hp} {ns : List Nat} {vs : List V} (h : Dens O H vs (ns.map dN)) : vs = ns.map fun n => V.int (n : Nat) := by
  have e : ns.map dN = (ns.map fun n : Nat => (n : Int)).map D.int := by rw [List.map_map]; rfl
  rw [e] at h
  rw [h.ints, List.map_map]; rfl
theorem Dens.of_nats {O : Ow} {H : Hp} (ns : List Nat) : Dens O H (ns.map fun n => V.int (n : Nat)) (ns.map dN) := by
  have e : ns.map dN = (ns.map fun n : Nat => (n : Int)).map D.int := by rw [List.map_map]; rfl
  have e2 : (ns.map fun n => V.int (n : Nat)) = (ns.map fun n : Nat => (n : Int)).map V.int := by rw [List.map_map]; rfl
  rw [e, e2]; exact Dens.of_ints _
/-- what a def that makes such a lambda brings -/
structure LamX1 (T : Tbs) (X : Cx) (scope : Scope) (params : Arguments) (body : Expr) (x y : Str) : Prop where
  lt : ∃ c P, LamT T X.base X.mg c P (X.env.qual ++ "<lambda>") ∧ X.env.code = .ref c
  sc : LamP X.env.scope scope x y
  df : defaultsOf params X.env = ([], [])
  bd : ∀ (q : Str) (cl : List (Str × Addr)) (pm cv ctv u : Value), bindArgs (PySem.W.kla_fn "<lambda>" q params body scope cl pm cv ctv) ⟨[u], []⟩ = pure [(y, u)]
  d1 : (x == ("__debug__" : Str)) = false
  d2 : (x == ("__classdict__" : Str)) = false
  d3 : (y == ("__debug__" : Str)) = false
theorem LamX1.free {X : Cx} {scope : Scope} {params : Arguments} {body : Expr} {x y : Str} (L : LamX1 T X scope params body x y) (ok : X.Ok) : ∀ y ∈ scope.names, y.2 = .free → ∃ c, X.env.cells.lookup y.1 = some c := fun z hz e => by
  rcases L.sc.free z hz e with k | k
  · exact ok.has _ (.inl k)
  · exact ok.has _ (.inr k)
/-- where the key of each item stands -/
def KeyAt (ds : List D) (key : Nat → Int) (ns : List Nat) : Prop := ∀ n ∈ ns, ∃ es, ds[n]? = some (.tup es) ∧ es[1]? = some (.int (key n))
section
variable {X : Cx} {ρ : List Sl} {e : Expr} {pos p lpos kpos p1 p2 p3 p4 p5 : Pos} {jj : Nat} {params : Arguments} {scope : Scope} {x y : Str}
/-- the lambda's call, wherever all but the frame stands as it did -/
theorem lam_turn {pins : List (Addr × Obj)} {σ : L2.St} {O : Ow} {H : Hp} {s : Shared} {ds : List D} {v : V} {ix : Nat} {key : Nat → Int} {ns : List Nat} {f c' : Addr} {pm ctv : Value} {A : Around}
    (L : LamX1 T X scope params (.Subscript (.Subscript (.Name x p1) (.Name y p2) p3) (.Constant (.int 1) jj p4) p5) x y) (I : Inv X pins σ H s) (hN : X.N[ix]? = some x) (hσ : σ[ix]? = some (some v)) (hd : Den O H v (.tup ds)) (hk : KeyAt ds key ns) (hroom : A.depth < recursionLimit)
    (hf : s.heap.get? f = some (PySem.W.kla_obj "<lambda>" (X.env.qual ++ "<lambda>") params (.Subscript (.Subscript (.Name x p1) (.Name y p2) p3) (.Constant (.int 1) jj p4) p5) scope (cloFrom X.env.cells scope.names []) pm c' ctv)) (hfL : f ≠ X.env.locals)
    (hcr : s.heap.CodeRec (.ref c') (X.env.qual ++ "<lambda>")) (hcL : c' ≠ X.env.locals) {n : Nat} {t : Tok} (hn : n ∈ ns) {h : Heap} {tk : Nat} (kp : ∀ b o, b ≠ X.env.locals → s.heap.get? b = some o → h.get? b = some o) (lim : h.NoLimit) :
    wpAny (model X.prog X.w) A (call (.ref f) [.int (n : Nat) t]) (fun v s' => ∃ h' tk' tz, s' = { s with heap := h', toks := tk' } ∧ (∀ b o, h.get? b = some o → h'.get? b = some o) ∧ v = .int (key n) tz) (fun _ _ => False) { s with heap := h, toks := tk } := by
  cases hd with
  | @tup a vs _ hr hn0 hds =>
    obtain ⟨es, h1, h2⟩ := hk n hn
    obtain ⟨w1, hw1, dw1⟩ := hds.get h1
    cases dw1 with
    | @tup b us _ hr2 _ hes =>
      obtain ⟨w2, hw2, dw2⟩ := hes.get h2
      obtain rfl := Den.int_inv dw2
      obtain ⟨its, r1, t1, z1⟩ := I.tuple (.inl hr)
      obtain ⟨js, r2, t2, z2⟩ := I.tuple (.inl hr2)
      obtain ⟨u1, hu1, ru1⟩ := r1.get hw1
      cases ru1
      obtain ⟨u2, hu2, tz, rfl⟩ := r2.get hw2
      -- the captured name
      obtain ⟨m, hns, hl⟩ := I.loc
      have hmem : (x, NameKind.free) ∈ scope.names := PySem.mem_of_lookup L.sc.cap
      have hvis : X.env.scope.names.lookup x = some .cell ∨ X.env.scope.names.lookup x = some .free := L.sc.free _ hmem rfl
      obtain ⟨u, ru, look⟩ := hl ix x _ hN hσ (hvis.elim (fun q => .inr (.inl q)) fun q => .inr (.inr q))
      cases ru
      have hcell : ∃ c, X.env.cells.lookup x = some c ∧ s.heap.IsCell c (some (.ref a)) := by
        rcases look with ⟨q, _⟩ | ⟨_, q⟩
        · rcases hvis with w | w <;> (rw [show X.env.scope.names.lookup x = some .local from q] at w; cases w)
        · exact q
      obtain ⟨c, hc, oc, hoc, hcd⟩ := hcell
      have hcn : c ≠ X.env.locals := I.cne x c hc
      have hclo : (cloFrom X.env.cells scope.names []).lookup x = some c := by
        obtain ⟨c2, h2⟩ := mem_lookup (cloFrom_has (cells := X.env.cells) (acc := []) hmem)
        rcases cloFrom_mem (PySem.mem_of_lookup h2) with w | ⟨_, w⟩
        · cases w
        · rw [h2, w, hc]; rfl
      obtain ⟨oa, hoa, ca⟩ := t1
      obtain ⟨ob, hob, cb⟩ := t2
      have fre : ∀ {q : Addr} {xs : List V}, L2.Rd H q (.tup xs) → q ≠ X.env.locals := fun {q xs} hq z => by
        subst z; exact rd_some hq I.free
      obtain ⟨c2, oc2, vs2, tq, e2, g1, g2, g3⟩ := hcr
      cases e2
      refine wpAny_mono (lam_key (s := { s with heap := h, toks := tk }) (i := n) L.sc hroom (kp _ _ hfL hf) ⟨c', oc2, vs2, tq, rfl, kp _ _ hcL g1, g2, g3⟩ hclo ⟨oc, kp _ _ hcn hoc, hcd⟩ ⟨oa, kp _ _ (fre hr) hoa, ca⟩ hu1 (by rw [← r1.length]; exact z1) ⟨ob, kp _ _ (fre hr2) hob, cb⟩ hu2 (by rw [← r2.length]; exact z2)
        (fun u => L.bd _ _ _ _ _ u) lim L.d1 L.d2 L.d3) (fun v s' hq => ?_) fun _ _ z => z
      obtain ⟨h', tk', rfl, hk', rfl⟩ := hq
      exact ⟨h', tk', tz, rfl, hk', rfl⟩
theorem ed_sortKey {ds : List D} {key : Nat → Int} {ns : List Nat} (ix : Nat) (hm : X.mg "sorted" = none) (ha : ED T X ρ e (.d (.lst (ns.map dN)))) (hx : ρ[ix]? = some (.d (.tup ds))) (hk : KeyAt ds key ns)
    (L : LamX1 T X scope params (.Subscript (.Subscript (.Name x p1) (.Name y p2) p3) (.Constant (.int 1) jj p4) p5) x y) {k0 : Nat} (hr : Room k0 X.A) (hN : X.N[ix]? = some x := by rfl) (hg : Gl X "sorted" := by rfl) (hs : starEach [e] X.env = (false, eval e X.env) :: starEach [] X.env := by rfl)
    (he : backTo pos (starEach [e] X.env) = (false, eval e X.env) :: backTo pos (starEach [] X.env) := by rfl) (hpl : (backTo pos (starEach [e] X.env)).any (·.1) = false := by rfl) :
    EF T X ρ (.Call (.Name "sorted" p) [e] [⟨some "key", .Lambda params (.Subscript (.Subscript (.Name x p1) (.Name y p2) p3) (.Constant (.int 1) jj p4) p5) scope lpos, kpos⟩] pos) ((sortK key ns).map dN) := by
  intro Hb Ob O σ H s Q k pins st I
  obtain ⟨c, P, LT, hcode⟩ := L.lt
  refine wpAny_Call_Name_kw (ld_blt I hg hm (show bootBuiltins "sorted" = some (.builtin "sorted") by decide +kernel) (PyProof.Rows.callWith_kw (thn ((pa_cons (wpE_pe X e) pa_nil hs).run pos pins st σ H (fun vs H1 => ∃ v, vs = [v] ∧ Ex T H H1 ∧ Den O H1 v (.lst (ns.map dN))) I (ha Hb Ob O σ H s _ fun v H1 e1 rv => ⟨v, rfl, e1, rv⟩)) fun us s1 ⟨vs, H1, I1, r1, v, ev, e1, rv⟩ => ?_) he hpl rfl rfl))
  subst ev
  have S1 := s.on e1
  show wpAny _ _ (evalAll ((do let v ← eval (.Lambda _ _ _ _) X.env; standAt pos; pure v) :: (backToKw pos (keywordEach [] X.env)).map (·.2))) _ _ s1
  refine wpAny_evalAll_cons (wpAny_bind (lam_made I1 LT hcode S1.tabs L.df (L.free I1.ok) fun f c' pm ctv H2 s2 I2 e2 hf hfL hcr hcL => wpAny_bind (wpAny_standAt (wpAny_pure (wpAny_evalAll_nil ?_)))))
  have S2 := S1.on e2
  have rv2 := Den.ex rv e2
  cases rv2 with
  | @lst l vs _ hl hnl hds =>
    obtain rfl := hds.nats
    obtain rfl := Vals.ref1 r1
    obtain ⟨its, rvl, pl, hz⟩ := I2.list (.inl hl)
    rcases S2.get ix _ hx with z | ⟨w, hw, dw⟩
    · cases z
    have lenN : ns.length ≤ sizeLine := by rw [List.length_map] at hz; exact hz
    show wpAny _ _ (call (.builtin "sorted") [.ref l] [(Str.ofString "key", .ref f)]) _ _ s2
    refine PySem.W.sorted_key_data (b := false) (R := fun v n => ∃ t, v = Value.int (n : Nat) t) (bs := ns) (fun n => PyData.int (key n)) pl.isList (vals_nats rvl) (fun d hd d' hd' => ?_) (.inr fun d hd => ?_) lenN (fun n _ => ?_) (PyProof.Rows.ksk_s1 _ _) (fun _ => PyProof.Rows.ksk_l1 _ _) (fun _ => PyProof.Rows.ksk_t1 _ _) (fun v n hv hn h tk kp => ?_) fun out cc h' tk kp fr hD hlen each => ?_
    · obtain ⟨n, _, rfl⟩ := List.mem_map.mp hd
      obtain ⟨n', _, rfl⟩ := List.mem_map.mp hd'
      rfl
    · obtain ⟨n, _, rfl⟩ := List.mem_map.mp hd
      exact ⟨(fun z => nomatch z), fun _ z => nomatch z⟩
    · have := hr.units
      show X.A.units + 2 + 0 < cLine
      omega
    · obtain ⟨t, rfl⟩ := hv
      refine wpAny_mono (lam_turn (A := X.A.in1.in1) (key := key) L I2 hN hw dw hk hr.depth hf hfL hcr hcL hn (fun b o _ e => kp b o e) (I2.nolimit.keeps kp)) (fun v s' hq => ?_) fun _ _ z => z
      obtain ⟨h', tk', tz, rfl, hk', rfl⟩ := hq
      exact ⟨h', tk', rfl, hk', .int _ _⟩
    · rw [PySem.W.dataLe_int] at each
      have hle : ((sortK key ns).map fun n => V.int (n : Nat)).length ≤ sizeLine := by
        rw [List.length_map]; unfold sortK; rw [List.length_mergeSort]; exact lenN
      have hnone : H2 (s2.heap.objs.size + 1) = none := I2.hok.fresh (Nat.le_succ _)
      exact ⟨.ref _, upd H2 (s2.heap.objs.size + 1) (.lst ((sortK key ns).map fun n => V.int (n : Nat))), I2.laid kp (Nat.le_succ _) ⟨hle, out, cc, each_nats each, hD⟩, rfl,
        k _ _ _ (none_back (e1.trans e2) hnone) ((e1.trans e2).trans (Ex.new hnone)) upd_same (Dens.of_nats _)⟩
/-- all but the frame stood still -/
theorem inv_kept {pins : List (Addr × Obj)} {σ : L2.St} {H : Hp} {s : Shared} {h' : Heap} {tk : Nat} {m : Str → Option Value} (I : Inv X pins σ H s) (kp : ∀ b o, b ≠ X.env.locals → s.heap.get? b = some o → h'.get? b = some o) (hm : s.heap.Ns X.env.locals m) (hm' : h'.Ns X.env.locals m) : Inv X pins σ H { s with heap := h', toks := tk } := by
  have nl : ∀ b u, H b = some u → b ≠ X.env.locals := fun b u e z => by subst z; rw [I.free] at e; cases e
  refine I.step (g' := s.gens) (d' := s.drawn) (ch := []) (fun b hb => by simp at hb) (fun b o hL _ _ e _ => kp b o hL e) (fun b o hL _ _ e _ => ⟨o.slots, kp b o hL e⟩) (fun b o _ _ n => n) (fun b o _ e => ?_) (fun b xs e => e) (fun b o u e => e) (fun b ps e => ⟨#[], by rw [e]; simp⟩) (fun m2 h2 => ?_) (fun b u e => ?_) I.bare
  · by_cases hb : b = X.env.locals
    · subst hb; obtain ⟨ob, _, _, ho, _⟩ := hm'; exact ⟨ob, ho⟩
    · exact ⟨o, kp b o hb e⟩
  · rw [h2.eq_nsMap, ← hm.eq_nsMap]; exact hm'
  · refine (I.hok b u e).stay (fun c v hc q => kp c v ?_ q) (fun _ q => q) fun _ _ q => q
    rcases hc with z | z
    · rw [z]; exact nl b u e
    · exact nl c _ z
theorem ed_maxKey {ds : List D} {key : Nat → Int} {ns : List Nat} (ix : Nat) (hm : X.mg "max" = none) (ha : ED T X ρ e (.d (.lst (ns.map dN)))) (hx : ρ[ix]? = some (.d (.tup ds))) (hk : KeyAt ds key ns) (hne : ns ≠ []) (hc : X.calm = true)
    (L : LamX1 T X scope params (.Subscript (.Subscript (.Name x p1) (.Name y p2) p3) (.Constant (.int 1) jj p4) p5) x y) {k0 : Nat} (hr : Room k0 X.A) (hN : X.N[ix]? = some x := by rfl) (hg : Gl X "max" := by rfl) (hs : starEach [e] X.env = (false, eval e X.env) :: starEach [] X.env := by rfl)
    (he : backTo pos (starEach [e] X.env) = (false, eval e X.env) :: backTo pos (starEach [] X.env) := by rfl) (hpl : (backTo pos (starEach [e] X.env)).any (·.1) = false := by rfl) :
    ED T X ρ (.Call (.Name "max" p) [e] [⟨some "key", .Lambda params (.Subscript (.Subscript (.Name x p1) (.Name y p2) p3) (.Constant (.int 1) jj p4) p5) scope lpos, kpos⟩] pos) (.d (dN (maxK key ns))) := by
  intro Hb Ob O σ H s Q k pins st I
  obtain ⟨c, P, LT, hcode⟩ := L.lt
  refine wpAny_Call_Name_kw (ld_blt I hg hm (show bootBuiltins "max" = some (.builtin "max") by decide +kernel) (PyProof.Rows.callWith_kw (thn ((pa_cons (wpE_pe X e) pa_nil hs).run pos pins st σ H (fun vs H1 => ∃ v, vs = [v] ∧ Ex T H H1 ∧ Den O H1 v (.lst (ns.map dN))) I (ha Hb Ob O σ H s _ fun v H1 e1 rv => ⟨v, rfl, e1, rv⟩)) fun us s1 ⟨vs, H1, I1, r1, v, ev, e1, rv⟩ => ?_) he hpl rfl rfl))
  subst ev
  have S1 := s.on e1
  show wpAny _ _ (evalAll ((do let v ← eval (.Lambda _ _ _ _) X.env; standAt pos; pure v) :: (backToKw pos (keywordEach [] X.env)).map (·.2))) _ _ s1
  refine wpAny_evalAll_cons (wpAny_bind (lam_made I1 LT hcode S1.tabs L.df (L.free I1.ok) fun f c' pm ctv H2 s2 I2 e2 hf hfL hcr hcL => wpAny_bind (wpAny_standAt (wpAny_pure (wpAny_evalAll_nil ?_)))))
  have S2 := S1.on e2
  have rv2 := Den.ex rv e2
  cases rv2 with
  | @lst l vs _ hl hnl hds =>
    obtain rfl := hds.nats
    obtain rfl := Vals.ref1 r1
    obtain ⟨its, rvl, pl, hz⟩ := I2.list (.inl hl)
    rcases S2.get ix _ hx with z | ⟨w, hw, dw⟩
    · cases z
    obtain ⟨m, F⟩ := I2.fr
    have N : News X.base X.env.locals s2.heap (allNews X.base s2.heap X.env.locals) := news_all
    have kpt : ∀ h, Fr X.base X.env.locals h m → News X.base X.env.locals h (allNews X.base s2.heap X.env.locals) → ∀ b o, b ≠ X.env.locals → s2.heap.get? b = some o → h.get? b = some o := fun h Fh Nh b o hb e => by
      cases q : X.base.get? b with
      | some u =>
        have := I2.bk b u q
        rw [e] at this; cases this
        exact Fh.keep b _ q
      | none => exact (Nh (b, o) (mem_allNews hb q e)).1
    have lL : l ≠ X.env.locals := fun z => by subst z; exact rd_some hl I2.free
    have hlen : (ns.map fun n => V.int (n : Nat)).length = its.length := rvl.length
    rw [List.length_map] at hlen
    have at_ : ∀ {i : Nat} {v : Value}, its[i]? = some v → ∃ n t, ns[i]? = some n ∧ v = .int (n : Nat) t := fun {i v} hv => by
      have hi : i < ns.length := by rw [hlen]; exact at_lt hv
      obtain ⟨u, hu, t, e⟩ := rvl.get (i := i) (x := V.int (ns[i] : Nat)) (by simp [hi])
      rw [hv] at hu; cases hu
      exact ⟨ns[i], t, by simp [hi], e⟩
    show wpAny _ _ (call (.builtin "max") [.ref l] [(Str.ofString "key", .ref f)]) _ _ s2
    refine kmk_max (fun i => key (ns.getD i 0)) (I2.ok.hd hc) F N (fun h Fh Nh => ?_) (by rw [← hlen]; exact List.length_pos_iff.mpr hne) (fun i v hv h tk own Fh Nh => ?_) fun i v h' tk' hv hbest Fh Nh => ?_
    · obtain ⟨o, ho, ho2⟩ := pl.isList
      exact ⟨o, kpt h Fh Nh l o lL ho, ho2⟩
    · obtain ⟨n, t, hn, rfl⟩ := at_ hv
      have Nh' : News X.base X.env.locals h (allNews X.base s2.heap X.env.locals) := fun p hp => Nh p (List.mem_append_left _ hp)
      refine wpAny_mono (lam_turn (A := X.A.in1) (key := key) L I2 hN hw dw hk hr.depth hf hfL hcr hcL (List.mem_of_getElem? hn) (kpt h Fh Nh') (I2.ok.mod.nolimit.keeps Fh.keep)) (fun v s' hq => ?_) fun _ _ z => z
      obtain ⟨h', tk', tz, rfl, hk', rfl⟩ := hq
      have ek : key (ns.getD i 0) = key n := by rw [List.getD_eq_getElem?_getD, hn]; rfl
      rw [ek]
      exact .intro (Fh.keeps hk') (Nh.grown hk') fun _ hp => hp
    · obtain ⟨n, t, hn, rfl⟩ := at_ hv
      have hmax : n = maxK key ns := maxK_spec key ns i n hn fun j q hj => by
        have hjl : j < its.length := by rw [← hlen]; exact at_lt hj
        have := hbest j hjl
        simp only [List.getD_eq_getElem?_getD, hn, hj, Option.getD_some] at this
        exact ⟨by omega, fun w => by have := this.2 w; omega⟩
      rw [hmax]
      exact ⟨.int _, H2, inv_kept I2 (kpt h' Fh Nh) F.ns Fh.ns, ⟨t, rfl⟩, k _ _ (e1.trans e2) (.int _)⟩
end
end Fl

/-! FloM -/
/-! The program's functions in plain Lean. -/
namespace Fl
/-- a block at its place -/
structure Spot where
  l : Int
  b : Int
  w : Int
  h : Int
deriving DecidableEq
abbrev Sz := Int × Int
abbrev dSize (p : Sz) : D := .tup [.int p.1, .int p.2]
abbrev dSpot (s : Spot) : D := .tup [.int s.l, .int s.b, .int s.w, .int s.h]
abbrev dSpots (P : List Spot) : D := .tup (P.map dSpot)
abbrev dSizes (zs : List Sz) : D := .tup (zs.map dSize)
abbrev dOrd (o : List Nat) : D := .tup (o.map dN)
def spAt (P : List Spot) (i : Nat) : Spot := (P[i]?).getD ⟨0, 0, 0, 0⟩
def szAt (P : List Sz) (i : Nat) : Sz := (P[i]?).getD (0, 0)
def sideOk (a : Int) : Bool := decide (1 ≤ a) && decide (a ≤ 100)
def sizeOk (p : Sz) : Bool := sideOk p.1 && sideOk p.2
def placeOk (a : Int) : Bool := decide (0 ≤ a) && decide (a ≤ 1000)
def spotOk (s : Spot) : Bool := (placeOk s.l && placeOk s.b) && sizeOk (s.w, s.h)
def ovl (s t : Spot) : Bool := (decide (s.l < t.l + t.w) && decide (t.l < s.l + s.w)) && (decide (s.b < t.b + t.h) && decide (t.b < s.b + s.h))
structure SizesOk (zs : List Sz) : Prop where
  lo : 1 ≤ zs.length
  hi : zs.length ≤ 8
  ok : ∀ z ∈ zs, sizeOk z = true
structure PackOk (P : List Spot) : Prop where
  lo : 1 ≤ P.length
  hi : P.length ≤ 8
  ok : ∀ s ∈ P, spotOk s = true
  dj : ∀ i j, j < i → i < P.length → ovl (spAt P i) (spAt P j) = false
def wid (P : List Spot) : Int := maxL (P.map fun s => s.l + s.w)
def hei (P : List Spot) : Int := maxL (P.map fun s => s.b + s.h)
/-! orders -/
def IsOrd (n : Nat) (o : List Nat) : Prop := o.length = n ∧ (∀ i ∈ o, i < n) ∧ o.Nodup
def lookN {α : Type} (kvs : List (Nat × α)) (k : Nat) : Option α := (kvs.find? fun p => decide (p.1 = k)).map (·.2)
def lookI (kvs : List (Nat × Int)) (k : Nat) : Int := (lookN kvs k).getD 0
def before (rel : Nat → Nat → Bool) (sz : Nat → Int) (acc : List (Nat × Int)) (b : Nat) : Int := maxL (0 :: ((acc.map (·.1)).filter fun o => rel o b).map fun o => lookI acc o + sz o)
def placed (rel : Nat → Nat → Bool) (sz : Nat → Int) (second : List Nat) : List (Nat × Int) := second.foldl (fun acc b => acc ++ [(b, before rel sz acc b)]) []
def relX (first : List Nat) (o b : Nat) : Bool := decide (first.idxOf o < first.idxOf b)
def relY (first : List Nat) (o b : Nat) : Bool := decide (first.idxOf b < first.idxOf o)
def packedIn (zs : List Sz) (first second : List Nat) : List Spot :=
  (List.range zs.length).map fun i => ⟨lookI (placed (relX first) (fun o => (szAt zs o).1) second) i, lookI (placed (relY first) (fun o => (szAt zs o).2) second) i, (szAt zs i).1, (szAt zs i).2⟩
def ahead (z : Bool) (s t : Spot) : Bool :=
  (decide (s.l + s.w ≤ t.l) || (if z then decide (t.b + t.h ≤ s.b) else decide (s.b + s.h ≤ t.b))) && (!decide (t.l + t.w ≤ s.l) && !(if z then decide (s.b + s.h ≤ t.b) else decide (t.b + t.h ≤ s.b)))
def leftOf (n : Nat) (found : List Nat) : List Nat := (List.range n).filter fun i => !decide (i ∈ found)
def isFree (P : List Spot) (z : Bool) (left : List Nat) (a : Nat) : Bool := !((left.filter fun o => !decide (o = a)).any fun o => ahead z (spAt P o) (spAt P a))
def sortGo (P : List Spot) (z : Bool) : Nat → List Nat → List Nat
  | 0, found => found
  | k + 1, found => match (leftOf P.length found).find? (isFree P z (leftOf P.length found)) with
    | some a => sortGo P z k (found ++ [a])
    | none => found
def sortBy (P : List Spot) (z : Bool) : List Nat := sortGo P z P.length []
def permStep (n : Nat) (F : List (List Nat)) : List (List Nat) := F.flatMap fun o => ((List.range n).filter fun a => !decide (a ∈ o)).map fun a => o ++ [a]
def permsK (n : Nat) : Nat → List (List Nat)
  | 0 => [[]]
  | k + 1 => permStep n (permsK n k)
def perms (n : Nat) : List (List Nat) := permsK n n
/-! bushes -/
inductive Bu where
  | nil
  | node (n : Nat) (l r : Bu)
def dBu : Bu → D
  | .nil => .non
  | .node n l r => .tup [dN n, dBu l, dBu r]
def Bu.ns : Bu → List Nat
  | .nil => []
  | .node n l r => n :: (l.ns ++ r.ns)
def restOn (S : List Spot) (left width : Int) : Int := maxL (0 :: (S.filter fun s => decide (s.l < left + width) && decide (left < s.l + s.w)).map fun s => s.b + s.h)
def growF (zs : List Sz) : Bu → Int → List (Nat × Spot) → List (Nat × Spot)
  | .nil, _, acc => acc
  | .node n l r, left, acc =>
    growF zs r left (growF zs l (left + (szAt zs n).1) (acc ++ [(n, ⟨left, restOn (acc.map (·.2)) left (szAt zs n).1, (szAt zs n).1, (szAt zs n).2⟩)]))
def bushSpots (zs : List Sz) (b : Bu) : List Spot :=
  (List.range zs.length).map fun i => (lookN (growF zs b 0 []) i).getD ⟨0, 0, 0, 0⟩
def shapesK : Nat → List Nat → List Bu
  | 0, _ => [.nil]
  | _, [] => [.nil]
  | k + 1, x :: xs => (List.range (xs.length + 1)).flatMap fun a => (shapesK k (xs.take a)).flatMap fun l => (shapesK k (xs.drop a)).map fun r => .node x l r
def shapes (o : List Nat) : List Bu := shapesK o.length o
def bushArea (zs : List Sz) (b : Bu) : Int := wid ((growF zs b 0 []).map (·.2)) * hei ((growF zs b 0 []).map (·.2))
def better (zs : List Sz) (best : Option (Int × Bu)) (b : Bu) : Option (Int × Bu) :=
  match best with
  | none => some (bushArea zs b, b)
  | some q => if bushArea zs b < q.1 then some (bushArea zs b, b) else some q
def bestBush (zs : List Sz) : Option (Int × Bu) := ((perms zs.length).flatMap shapes).foldl (better zs) none
def heldX (s : Spot) (P : List Spot) : Bool := decide (s.l = 0) || P.any fun o => (decide (o.l + o.w = s.l) && decide (o.b < s.b + s.h)) && decide (s.b < o.b + o.h)
def heldY (s : Spot) (P : List Spot) : Bool := decide (s.b = 0) || P.any fun o => (decide (o.b + o.h = s.b) && decide (o.l < s.l + s.w)) && decide (s.l < o.l + o.w)
def isCompact (P : List Spot) : Bool := P.all fun s => heldX s P && heldY s P
def facesF (o s : Spot) : Bool := decide (o.l + o.w = s.l) && (decide (o.b < s.b + s.h) && decide (s.b < o.b + o.h))
def parentOf (P : List Spot) (b : Nat) : Nat := maxK (fun o => (spAt P o).b) ((List.range P.length).filter fun o => facesF (spAt P o) (spAt P b))
def parL (P : List Spot) (n : Nat) : List (Nat × Nat) := ((List.range n).filter fun b => decide (0 < (spAt P b).l)).map fun b => (b, parentOf P b)
def dKv (L : List (Nat × Nat)) : List (Int × D) := L.map fun p => ((p.1 : Int), dN p.2)
def dO : Option Nat → D
  | none => .non
  | some n => dN n
def columnOf (P : List Spot) (L : List (Nat × Nat)) (p : Option Nat) : List Nat := sortK (fun b => (spAt P b).b) ((List.range P.length).filter fun b => decide (lookN L b = p))
def rootedK (P : List Spot) (L : List (Nat × Nat)) : Nat → List Nat → Bu
  | 0, _ => .nil
  | _, [] => .nil
  | k + 1, c :: cs => .node c (rootedK P L k (columnOf P L (some c))) (rootedK P L k cs)
/-! plain facts of data -/
theorem spots_at {P : List Spot} {i : Nat} (h : i < P.length) : (P.map dSpot)[i]? = some (dSpot (spAt P i)) := by
  unfold spAt; simp [h]
theorem sizes_at {P : List Sz} {i : Nat} (h : i < P.length) : (P.map dSize)[i]? = some (dSize (szAt P i)) := by
  unfold szAt; simp [h]
theorem spAt_mem {P : List Spot} {i : Nat} (h : i < P.length) : spAt P i ∈ P := by
  unfold spAt; simp [h]
theorem szAt_mem {P : List Sz} {i : Nat} (h : i < P.length) : szAt P i ∈ P := by
  unfold szAt; simp [h]
theorem spAt_of {P : List Spot} {i : Nat} {s : Spot} (h : P[i]? = some s) : spAt P i = s := by
  unfold spAt; rw [h]; rfl
end Fl

/-! FloH -/
/-! Shapes of walks that come often. -/
namespace Fl
open PySem L2 PyProof.Rows
variable {T : Tbs}
def topS (i : Nat) : Stmt := PySem.Challenge.pw_chipfloor_k96_whole_bushes_of_floors.main.body.getD i (.Pass ⟨0, 0, 0, 0⟩)
/-- the built-in names stand for themselves -/
structure Nb (mg : Str → Option Value) : Prop where
  isinstance : mg "isinstance" = none
  int : mg "int" = none
  bool : mg "bool" = none
  tuple : mg "tuple" = none
  len : mg "len" = none
  all : mg "all" = none
  any : mg "any" = none
  max : mg "max" = none
  min : mg "min" = none
  list : mg "list" = none
  range : mg "range" = none
  enumerate : mg "enumerate" = none
  sorted : mg "sorted" = none
  set : mg "set" = none
def upT (is : List Nat) : D → List Sl → List Sl
  | .tup ds, ρ => setAll is ds ρ
  | _, ρ => ρ
theorem gs_upT {K : PySem.W.Frag} {n : Nat} (is : List Nat) {ds : List D} (hl : is.length = ds.length) (hn : is.length = n := by rfl) : GS T (gTup K n (gNames is)) (.tup ds) (upT is (.tup ds)) is := by
  subst hn; exact gs_tup is ds hl
theorem en_at {ds : List D} {i : Nat} {d : D} (h : (enD ds)[i]? = some d) : ∃ x, ds[i]? = some x ∧ d = .tup [.int (i : Nat), x] := by
  unfold enD at h
  have hi := at_lt h
  rw [List.length_map, List.length_range] at hi
  rw [List.getElem?_map, List.getElem?_range hi] at h
  refine ⟨ds[i], by simp [hi], ?_⟩
  have := (Option.some.inj h).symm
  rw [this]; simp [hi]
theorem en_mem {ds : List D} {d : D} (h : d ∈ enD ds) : ∃ (i : Nat) (x : D), ds[i]? = some x ∧ d = .tup [.int (i : Nat), x] := by
  obtain ⟨i, hi⟩ := List.mem_iff_getElem?.mp h
  obtain ⟨x, h1, h2⟩ := en_at hi
  exact ⟨i, x, h1, h2⟩
theorem rg_at {n : Int} {i : Nat} {d : D} (h : (rgD n)[i]? = some d) : i < n.toNat ∧ d = .int (i : Nat) := by
  unfold rgD at h
  have hi := at_lt h
  rw [List.length_map, List.length_range] at hi
  rw [List.getElem?_map, List.getElem?_range hi] at h
  exact ⟨hi, (Option.some.inj h).symm⟩
theorem rg_nat (n : Nat) : rgD (n : Int) = (List.range n).map dN := by unfold rgD; simp
theorem map_at' {α β : Type} {xs : List α} {f : α → β} {i : Nat} {d : β} (h : (xs.map f)[i]? = some d) : ∃ x, xs[i]? = some x ∧ d = f x := by
  rw [List.getElem?_map] at h
  cases e : xs[i]? with
  | none => rw [e] at h; cases h
  | some x => rw [e] at h; exact ⟨x, rfl, (Option.some.inj h).symm⟩
section
variable {X : Cx} {ρ : List Sl} {a b c e tg it : Expr} {es : List Expr} {body : List Stmt} {pos p : Pos} {P : Po}
/-- for x in it -/
theorem xt_for1 {ds : List D} {x : Str} (j : Nat) (I : Nat → List Sl → Prop) (hi : EI T X ρ (.Name x p) it ds) (hN : X.N.Nodup)
    (h0 : I 0 ρ) (turn : ∀ i d ρ', ds[i]? = some d → I i ρ' → XS T X (ρ'.set j (.d d)) body { nx := I (i + 1), ct := I (i + 1), bk := P.nx, rt := P.rt, rs := P.rs }) (done : ∀ ρ', I ds.length ρ' → P.nx ρ')
    (hp : PassesOwn (model X.prog X.w) X.A X.env X.xe := by exact PassesOwn.never) (hc : X.calm = true := by rfl) (hj : X.N[j]? = some x := by rfl) (hx : Loc X.env.scope x := by first | exact .inl rfl | exact .inr rfl)
    (hf : X.fn x = true ∨ X.env.scope.names.lookup x = some .local := by first | exact .inl rfl | exact .inr rfl)
    (hs : ∀ x, foldedSetIterable it X.env x = pure x := by intro _; rfl) : XT T X ρ (.For (.Name x p) it body [] pos) P :=
  xt_for I hc hp hi (pg_name hN hj hx hf) (fun d ρ => ρ.set j (.d d)) (fun d _ => gs_name j d) h0 turn done hs
/-- for x, y in it -/
theorem xt_for2 {ds : List D} {x y : Str} {p1 p2 : Pos} {k : Nat} (j m : Nat) (I : Nat → List Sl → Prop) (hi : EI T X ρ (.Tuple [.Name x p1, .Name y p2] k p) it ds) (hN : X.N.Nodup) (hd : ∀ d ∈ ds, ∃ u v, d = .tup [u, v])
    (h0 : I 0 ρ) (turn : ∀ i u v ρ', ds[i]? = some (.tup [u, v]) → I i ρ' → XS T X ((ρ'.set j (.d u)).set m (.d v)) body { nx := I (i + 1), ct := I (i + 1), bk := P.nx, rt := P.rt, rs := P.rs }) (done : ∀ ρ', I ds.length ρ' → P.nx ρ')
    (hp : PassesOwn (model X.prog X.w) X.A X.env X.xe := by exact PassesOwn.never) (hc : X.calm = true := by rfl) (hj : X.N[j]? = some x := by rfl) (hx : Loc X.env.scope x := by first | exact .inl rfl | exact .inr rfl)
    (hf : X.fn x = true ∨ X.env.scope.names.lookup x = some .local := by first | exact .inl rfl | exact .inr rfl)
    (hj2 : X.N[m]? = some y := by rfl) (hx2 : Loc X.env.scope y := by first | exact .inl rfl | exact .inr rfl)
    (hf2 : X.fn y = true ∨ X.env.scope.names.lookup y = some .local := by first | exact .inl rfl | exact .inr rfl)
    (hs : ∀ x, foldedSetIterable it X.env x = pure x := by intro _; rfl) : XT T X ρ (.For (.Tuple [.Name x p1, .Name y p2] k p) it body [] pos) P := by
  refine xt_for I hc hp hi (pg_tup (n := 2) hc (pgs_cons (pg_name hN hj hx hf) (pgs_cons (pg_name hN hj2 hx2 hf2) pgs_nil))) (upT [j, m]) (is := [j, m]) (fun d h => ?_) h0 (fun i d ρ' h hI => ?_) done hs
  · obtain ⟨u, v, rfl⟩ := hd d h
    exact gs_upT [j, m] rfl
  · obtain ⟨u, v, rfl⟩ := hd d (List.mem_of_getElem? h)
    exact turn i u v ρ' h hI
theorem en_pairs {ds : List D} : ∀ d ∈ enD ds, ∃ u v, d = .tup [u, v] := fun d h => by
  obtain ⟨i, x, _, rfl⟩ := en_mem h
  exact ⟨_, _, rfl⟩
theorem xt_try {h0 : ExceptHandler} {hs : List ExceptHandler} (h : XS T X.nox ρ body P) : XT T X ρ (.Try body (h0 :: hs) [] [] pos) P :=
  fun Hb Ob O σ H s Dn k => wpS_of (ps_try_thru0 (wpSs_ps X.nox body)) (h Hb Ob O σ H s Dn k)
theorem xt_pass (h : P.nx ρ) : XT T X ρ (.Pass pos) P := fun Hb Ob O σ H s Dn k => wpS_of ps_pass (k.nx O σ H ρ h s)
end
section
variable {P : Program} {w : World} {K : PySem.W.Frag} {mg : Str → Option Value} {base : Heap}
theorem Fn.mono {j k : Nat} {x : Str} {R : Rel} (F : Fn T P w K mg base j x R) (h : j ≤ k) : Fn T P w K mg base k x R := by
  obtain ⟨f, fd, ps, ok, hmg, hk, hb⟩ := F.ex
  exact ⟨f, fd, ps, ok.mono h, hmg, hk, hb⟩
end
end Fl

/-! FloA -/
namespace Fl
open PySem L2 PyProof.Rows
variable {T : Tbs}
variable {P : Program} {w : World} {K : PySem.W.Frag} {mg : Str → Option Value} {base : Heap}

abbrev RIsInteger : Rel := fun ds out => ∃ i, ds = [.int i] ∧ out = .bl true
theorem sc1 : FnScope ["value"] ["value"] (defScope (topS 1)) := ⟨rfl, rfl, rfl, by decide +kernel, rfl, by decide +kernel, by decide +kernel⟩
theorem fn_is_integer (Dd : Df K mg "is_integer" (topS 1) ["value"]) (B : Nb mg) : Fn T P w K mg base 1 "is_integer" RIsInteger := by
  refine fn_df _ Dd sc1 (by rintro ds out ⟨i, rfl, rfl⟩; rfl) (fun f cdv A outer s H E ds out hr ⟨i, h1, h2⟩ => ?_)
  subst h1 h2
  exact xs_one (xt_ret (ed_and (ed_isi B.isinstance (ed_var 0) B.int (n := "int") (by decide +kernel) rfl) fun _ => ed_one (ed_not (ed_isi B.isinstance (ed_var 0) B.bool (n := "bool") (by decide +kernel) rfl))) rfl)
abbrev RIsIn : Rel := fun ds out => ∃ i a b, ds = [.int i, .int a, .int b] ∧ out = .bl (decide (a ≤ i) && decide (i ≤ b))
theorem sc2 : FnScope ["value", "least", "most"] ["value", "least", "most"] (defScope (topS 2)) := ⟨rfl, rfl, rfl, by decide +kernel, rfl, by decide +kernel, by decide +kernel⟩
theorem fn_is_in (Dd : Df K mg "is_in" (topS 2) ["value", "least", "most"]) (F1 : Fn T P w K mg base 1 "is_integer" RIsInteger) : Fn T P w K mg base 2 "is_in" RIsIn := by
  refine fn_df _ Dd sc2 (by rintro ds out ⟨i, a, b, rfl, rfl⟩; rfl) (fun f cdv A outer s H E ds out hr ⟨i, a, b, h1, h2⟩ => ?_)
  subst h1 h2
  exact xs_one (xt_ret (ed_and (ed_call F1 hr (ea_cons (ed_var 0) ea_nil) ⟨_, rfl, rfl⟩) fun _ => ed_one (ed_chain_le (ed_var 1) (ed_var 0) (ed_var 2))) rfl)
abbrev RIsList : Rel := fun ds out => ∃ xs a b, ds = [.tup xs, .int a, .int b] ∧ out = .bl (decide (a ≤ xs.length) && decide ((xs.length : Int) ≤ b))
theorem sc3 : FnScope ["value", "least", "most"] ["value", "least", "most"] (defScope (topS 3)) := ⟨rfl, rfl, rfl, by decide +kernel, rfl, by decide +kernel, by decide +kernel⟩
theorem fn_is_list (Dd : Df K mg "is_list" (topS 3) ["value", "least", "most"]) (B : Nb mg) : Fn T P w K mg base 1 "is_list" RIsList := by
  refine fn_df _ Dd sc3 (by rintro ds out ⟨i, a, b, rfl, rfl⟩; rfl) (fun f cdv A outer s H E ds out hr ⟨i, a, b, h1, h2⟩ => ?_)
  subst h1 h2
  exact xs_one (xt_ret (ed_and (ed_isi B.isinstance (ed_var 0) B.tuple (n := "tuple") (by decide +kernel) rfl) fun _ => ed_one (ed_chain_le (ed_var 1) (ed_len B.len (ed_var 0) (.t _)) (ed_var 2))) rfl)
abbrev RIsSize : Rel := fun ds out => ∃ p, ds = [dSize p] ∧ out = .bl (sizeOk p)
theorem sc14 : FnScope ["value", "side"] ["value"] (defScope (topS 14)) := ⟨rfl, rfl, rfl, by decide +kernel, rfl, by decide +kernel, by decide +kernel⟩
theorem fn_is_size (Dd : Df K mg "is_size" (topS 14) ["value"]) (B : Nb mg) {t : Tok} (hM : mg "MOST_SIDE" = some (.int 100 t)) (F1 : Fn T P w K mg base 1 "is_list" RIsList) (F2 : Fn T P w K mg base 2 "is_in" RIsIn) : Fn T P w K mg base 3 "is_size" RIsSize := by
  refine fn_df _ Dd sc14 (by rintro ds out ⟨p, rfl, rfl⟩; rfl) (fun f cdv A outer s H E ds out hr ⟨p, h1, h2⟩ => ?_)
  subst h1 h2
  refine xs_one (xt_ret (ed_and (ed_call F1 (hr.mono (by decide)) (ea_cons (ed_var 0) (ea_cons ed_int (ea_cons ed_int ea_nil))) ⟨_, _, _, rfl, rfl⟩) fun _ => ed_one (ed_all (bs := [p.1, p.2].map sideOk) rfl B.all
    (ef_lc (own := [("side", 1)]) (g := gName 1) rfl sc14.nd (ei_tup (ed_var 0)) (blkOk_by (N := ["value", "side"]) (sc := defScope (topS 14)) (by decide +kernel)) [p.1, p.2] D.int rfl (by simp) ⟨fun _ _ _ _ _ => pg_name (i := 1) sc14.nd rfl (.inl rfl)⟩ (fun x ρ => ρ.set 1 (.d (.int x))) (is := [1]) (fun x _ => gs_name 1 _) (by decide) (fun x => .bl (sideOk x))
      (fun x _ _ _ _ _ _ => ed_call F2 hr (ea_cons (ed_var 1) (ea_cons ed_int (ea_cons (ed_gint hM) ea_nil))) ⟨_, _, _, rfl, rfl⟩)).ed (.inl rfl))) ?_)
  simp [sizeOk]

abbrev RNeedSizes : Rel := fun ds out => ∃ zs, ds = [dSizes zs] ∧ SizesOk zs ∧ out = .non
theorem sc17 : FnScope ["sizes", "index", "size"] ["sizes"] (defScope (topS 17)) := ⟨rfl, rfl, rfl, by decide +kernel, rfl, by decide +kernel, by decide +kernel⟩
theorem fn_need_sizes (Dd : Df K mg "need_sizes" (topS 17) ["sizes"]) (B : Nb mg) {t : Tok} (hM : mg "MOST_BLOCKS" = some (.int 8 t)) (F3 : Fn T P w K mg base 1 "is_list" RIsList) (F14 : Fn T P w K mg base 3 "is_size" RIsSize) : Fn T P w K mg base 4 "need_sizes" RNeedSizes := by
  refine fn_df _ Dd sc17 (by rintro ds out ⟨p, rfl, _, rfl⟩; rfl) (fun f cdv A outer s H E ds out hr ⟨zs, h1, hz, h2⟩ => ?_)
  subst h1 h2
  refine xs_ifF ((et_not (et_val (ed_call F3 (hr.mono (by decide)) (ea_cons (ed_var 0) (ea_cons ed_int (ea_cons (ed_gint hM) ea_nil))) ⟨_, _, _, rfl, rfl⟩))).to ?_) (xs_one (xt_for2 1 2 (fun _ r => ∃ a b, r = [.d (dSizes zs), a, b]) (ei_enumT B.enumerate (ed_var 0)) sc17.nd en_pairs ⟨_, _, rfl⟩ ?_ ?_))
  · have := hz.lo; have := hz.hi
    simp; omega
  · rintro i u v ρ' hd ⟨a, b, rfl⟩
    obtain ⟨x, hx, e⟩ := en_at hd
    cases e
    obtain ⟨z, hz1, rfl⟩ := map_at' hx
    refine xs_ifF ((et_not (et_val (ed_call F14 hr (ea_cons (ed_var 2) ea_nil) ⟨_, rfl, rfl⟩))).to ?_) (xs_nil ⟨_, _, rfl⟩)
    rw [hz.ok z (List.mem_of_getElem? hz1)]; rfl
  · intro ρ' _; rfl
abbrev RIsSpot : Rel := fun ds out => ∃ s, ds = [dSpot s] ∧ out = .bl (spotOk s)
theorem sc18 : FnScope ["value", "part"] ["value"] (defScope (topS 18)) := ⟨rfl, rfl, rfl, by decide +kernel, rfl, by decide +kernel, by decide +kernel⟩
theorem cut02 (a b c d : D) : cutD [a, b, c, d] none (some 2) = [a, b] := rfl
theorem cut2e (a b c d : D) : cutD [a, b, c, d] (some 2) none = [c, d] := rfl
theorem EW.to' {X : Cx} {ρ : List Sl} {e : Expr} {x y : Bool} (h : EW T X ρ e x) (q : x = y) : EW T X ρ e y := q ▸ h
theorem fn_is_spot (Dd : Df K mg "is_spot" (topS 18) ["value"]) (B : Nb mg) {t : Tok} (hM : mg "MOST_PLACE" = some (.int 1000 t)) (F3 : Fn T P w K mg base 1 "is_list" RIsList) (F2 : Fn T P w K mg base 2 "is_in" RIsIn) (F14 : Fn T P w K mg base 3 "is_size" RIsSize) : Fn T P w K mg base 4 "is_spot" RIsSpot := by
  refine fn_df _ Dd sc18 (by rintro ds out ⟨p, rfl, rfl⟩; rfl) (fun f cdv A outer s H E ds out hr ⟨p, h1, h2⟩ => ?_)
  subst h1 h2
  refine xs_ifL (x := !([p.l, p.b].map placeOk).all id) ?_ (fun hx => xs_one (xt_ret ed_bl ?_)) (fun hx => xs_one (xt_ret (ed_call F14 (hr.mono (by decide)) (ea_cons ((ed_slT (ed_var 0) (eo_some ed_int) eo_none).to (by rw [cut2e])) ea_nil) ⟨(p.w, p.h), rfl, rfl⟩) ?_))
  · refine EW.et (EW.to' (ew_or (et_not (et_val (ed_call F3 (hr.mono (by decide)) (ea_cons (ed_var 0) (ea_cons ed_int (ea_cons ed_int ea_nil))) ⟨_, _, _, rfl, rfl⟩))) fun _ => ew_or1 (et_not (et_val (ed_all (bs := [p.l, p.b].map placeOk) rfl B.all
      (ef_lc (own := [("part", 1)]) (g := gName 1) rfl sc18.nd (ei_tup ((ed_slT (ed_var 0) eo_none (eo_some ed_int)).to (by rw [cut02]; rfl))) (blkOk_by (N := ["value", "part"]) (sc := defScope (topS 18)) (by decide +kernel)) [p.l, p.b] D.int rfl (by simp) ⟨fun _ _ _ _ _ => pg_name (i := 1) sc18.nd rfl (.inl rfl)⟩ (fun x ρ => ρ.set 1 (.d (.int x))) (is := [1]) (fun x _ => gs_name 1 _) (by decide) (fun x => .bl (placeOk x))
        (fun x _ _ _ _ _ _ => ed_call F2 (hr.mono (by decide)) (ea_cons (ed_var 1) (ea_cons ed_int (ea_cons (ed_gint hM) ea_nil))) ⟨_, _, _, rfl, rfl⟩)).ed (.inl rfl))))) ?_)
    simp
  · simp only [spotOk]
    have : (placeOk p.l && placeOk p.b) = false := by
      simp at hx
      cases h : placeOk p.l
      · rfl
      · simpa [h] using hx
    rw [this]; rfl
  · have : (placeOk p.l && placeOk p.b) = true := by simpa using hx
    simp only [spotOk, this]; rfl
abbrev ROvl : Rel := fun ds out => ∃ s t, ds = [dSpot s, dSpot t] ∧ out = .bl (ovl s t)
theorem sc19 : FnScope ["one", "other", "across"] ["one", "other"] (defScope (topS 19)) := ⟨rfl, rfl, rfl, by decide +kernel, rfl, by decide +kernel, by decide +kernel⟩
section
variable {X : Cx} {ρ : List Sl} {a b c e tg it : Expr} {es : List Expr} {body : List Stmt} {pos p : Pos}
/-- part i of a spot -/
theorem ed_part {s : Spot} (h : ED T X ρ a (.d (dSpot s))) (i : Nat) {x : Int} (hx : ([s.l, s.b, s.w, s.h] : List Int)[i]? = some x := by rfl) {j : Nat} {pos2 : Pos} (hs : PlainIx (.Constant (.int (i : Int)) j pos2) := by exact fun _ _ => rfl) : ED T X ρ (.Subscript a (.Constant (.int (i : Int)) j pos2) pos) (.d (.int x)) :=
  ed_ix h (.t _) ed_int (Int.natCast_nonneg _) (by
    rw [Int.toNat_natCast]
    have : ([D.int s.l, .int s.b, .int s.w, .int s.h] : List D) = ([s.l, s.b, s.w, s.h] : List Int).map D.int := rfl
    rw [this, List.getElem?_map, hx]; rfl) hs
end
theorem fn_do_overlap (Dd : Df K mg "do_overlap" (topS 19) ["one", "other"]) : Fn T P w K mg base 1 "do_overlap" ROvl := by
  refine fn_df _ Dd sc19 (by rintro ds out ⟨s, t, rfl, rfl⟩; rfl) (fun f cdv A outer s H E ds out hr ⟨s, t, h1, h2⟩ => ?_)
  subst h1 h2
  refine xs_then (xt_asg 2 (ed_and (ed_lt (ed_part (ed_var 0) 0) (ed_add (ed_part (ed_var 1) 0) (ed_part (ed_var 1) 2))) fun _ => ed_one (ed_lt (ed_part (ed_var 1) 0) (ed_add (ed_part (ed_var 0) 0) (ed_part (ed_var 0) 2)))) rfl sc19.nd) ?_
  exact xs_one (xt_ret (ed_and (ed_var 2) fun _ => ed_and (ed_lt (ed_part (ed_var 0) 1) (ed_add (ed_part (ed_var 1) 1) (ed_part (ed_var 1) 3))) fun _ => ed_one (ed_lt (ed_part (ed_var 1) 1) (ed_add (ed_part (ed_var 0) 1) (ed_part (ed_var 0) 3)))) rfl)
end Fl

/-! FloN -/
/-! len(set(a tuple of ints)), min(a tuple of ints). -/
namespace Fl
open PySem L2 PyProof.Rows
variable {T : Tbs}
theorem intsAre_of : ∀ {ns : List Int} {us : List Value}, Vals (ns.map V.int) us → PyProof.Rows.IntsAre us ns
  | [], _, .nil => .nil
  | n :: ns, _, .cons r t => by
    obtain ⟨k, rfl⟩ := r
    exact .cons n k (intsAre_of t)
section
variable {X : Cx} {ρ : List Sl} {a b c e : Expr} {pos p p2 q : Pos}
theorem pe_lenSetT {ta : TE} (hc : X.calm = true) (hg : Gl X "len") (hm : X.mg "len" = none) (hg2 : Gl X "set") (hm2 : X.mg "set" = none) (ha : PE X a ta)
    (na : starEach [a] X.env = (false, eval a X.env) :: starEach [] X.env := by rfl) : PE X (.Call (.Name "len" p) [.Call (.Name "set" p2) [a] [] q] [] pos) (fun σ H Q => ta σ H fun x H1 => ∃ (l : Addr) (ns : List Int), x = V.ref l ∧ SqT X.K H1 l (ns.map V.int) ∧ ns.length < 64 ∧ ns.Nodup ∧ Q (.int ns.length) H1) := by
  refine ⟨fun pins s σ H Q I h => ?_⟩
  refine Call_ (ld_blt I hg hm PySem.boot_len ?_)
  refine PyProof.Rows.callWith_builtin1 (PyProof.Rows.args_cons ?_ rfl) rfl rfl
  refine Call_ (ld_blt I hg2 hm2 PyProof.Rows.boot_set ?_)
  refine PyProof.Rows.callWith_type1 (PyProof.Rows.args_cons (thn (ha.run pins s σ H _ I h) fun v s1 ⟨x, H1, I1, r1, q1⟩ => PyProof.Rows.args_nil ?_) na) na rfl
  obtain ⟨l, ns, rfl, hq, h1, hnd, q1⟩ := q1
  cases r1
  obtain ⟨its, r, pl, hz⟩ := I1.tuple hq
  refine call_set_tupI ns (I1.ok.hd hc) (show s1.heap.IsTuple l its.toArray from pl) (by simpa using intsAre_of r) (by unfold scanBound; omega) fun h' tk c hS hcn hk => ?_
  refine PyProof.Rows.args_nil ?_
  obtain ⟨o, es, ep, t, ho, hex, hd, g, nd, hm, hb, hf, hn, _⟩ := hS
  have hlen : es.size = ns.length := by
    have hp : (es.toList.map keyOf).Perm ns := (List.perm_ext_iff_of_nodup nd hnd).mpr fun k => by
      rw [← hm k]; simp
    have := hp.length_eq
    simpa using this
  have I2 : Inv X pins σ H1 { s1 with heap := h', toks := tk } := I1.kept fun b o e => hk b o e
  refine call_len_set ho hex hd hf (by rw [hlen] <;> omega) ⟨.int ns.length, H1, I2.tok _, ⟨_, by rw [hlen]⟩, q1⟩
theorem ed_lenSetT {ns : List Int} (hc : X.calm = true) (hm : X.mg "len" = none) (hm2 : X.mg "set" = none) (h : ED T X ρ a (.d (.tup (ns.map D.int)))) (hl : ns.length < 64) (nd : ns.Nodup) (hg : Gl X "len" := by rfl) (hg2 : Gl X "set" := by rfl)
    (na : starEach [a] X.env = (false, eval a X.env) :: starEach [] X.env := by rfl) : ED T X ρ (.Call (.Name "len" p) [.Call (.Name "set" p2) [a] [] q] [] pos) (.d (.int ns.length)) :=
  fun Hb Ob O σ H s Q k => wpE_of (pe_lenSetT hc hg hm hg2 hm2 (wpE_pe X a) na) <| h Hb Ob O σ H s _ fun v H1 e1 rv => by
    cases rv with
    | @tup b vs _ hr n hd =>
      obtain rfl := hd.ints
      exact ⟨b, ns, rfl, .inl hr, hl, nd, k _ H1 e1 (.int _)⟩
end
end Fl
namespace Fl
open PySem L2 PyProof.Rows
variable {T : Tbs}
/-! ### min of data -/
theorem py_inj {x y : D} (hx : x.nb = true) (hy : y.nb = true) (h : x.py = y.py) : x = y :=
  (eqD_iff x y hx hy).mp (by rw [h]; exact (eqD_iff y y hy hy).mpr rfl)
theorem pys_map : ∀ ds : List D, pys ds = ds.map D.py
  | [] => rfl
  | d :: ds => by rw [pys, pys_map ds]; rfl
/-- the first of the least -/
def minF (x : D) (xs : List D) : D := xs.foldl (fun a y => if PySem.W.dataLt y.py a.py then y else a) x
theorem minF_py (x : D) (xs : List D) : (minF x xs).py = PySem.W.minD x.py (pys xs) := by
  unfold minF PySem.W.minD
  induction xs generalizing x with
  | nil => rfl
  | cons y ys ih =>
    rw [pys, List.foldl_cons, List.foldl_cons, ih]
    congr 1
    split <;> rfl
theorem minF_mem (x : D) (xs : List D) : minF x xs ∈ x :: xs := by
  unfold minF
  induction xs generalizing x with
  | nil => simp
  | cons y ys ih =>
    rw [List.foldl_cons]
    have := ih (if PySem.W.dataLt y.py x.py then y else x)
    rcases List.mem_cons.mp this with h | h
    · rw [h]; split <;> simp
    · simp [h]
theorem nbs_mem {ds : List D} (h : nbs ds = true) : ∀ d ∈ ds, d.nb = true := by
  induction ds with
  | nil => intro d hd; simp at hd
  | cons x xs ih =>
    have h' : x.nb = true ∧ nbs xs = true := by simpa [nbs] using h
    intro d hd
    rcases List.mem_cons.mp hd with e | e
    · rw [e]; exact h'.1
    · exact ih h'.2 d e
def rMinD (K : PySem.W.Frag) (d : D) (ds : List D) : List V → Hp → VK → Prop := fun vs H Q => ∃ (a : Addr) (ws : List V), vs = [V.ref a] ∧ (SqL K H a ws ∨ SqT K H a ws) ∧ DpAll K H ws (pys (d :: ds)) ∧
  ∀ (i : Nat) (v : V), ws[i]? = some v → (d :: ds)[i]? = some (minF d ds) → Q v H
theorem cr_minD {X : Cx} {d : D} {ds : List D} (hc : X.calm = true) (nb : nbs (d :: ds) = true) (al : PySem.W.AlikeAll (pys (d :: ds))) (hu : X.A.units + 1 + PyData.depthAll (pys (d :: ds)) < cLine) : CallR X (.builtin "min") (rMinD X.K d ds) := by
  intro pins s σ H vs us Q I r h
  obtain ⟨a, ws, rfl, hs, hd, q⟩ := h
  rw [Vals.ref1 r]
  have fin : ∀ (its : List Value), Vals ws its → ∀ (i : Nat) (v : Value) (h' : Heap) (tk : Nat) (bs : List Addr), its.toArray[i]? = some v → Reads h' v (PySem.W.minD d.py (pys ds)) bs → (∀ b o, s.heap.get? b = some o → h'.get? b = some o) → EP X pins σ Q v { s with heap := h', toks := tk } := by
    intro its rv i v h' tk bs hi hr hk
    have hi' : its[i]? = some v := by simpa using hi
    have hlt : i < ws.length := by rw [rv.length]; exact at_lt hi'
    have hw : ws[i]? = some ws[i] := by simp [hlt]
    obtain ⟨u, hu1, ru⟩ := rv.get hw
    rw [hi'] at hu1; cases hu1
    have I' := I.kept (t' := tk) hk
    refine ⟨_, H, I', ru, q i _ hw ?_⟩
    have hlen : ws.length = (d :: ds).length := by
      have : ∀ (ws : List V) (xs : List PyData), DpAll X.K H ws xs → ws.length = xs.length := by
        intro ws
        induction ws with
        | nil => intro xs h; cases h; rfl
        | cons w ws ih => intro xs h; cases h with | cons h1 h2 => simp [ih _ h2]
      rw [this _ _ hd, pys_map, List.length_map]
    have hat : ∀ (ws : List V) (xs : List PyData), DpAll X.K H ws xs → ∀ (i : Nat) (w : V) (x : PyData), ws[i]? = some w → xs[i]? = some x → Dp X.K H w x := by
      intro ws
      induction ws with
      | nil => intro xs _ i w x hw; simp at hw
      | cons w ws ih =>
        intro xs h i w' x hw' hx
        cases h with
        | cons h1 h2 => cases i with
          | zero => simp at hw' hx; subst hw'; subst hx; exact h1
          | succ i => exact ih _ h2 i w' x (by simpa using hw') (by simpa using hx)
    have hdi : (d :: ds)[i]? = some ((d :: ds)[i]'(by omega)) := by simp [show i < (d :: ds).length from by omega]
    have dp := hat _ _ hd i _ _ hw (by rw [pys_map, List.getElem?_map, hdi]; rfl)
    obtain ⟨as, r2⟩ := Dp.reads I' _ _ _ dp ru
    rw [← minF_py] at hr
    have hn1 := nbs_mem nb _ (List.mem_of_getElem? hdi)
    have hn2 := nbs_mem nb _ (minF_mem d ds)
    have e := SeqAt.Reads.unique _ _ _ _ _ (D.nb_pl _ hn1).2 r2 hr
    rw [hdi, py_inj hn1 hn2 e]
  rcases hs with hs | hs
  · obtain ⟨its, rv, hl, _⟩ := I.list hs
    obtain ⟨as, ra⟩ := Dp.readsAll I _ _ its hd rv
    exact PySem.W.min_list_data (I.ok.hd hc) hl.isList ra al hu fun i v h' tk bs h1 h2 h3 => fin its rv i v h' tk bs h1 h2 h3
  · obtain ⟨its, rv, hl, _⟩ := I.tuple hs
    obtain ⟨as, ra⟩ := Dp.readsAll I _ _ its hd rv
    exact PySem.W.min_tuple_data (I.ok.hd hc) (show s.heap.IsTuple a its.toArray from hl) ra al hu fun i v h' tk bs h1 h2 h3 => fin its rv i v h' tk bs h1 h2 h3
theorem ed_minD {X : Cx} {ρ : List Sl} {a : Expr} {pos p : Pos} {r : Sl} {d : D} {ds : List D} (hc : X.calm = true) (hm : X.mg "min" = none) (ha : ED T X ρ a r) (hq : Seq r (d :: ds)) (nb : nbs (d :: ds) = true) (al : PySem.W.AlikeAll (pys (d :: ds))) (hu : X.A.units + 1 + PyData.depthAll (pys (d :: ds)) < cLine) (hg : Gl X "min" := by rfl)
    (hs : starEach [a] X.env = (false, eval a X.env) :: starEach [] X.env := by rfl) : ED T X ρ (.Call (.Name "min" p) [a] [] pos) (.d (minF d ds)) :=
  ed_cb (cr_minD hc nb al hu) hg hm (by decide +kernel) ha (fun Ob O H v Q _ rv k => by
    obtain ⟨q, vs, rfl, h2, hd⟩ := rv.seq (K := X.K) hq
    refine ⟨q, vs, rfl, h2, hd.dp (nbs_pls _ nb).1, fun i v hv hm' => ?_⟩
    obtain ⟨v', hv', dv⟩ := hd.get hm'
    rw [hv] at hv'; cases hv'
    exact k _ H (Ex.refl H) dv) (hs := hs)
/-- of two ints -/
theorem minF_ints (i j : Int) : minF (.int i) [.int j] = .int (min i j) := by
  show (if PySem.W.dataLt (.int j) (.int i) then D.int j else D.int i) = _
  rw [PySem.W.dataLt_int]
  by_cases h : j < i
  · rw [if_pos (decide_eq_true h)]; congr 1; omega
  · rw [if_neg (by simpa using h)]; congr 1; omega
theorem ed_min2 {X : Cx} {ρ : List Sl} {a : Expr} {pos p : Pos} {i j : Int} (hc : X.calm = true) (hm : X.mg "min" = none) (ha : ED T X ρ a (.d (.tup [.int i, .int j]))) (hu : X.A.units + 64 < cLine) (hg : Gl X "min" := by rfl)
    (hs : starEach [a] X.env = (false, eval a X.env) :: starEach [] X.env := by rfl) : ED T X ρ (.Call (.Name "min" p) [a] [] pos) (.d (.int (min i j))) :=
  (ed_minD hc hm ha (.t _) rfl ⟨fun x hx y hy => by simp [pys, D.py] at hx hy; rcases hx with rfl | rfl <;> rcases hy with rfl | rfl <;> rfl, fun x hx => by simp [pys, D.py] at hx; rcases hx with rfl | rfl <;> exact fun z => nomatch z⟩ (by
    have : PyData.depthAll (pys [.int i, .int j]) ≤ 60 := by simp [pys, D.py, PyData.depthAll, PyData.depth]
    omega) hg hs).to (by rw [minF_ints])
end Fl
namespace Fl
open PySem L2 PyProof.Rows
variable {T : Tbs}
/-! ### slices -/
theorem sx_lo (n : Nat) : HT.sIx n 0 none = 0 := by simp [HT.sIx]
theorem sx_hi (n : Nat) : HT.sIx n n none = n := by simp [HT.sIx]
theorem sx_at (n m : Nat) (i : Nat) : HT.sIx n m (some (i : Int)) = min i n := by
  simp [HT.sIx]; omega
theorem cut_to {ds : List D} (i : Nat) : cutD ds none (some (i : Int)) = ds.take i := by
  unfold cutD; rw [sx_lo, sx_at]; simp
theorem cut_from {ds : List D} (i : Nat) : cutD ds (some (i : Int)) none = ds.drop i := by
  unfold cutD; rw [sx_hi, sx_at]
  by_cases h : i ≤ ds.length
  · rw [Nat.min_eq_left h]; rw [List.take_of_length_le (by simp)]
  · rw [Nat.min_eq_right (by omega), List.drop_eq_nil_of_le (by omega), List.drop_eq_nil_of_le (by omega)]; simp
theorem cut_mid {ds : List D} (i j : Nat) (h : i ≤ j) : cutD ds (some (i : Int)) (some (j : Int)) = (ds.drop i).take (j - i) := by
  unfold cutD; rw [sx_at, sx_at]
  by_cases h1 : i ≤ ds.length
  · rw [Nat.min_eq_left h1, List.take_eq_take_iff]; simp; omega
  · rw [Nat.min_eq_right (by omega), List.drop_eq_nil_of_le (by omega), List.drop_eq_nil_of_le (by omega)]; simp

/-! ### comprehensions over one name -/
section
variable {X : Cx} {ρ : List Sl} {a b c e it elt : Expr} {pos p spos py : Pos} {scope : Scope} {P : Po}
theorem ef_lc1 {α : Type} {ds : List D} {x : Str} (N : List Str) (sc : Scope) (j : Nat) (hN : N.Nodup) (xs : List α) (enc : α → D) (f : α → D) (hi : EI T X ρ (.Name x p) it ds)
    (hf : ∀ z ∈ xs, EB T X scope ((ρ.set j .any).set j (.d (enc z))) elt (.d (f z))) (hds : ds = xs.map enc := by rfl) (hl : xs.length ≤ 50000 := by (simp; done))
    (ok : blkC N sc scope [(x, j)] = true := by decide +kernel) (hl1 : scope.names.lookup x = some .local := by decide +kernel) (hc : X.calm = true := by rfl) (eN : X.N = N := by rfl) (eS : X.env.scope = sc := by rfl)
    (hs : ∀ x, foldedSetIterable it X.env x = pure x := by intro _; rfl) : EF T X ρ (.ListComp elt [⟨.Name x p, it, [], 0⟩] scope pos) (xs.map f) := by
  have ok' := blkOk_by ok
  have hj : X.N[j]? = some x := by rw [eN]; exact ok'.ix (x, j) (by simp)
  refine ef_lc (own := [(x, j)]) (g := gName j) hc (by rw [eN]; exact hN) hi (by rw [eN, eS]; exact ok') xs enc hds hl (show Tg X scope (.Name x p) (gName j) from ⟨fun _ _ _ _ _ => pg_name (i := j) (by show X.N.Nodup; rw [eN]; exact hN) hj (.inl (lookup_relabel_local hl1)) (.inr (lookup_relabel_local hl1))⟩) (fun z ρ => ρ.set j (.d (enc z))) (is := [j]) (fun z _ => gs_name j _) (by simp) f hf hs
theorem ef_lcIf1 {α : Type} {ds : List D} {x : Str} (N : List Str) (sc : Scope) (j : Nat) (hN : N.Nodup) (xs : List α) (enc : α → D) (pr : α → Bool) (f : α → D) (hi : EI T X ρ (.Name x p) it ds)
    (ht : ∀ z ∈ xs, TB T X scope ((ρ.set j .any).set j (.d (enc z))) c (pr z))
    (hf : ∀ z ∈ xs, pr z = true → EB T X scope ((ρ.set j .any).set j (.d (enc z))) elt (.d (f z))) (hds : ds = xs.map enc := by rfl) (hl : xs.length ≤ 50000 := by (simp; done))
    (ok : blkC N sc scope [(x, j)] = true := by decide +kernel) (hl1 : scope.names.lookup x = some .local := by decide +kernel) (hc : X.calm = true := by rfl) (eN : X.N = N := by rfl) (eS : X.env.scope = sc := by rfl)
    (hs : ∀ x, foldedSetIterable it X.env x = pure x := by intro _; rfl) : EF T X ρ (.ListComp elt [⟨.Name x p, it, [c], 0⟩] scope pos) ((xs.filter pr).map f) := by
  have ok' := blkOk_by ok
  have hj : X.N[j]? = some x := by rw [eN]; exact ok'.ix (x, j) (by simp)
  refine ef_lcIf (own := [(x, j)]) (g := gName j) hc (by rw [eN]; exact hN) hi (by rw [eN, eS]; exact ok') xs enc hds hl (show Tg X scope (.Name x p) (gName j) from ⟨fun _ _ _ _ _ => pg_name (i := j) (by show X.N.Nodup; rw [eN]; exact hN) hj (.inl (lookup_relabel_local hl1)) (.inr (lookup_relabel_local hl1))⟩) (fun z ρ => ρ.set j (.d (enc z))) (is := [j]) (fun z _ => gs_name j _) (by simp) pr f ht hf hs
end
end Fl

/-! FloB -/
namespace Fl
open PySem L2 PyProof.Rows
variable {T : Tbs}
variable {P : Program} {w : World} {K : PySem.W.Frag} {mg : Str → Option Value} {base : Heap}
abbrev RNeedPack : Rel := fun ds out => ∃ Q, ds = [dSpots Q] ∧ PackOk Q ∧ out = .non
theorem sc20 : FnScope ["spots", "index", "spot", "other"] ["spots"] (defScope (topS 20)) := ⟨rfl, rfl, rfl, by decide +kernel, rfl, by decide +kernel, by decide +kernel⟩
theorem fn_need_packing (Dd : Df K mg "need_packing" (topS 20) ["spots"]) (B : Nb mg) {t : Tok} (hM : mg "MOST_BLOCKS" = some (.int 8 t)) (F3 : Fn T P w K mg base 1 "is_list" RIsList) (F18 : Fn T P w K mg base 4 "is_spot" RIsSpot) (F19 : Fn T P w K mg base 1 "do_overlap" ROvl) : Fn T P w K mg base 5 "need_packing" RNeedPack := by
  refine fn_df _ Dd sc20 (by rintro ds out ⟨p, rfl, _, rfl⟩; rfl) (fun f cdv A outer s H E ds out hr ⟨Q, h1, hz, h2⟩ => ?_)
  subst h1 h2
  refine xs_ifF ((et_not (et_val (ed_call F3 (hr.mono (by decide)) (ea_cons (ed_var 0) (ea_cons ed_int (ea_cons (ed_gint hM) ea_nil))) ⟨_, _, _, rfl, rfl⟩))).to ?_) (xs_one (xt_for2 1 2 (fun _ r => ∃ a b, r = [.d (dSpots Q), a, b, .any]) (ei_enumT B.enumerate (ed_var 0)) sc20.nd en_pairs ⟨_, _, rfl⟩ ?_ fun ρ' _ => rfl))
  · have := hz.lo; have := hz.hi
    simp; omega
  · rintro i u v ρ' hd ⟨a, b, rfl⟩
    obtain ⟨x, hx, e⟩ := en_at hd
    cases e
    obtain ⟨z, hz1, rfl⟩ := map_at' hx
    have hm := List.mem_of_getElem? hz1
    have hi := at_lt hz1
    refine xs_ifF (EW.et (EW.to' (ew_or (et_not (et_val (ed_call F18 (hr.mono (by decide)) (ea_cons (ed_var 2) ea_nil) ⟨_, rfl, rfl⟩))) fun _ => ew_or1 (et_val (ed_any (bs := (Q.take i).map (ovl z)) rfl B.any
      (ef_lc1 ["spots", "index", "spot", "other"] (defScope (topS 20)) 3 sc20.nd (Q.take i) dSpot (fun o => .bl (ovl z o)) (ei_tup ((ed_slT (ed_var 0) eo_none (eo_some (ed_var 1))).to (by rw [cut_to, ← List.map_take])))
        (fun o _ _ _ _ _ _ => ed_call F19 (hr.mono (by decide)) (ea_cons (ed_var 2) (ea_cons (ed_var 3) ea_nil)) ⟨_, _, rfl, rfl⟩) rfl (by have := hz.hi; simp; omega)).ed (.inl (by rw [List.map_map]; rfl))))) ?_)) (xs_nil ⟨_, _, rfl⟩)
    rw [hz.ok z hm]
    simp only [Bool.not_true, Bool.false_or, List.any_map, Function.comp_def, id]
    rw [List.any_eq_false]
    intro o ho
    obtain ⟨j, hj⟩ := List.mem_iff_getElem?.mp ho
    have hji : j < i := by
      have := at_lt hj
      rw [List.length_take] at this; omega
    have hj' : Q[j]? = some o := by rwa [List.getElem?_take_of_lt hji] at hj
    have := hz.dj i j hji hi
    rw [spAt_of hz1, spAt_of hj'] at this
    rw [this]; simp
abbrev RIsPack : Rel := fun ds out => ∃ Q, ds = [dSpots Q] ∧ PackOk Q ∧ out = .bl true
theorem sc21 : FnScope ["spots"] ["spots"] (defScope (topS 21)) := ⟨rfl, rfl, rfl, by decide +kernel, rfl, by decide +kernel, by decide +kernel⟩
theorem fn_is_packing (Dd : Df K mg "is_packing" (topS 21) ["spots"]) (F20 : Fn T P w K mg base 5 "need_packing" RNeedPack) : Fn T P w K mg base 6 "is_packing" RIsPack := by
  refine fn_df _ Dd sc21 (by rintro ds out ⟨p, rfl, _, rfl⟩; rfl) (fun f cdv A outer s H E ds out hr ⟨Q, h1, hz, h2⟩ => ?_)
  subst h1 h2
  exact xs_then (xt_try (xs_one (xt_expr (ed_call F20 hr (ea_cons (ed_var 0) ea_nil) ⟨_, rfl, hz, rfl⟩) rfl))) (xs_one (xt_ret ed_bl rfl))
abbrev RBoundsIn : Rel := fun ds out => ∃ Q : List Spot, (ds = [dSpots Q] ∨ ds = [.lst (Q.map dSpot)]) ∧ Q ≠ [] ∧ Q.length ≤ 1000 ∧ out = .tup [.int (wid Q), .int (hei Q)]
theorem sc23 : FnScope ["spots", "spot"] ["spots"] (defScope (topS 23)) := ⟨rfl, rfl, rfl, by decide +kernel, rfl, by decide +kernel, by decide +kernel⟩
theorem fn_bounds_in (Dd : Df K mg "bounds_in" (topS 23) ["spots"]) (B : Nb mg) : Fn T P w K mg base 1 "bounds_in" RBoundsIn := by
  refine fn_df _ Dd sc23 (by rintro ds out ⟨p, rfl | rfl, _, _, rfl⟩ <;> rfl) (fun f cdv A outer s H E ds out hr ⟨Q, h1, hne, hl, h2⟩ => ?_)
  subst h2
  have hw : (Q.map fun s => s.l + s.w) ≠ [] := fun z => hne (List.map_eq_nil_iff.mp z)
  have hh : (Q.map fun s => s.b + s.h) ≠ [] := fun z => hne (List.map_eq_nil_iff.mp z)
  rcases h1 with rfl | rfl
  · refine xs_one (xt_ret (ed_tup (ea_cons (ed_max (ns := Q.map fun s => s.l + s.w) rfl B.max
      (ef_lc1 ["spots", "spot"] (defScope (topS 23)) 1 sc23.nd Q dSpot (fun s => .int (s.l + s.w)) (ei_tup (ed_var 0)) (fun o _ _ _ _ _ _ => ed_add (ed_part (ed_var 1) 0) (ed_part (ed_var 1) 2)) rfl (by omega)).ed (.inl (by rw [List.map_map]; rfl)) hw)
      (ea_cons (ed_max (ns := Q.map fun s => s.b + s.h) rfl B.max
      (ef_lc1 ["spots", "spot"] (defScope (topS 23)) 1 sc23.nd Q dSpot (fun s => .int (s.b + s.h)) (ei_tup (ed_var 0)) (fun o _ _ _ _ _ _ => ed_add (ed_part (ed_var 1) 1) (ed_part (ed_var 1) 3)) rfl (by omega)).ed (.inl (by rw [List.map_map]; rfl)) hh) ea_nil)) (by simp)) rfl)
  · refine xs_one (xt_ret (ed_tup (ea_cons (ed_max (ns := Q.map fun s => s.l + s.w) rfl B.max
      (ef_lc1 ["spots", "spot"] (defScope (topS 23)) 1 sc23.nd Q dSpot (fun s => .int (s.l + s.w)) (ei_list (ed_var 0)) (fun o _ _ _ _ _ _ => ed_add (ed_part (ed_var 1) 0) (ed_part (ed_var 1) 2)) rfl (by omega)).ed (.inl (by rw [List.map_map]; rfl)) hw)
      (ea_cons (ed_max (ns := Q.map fun s => s.b + s.h) rfl B.max
      (ef_lc1 ["spots", "spot"] (defScope (topS 23)) 1 sc23.nd Q dSpot (fun s => .int (s.b + s.h)) (ei_list (ed_var 0)) (fun o _ _ _ _ _ _ => ed_add (ed_part (ed_var 1) 1) (ed_part (ed_var 1) 3)) rfl (by omega)).ed (.inl (by rw [List.map_map]; rfl)) hh) ea_nil)) (by simp)) rfl)
abbrev RBounds : Rel := fun ds out => ∃ Q, ds = [dSpots Q] ∧ PackOk Q ∧ out = .tup [.int (wid Q), .int (hei Q)]
theorem sc22 : FnScope ["spots"] ["spots"] (defScope (topS 22)) := ⟨rfl, rfl, rfl, by decide +kernel, rfl, by decide +kernel, by decide +kernel⟩
theorem PackOk.ne {Q : List Spot} (h : PackOk Q) : Q ≠ [] := fun z => by have := h.lo; rw [z] at this; simp at this
theorem fn_bounds (Dd : Df K mg "bounds" (topS 22) ["spots"]) (F20 : Fn T P w K mg base 5 "need_packing" RNeedPack) (F23 : Fn T P w K mg base 1 "bounds_in" RBoundsIn) : Fn T P w K mg base 6 "bounds" RBounds := by
  refine fn_df _ Dd sc22 (by rintro ds out ⟨p, rfl, _, rfl⟩; rfl) (fun f cdv A outer s H E ds out hr ⟨Q, h1, hz, h2⟩ => ?_)
  subst h1 h2
  exact xs_then (xt_expr (ed_call F20 hr (ea_cons (ed_var 0) ea_nil) ⟨_, rfl, hz, rfl⟩) rfl) (xs_one (xt_ret (ed_call F23 (hr.mono (by decide)) (ea_cons (ed_var 0) ea_nil) ⟨Q, .inl rfl, hz.ne, by have := hz.hi; omega, rfl⟩) rfl))
abbrev RIsOrder : Rel := fun ds out => ∃ n o, ds = [dOrd o, dN n] ∧ IsOrd n o ∧ n ≤ 8 ∧ out = .bl true
theorem sc24 : FnScope ["value", "many", "one"] ["value", "many"] (defScope (topS 24)) := ⟨rfl, rfl, rfl, by decide +kernel, rfl, by decide +kernel, by decide +kernel⟩
theorem fn_is_order (Dd : Df K mg "is_order" (topS 24) ["value", "many"]) (B : Nb mg) (F3 : Fn T P w K mg base 1 "is_list" RIsList) (F2 : Fn T P w K mg base 2 "is_in" RIsIn) : Fn T P w K mg base 3 "is_order" RIsOrder := by
  refine fn_df _ Dd sc24 (by rintro ds out ⟨n, o, rfl, _, _, rfl⟩; rfl) (fun f cdv A outer s H E ds out hr ⟨n, o, h1, ⟨z1, z2, z3⟩, hn, h2⟩ => ?_)
  subst h1 h2
  refine xs_one (xt_ret (ed_and (ed_call F3 (hr.mono (by decide)) (ea_cons (ed_var 0) (ea_cons (ed_var 1) (ea_cons (ed_var 1) ea_nil))) ⟨_, _, _, rfl, rfl⟩) fun _ => ed_and (ed_all (bs := o.map fun i : Nat => decide ((0 : Int) ≤ (i : Nat)) && decide (((i : Nat) : Int) ≤ n - 1)) rfl B.all
      (ef_lc1 ["value", "many", "one"] (defScope (topS 24)) 2 sc24.nd o dN (fun i : Nat => .bl (decide ((0 : Int) ≤ (i : Nat)) && decide (((i : Nat) : Int) ≤ n - 1))) (ei_tup (ed_var 0))
        (fun i _ _ _ _ _ _ => ed_call F2 hr (ea_cons (ed_var 2) (ea_cons ed_int (ea_cons (ed_sub (ed_var 1) ed_int) ea_nil))) ⟨_, _, _, rfl, rfl⟩) rfl (by omega)).ed (.inl (by rw [List.map_map]; rfl)))
      fun _ => ed_one (ed_eqI (ed_lenSetT (ns := o.map fun i : Nat => (i : Int)) rfl B.len B.set ((ed_var 0).to (by rw [List.map_map]; rfl)) (by simp; omega) ?_) (ed_var 1))) ?_)
  · exact List.Pairwise.map _ (fun a b h e => h (Int.ofNat.inj e)) z3
  · show D.bl _ = D.bl true
    congr 1
    simp [z1]
    intro i hi
    have := z2 i hi
    omega
abbrev RNeedOrders : Rel := fun ds out => ∃ zs o1 o2, ds = [dSizes zs, dOrd o1, dOrd o2] ∧ SizesOk zs ∧ IsOrd zs.length o1 ∧ IsOrd zs.length o2 ∧ out = .non
theorem sc25 : FnScope ["sizes", "first", "second"] ["sizes", "first", "second"] (defScope (topS 25)) := ⟨rfl, rfl, rfl, by decide +kernel, rfl, by decide +kernel, by decide +kernel⟩
theorem ed_lenN {X : Cx} {ρ : List Sl} {a : Expr} {pos p : Pos} {r : Sl} {ds : List D} {n : Nat} (hm : X.mg "len" = none) (ha : ED T X ρ a r) (hq : Seq r ds) (hn : ds.length = n) (hg : Gl X "len" := by rfl) (hs : starEach [a] X.env = (false, eval a X.env) :: starEach [] X.env := by rfl) : ED T X ρ (.Call (.Name "len" p) [a] [] pos) (.d (dN n)) := by
  subst hn; exact ed_len hm ha hq hg hs
theorem fn_need_orders (Dd : Df K mg "need_orders" (topS 25) ["sizes", "first", "second"]) (B : Nb mg) (F17 : Fn T P w K mg base 4 "need_sizes" RNeedSizes) (F24 : Fn T P w K mg base 3 "is_order" RIsOrder) : Fn T P w K mg base 5 "need_orders" RNeedOrders := by
  refine fn_df _ Dd sc25 (by rintro ds out ⟨n, o, q, rfl, _, _, _, rfl⟩; rfl) (fun f cdv A outer s H E ds out hr ⟨zs, o1, o2, h1, hz, g1, g2, h2⟩ => ?_)
  subst h1 h2
  have hl := hz.hi
  refine xs_then (xt_expr (ed_call F17 hr (ea_cons (ed_var 0) ea_nil) ⟨_, rfl, hz, rfl⟩) rfl) (xs_ifF (EW.et (EW.to' (ew_or (et_not (et_val (ed_call F24 (hr.mono (by decide)) (ea_cons (ed_var 1) (ea_cons (ed_lenN B.len (ed_var 0) (.t _) (List.length_map _)) ea_nil)) ⟨_, _, rfl, g1, hl, rfl⟩))) fun _ =>
    ew_or1 (et_not (et_val (ed_call F24 (hr.mono (by decide)) (ea_cons (ed_var 2) (ea_cons (ed_lenN B.len (ed_var 0) (.t _) (List.length_map _)) ea_nil)) ⟨_, _, rfl, g2, hl, rfl⟩)))) rfl)) (xs_nil rfl))
end Fl

/-! FloO -/
namespace Fl
open PySem L2 PyProof.Rows
variable {T : Tbs}
section
variable {X : Cx} {ρ : List Sl} {a b c e it elt : Expr} {pos p spos py : Pos} {scope : Scope} {P : Po}
theorem tg_name {x : Str} {j : Nat} (hN : X.N.Nodup) (hj : X.N[j]? = some x) (hl1 : scope.names.lookup x = some .local) : Tg X scope (.Name x p) (gName j) :=
  ⟨fun _ _ _ _ _ => pg_name (i := j) hN hj (.inl (lookup_relabel_local hl1)) (.inr (lookup_relabel_local hl1))⟩
theorem xt_setLc1 {α : Type} {ds : List D} {x y : Str} (N : List Str) (sc : Scope) (i j : Nat) (hN : N.Nodup) (xs : List α) (enc : α → D) (f : α → D) (hi : EI T X ρ (.Name x p) it ds)
    (hf : ∀ z ∈ xs, EB T X scope ((ρ.set j .any).set j (.d (enc z))) elt (.d (f z))) (q : P.nx (ρ.set i (.d (.lst (xs.map f))))) (hds : ds = xs.map enc := by rfl) (hl : xs.length ≤ 50000 := by (simp; done))
    (ok : blkC N sc scope [(x, j)] = true := by decide +kernel) (hl1 : scope.names.lookup x = some .local := by decide +kernel) (hc : X.calm = true := by rfl) (eN : X.N = N := by rfl) (eS : X.env.scope = sc := by rfl)
    (hy : X.N[i]? = some y := by rfl) (hyl : X.env.scope.names.lookup y = some .local := by rfl)
    (hsw : swapsWith (.ListComp elt [⟨.Name x p, it, [], 0⟩] scope pos) (some (.Name y py)) spos.line X.env = pure true := by exact sw_true rfl rfl rfl (by decide +kernel)) (hs : ∀ x, foldedSetIterable it X.env x = pure x := by intro _; rfl) : XT T X ρ (.Assign [.Name y py] (.ListComp elt [⟨.Name x p, it, [], 0⟩] scope pos) spos) P := by
  have ok' := blkOk_by ok
  have hj : X.N[j]? = some x := by rw [eN]; exact ok'.ix (x, j) (by simp)
  exact xt_setLc (own := [(x, j)]) (g := gName j) i hc (by rw [eN]; exact hN) hi (by rw [eN, eS]; exact ok') xs enc hds hl (tg_name (by rw [eN]; exact hN) hj hl1) (fun z ρ => ρ.set j (.d (enc z))) (is := [j]) (fun z _ => gs_name j _) (by simp) f hf q hy hyl hsw hs
theorem xt_setLcIf1 {α : Type} {ds : List D} {x y : Str} (N : List Str) (sc : Scope) (i j : Nat) (hN : N.Nodup) (xs : List α) (enc : α → D) (pr : α → Bool) (f : α → D) (hi : EI T X ρ (.Name x p) it ds)
    (ht : ∀ z ∈ xs, TB T X scope ((ρ.set j .any).set j (.d (enc z))) c (pr z))
    (hf : ∀ z ∈ xs, pr z = true → EB T X scope ((ρ.set j .any).set j (.d (enc z))) elt (.d (f z))) (q : P.nx (ρ.set i (.d (.lst ((xs.filter pr).map f))))) (hds : ds = xs.map enc := by rfl) (hl : xs.length ≤ 50000 := by (simp; done))
    (ok : blkC N sc scope [(x, j)] = true := by decide +kernel) (hl1 : scope.names.lookup x = some .local := by decide +kernel) (hc : X.calm = true := by rfl) (eN : X.N = N := by rfl) (eS : X.env.scope = sc := by rfl)
    (hy : X.N[i]? = some y := by rfl) (hyl : X.env.scope.names.lookup y = some .local := by rfl)
    (hsw : swapsWith (.ListComp elt [⟨.Name x p, it, [c], 0⟩] scope pos) (some (.Name y py)) spos.line X.env = pure true := by exact sw_true rfl rfl rfl (by decide +kernel)) (hs : ∀ x, foldedSetIterable it X.env x = pure x := by intro _; rfl) : XT T X ρ (.Assign [.Name y py] (.ListComp elt [⟨.Name x p, it, [c], 0⟩] scope pos) spos) P := by
  have ok' := blkOk_by ok
  have hj : X.N[j]? = some x := by rw [eN]; exact ok'.ix (x, j) (by simp)
  exact xt_setLcIf (own := [(x, j)]) (g := gName j) i hc (by rw [eN]; exact hN) hi (by rw [eN, eS]; exact ok') xs enc hds hl (tg_name (by rw [eN]; exact hN) hj hl1) (fun z ρ => ρ.set j (.d (enc z))) (is := [j]) (fun z _ => gs_name j _) (by simp) pr f ht hf q hy hyl hsw hs
/-- y = [elt for x in it for x1 in range(a) if c] -/
theorem xt_setLc2r {α : Type} {ds : List D} {x x1 y : Str} {p1 p2 pos2 : Pos} {m : Nat} (N : List Str) (sc : Scope) (i j k : Nat) (hN : N.Nodup) (xs : List α) (enc : α → D) (pr : α → Nat → Bool) (f : α → Nat → D) (hi : EI T X ρ (.Name x p) it ds) (hm : X.mg "range" = none)
    (hno : ∀ x ∈ xs, ∀ l, NoOwn l ((((ρ.set k .any).set j .any).set j (.d (enc x))))) (ha : ∀ z ∈ xs, EB T X scope (((ρ.set k .any).set j .any).set j (.d (enc z))) a (.d (dN m)))
    (ht : ∀ z ∈ xs, ∀ n, n < m → TB T X scope (((((ρ.set k .any).set j .any).set j (.d (enc z))).set k .any).set k (.d (dN n))) c (pr z n))
    (hf : ∀ z ∈ xs, ∀ n, n < m → pr z n = true → EB T X scope (((((ρ.set k .any).set j .any).set j (.d (enc z))).set k .any).set k (.d (dN n))) elt (.d (f z n))) (q : P.nx (ρ.set i (.d (.lst (xs.flatMap fun z => ((List.range m).filter (pr z)).map (f z)))))) (hl : xs.length * m ≤ 50000) (hm5 : m ≤ 1000) (hds : ds = xs.map enc := by rfl)
    (ok : blkC N sc scope [(x, j), (x1, k)] = true := by decide +kernel) (hl1 : scope.names.lookup x = some .local := by decide +kernel) (hl2 : scope.names.lookup x1 = some .local := by decide +kernel) (hc : X.calm = true := by rfl) (eN : X.N = N := by rfl) (eS : X.env.scope = sc := by rfl)
    (hy : X.N[i]? = some y := by rfl) (hyl : X.env.scope.names.lookup y = some .local := by rfl)
    (hsw : swapsWith (.ListComp elt [⟨.Name x p, it, [], 0⟩, ⟨.Name x1 p1, .Call (.Name "range" p2) [a] [] pos2, [c], 0⟩] scope pos) (some (.Name y py)) spos.line X.env = pure true := by exact sw_true rfl rfl rfl (by decide +kernel)) (hs : ∀ x, foldedSetIterable it X.env x = pure x := by intro _; rfl) (hs1 : ∀ env x, foldedSetIterable (.Call (.Name "range" p2) [a] [] pos2) env x = pure x := by intro _ _; rfl)
    (hgl : ∀ (s : Shared) (H : Hp) (C : Addr) (cl : List (Str × Addr)) (fp : List Addr), Gl (X.blk s H scope (compEnvC scope cl C X.env) fp) "range" := by exact fun _ _ _ _ _ => rfl)
    (hsa : ∀ (s : Shared) (H : Hp) (C : Addr) (cl : List (Str × Addr)) (fp : List Addr), starEach [a] (X.blk s H scope (compEnvC scope cl C X.env) fp).env = (false, eval a (X.blk s H scope (compEnvC scope cl C X.env) fp).env) :: starEach [] (X.blk s H scope (compEnvC scope cl C X.env) fp).env := by exact fun _ _ _ _ _ => rfl)
    (hsb : ∀ (s : Shared) (H : Hp) (C : Addr) (cl : List (Str × Addr)) (fp : List Addr), starEach [a] (X.blk s H scope (compEnvC scope cl C X.env) fp).env = [(false, eval a (X.blk s H scope (compEnvC scope cl C X.env) fp).env)] := by exact fun _ _ _ _ _ => rfl) :
    XT T X ρ (.Assign [.Name y py] (.ListComp elt [⟨.Name x p, it, [], 0⟩, ⟨.Name x1 p1, .Call (.Name "range" p2) [a] [] pos2, [c], 0⟩] scope pos) spos) P := by
  have ok' := blkOk_by ok
  have hj : X.N[j]? = some x := by rw [eN]; exact ok'.ix (x, j) (by simp)
  have hk : X.N[k]? = some x1 := by rw [eN]; exact ok'.ix (x1, k) (by simp)
  have nd : X.N.Nodup := by rw [eN]; exact hN
  refine xt_setLc2 (own := [(x, j), (x1, k)]) (g := gName j) (g1 := gName k) (is := [j]) (is1 := [k]) (vs1 := [k]) i hc nd hi (by rw [eN, eS]; exact ok') (by simp) xs enc hds (tg_name nd hj hl1) (fun z ρ => ρ.set j (.d (enc z))) (fun z _ => gs_name j _) (by simp)
    (fun z hz l => ?_) (List.range m) dN (ib_range hm hgl hsa hsb) (fun z hz => ?_) (tg_name nd hk hl2) (fun n ρ => ρ.set k (.d (dN n))) (fun n _ => gs_name k _) (by simp) (by rw [List.length_range]; exact hl) pr f (fun z hz n hn => ?_) (fun z hz n hn hp => ?_) q hy hyl hsw hs hs1
  · exact hno z hz l
  · rw [← rg_nat]
    exact src_range (EB.sem (ha z hz)) (by omega) (by omega)
  · exact ht z hz n (List.mem_range.mp hn)
  · exact hf z hz n (List.mem_range.mp hn) hp
end

/-! ### comparisons as tests -/
section
variable {X : Cx} {ρ : List Sl} {a b c e : Expr} {pos p : Pos}
theorem et_bin {op : CmpOp} {r : R2} {x y : Sl} {t : Bool} (ho : OpR X (compareOp op) r) (ha : ED T X ρ a x) (hb : ED T X ρ b y) (hm : behindInMarks op b = false)
    (hr : ∀ Ob O H v u (Q : VK), (∀ p, O p → H p ≠ none) → ROk Ob O H v x → ROk Ob O H u y → (∀ H2, Ex T H H2 → Q (.bl t) H2) → r v u H Q) : ET T X ρ (.Compare a [op] [b] pos) t :=
  fun Hb Ob O σ H s Q k => wpT_of (pt_cmpR ho (wpE_pe X a) (wpE_pe X b) hm) <|
    ha Hb Ob O σ H s _ fun v H1 e1 rv => hb Hb Ob O σ H1 (s.on e1) _ fun u H2 e2 ru => hr Ob O H2 v u _ ((s.on e1).on e2).oin (rv.ex e2) ru fun H3 e3 => ⟨t, rfl, k H3 (e1.trans (e2.trans e3))⟩
theorem et_lt {i j : Int} (ha : ED T X ρ a (.d (.int i))) (hb : ED T X ρ b (.d (.int j))) : ET T X ρ (.Compare a [.Lt] [b] pos) (decide (i < j)) :=
  et_bin op_lt ha hb (nomark _) fun Ob O H v u Q _ rv ru k => ⟨i, j, Den.int_inv rv, Den.int_inv ru, k H (Ex.refl H)⟩
theorem et_le {i j : Int} (ha : ED T X ρ a (.d (.int i))) (hb : ED T X ρ b (.d (.int j))) : ET T X ρ (.Compare a [.LtE] [b] pos) (decide (i ≤ j)) :=
  et_bin op_le ha hb (nomark _) fun Ob O H v u Q _ rv ru k => ⟨i, j, Den.int_inv rv, Den.int_inv ru, k H (Ex.refl H)⟩
theorem et_gt {i j : Int} (ha : ED T X ρ a (.d (.int i))) (hb : ED T X ρ b (.d (.int j))) : ET T X ρ (.Compare a [.Gt] [b] pos) (decide (j < i)) :=
  et_bin op_gt ha hb (nomark _) fun Ob O H v u Q _ rv ru k => ⟨i, j, Den.int_inv rv, Den.int_inv ru, k H (Ex.refl H)⟩
theorem et_ge {i j : Int} (ha : ED T X ρ a (.d (.int i))) (hb : ED T X ρ b (.d (.int j))) : ET T X ρ (.Compare a [.GtE] [b] pos) (decide (j ≤ i)) :=
  et_bin op_ge ha hb (nomark _) fun Ob O H v u Q _ rv ru k => ⟨i, j, Den.int_inv rv, Den.int_inv ru, k H (Ex.refl H)⟩
theorem et_eqI {i j : Int} (ha : ED T X ρ a (.d (.int i))) (hb : ED T X ρ b (.d (.int j))) : ET T X ρ (.Compare a [.Eq] [b] pos) (decide (i = j)) :=
  et_bin op_eq ha hb (nomark _) fun Ob O H v u Q _ rv ru k => by
    cases Den.int_inv rv; cases Den.int_inv ru
    exact ⟨scal_ints i j, by rw [show decide (V.int i = V.int j) = decide (i = j) from by simp]; exact k H (Ex.refl H)⟩
theorem et_neI {i j : Int} (ha : ED T X ρ a (.d (.int i))) (hb : ED T X ρ b (.d (.int j))) : ET T X ρ (.Compare a [.NotEq] [b] pos) (!decide (i = j)) :=
  et_bin op_ne ha hb (nomark _) fun Ob O H v u Q _ rv ru k => by
    cases Den.int_inv rv; cases Den.int_inv ru
    exact ⟨scal_ints i j, by rw [show decide (V.int i = V.int j) = decide (i = j) from by simp]; exact k H (Ex.refl H)⟩
theorem et_isN {j : Nat} {pos' : Pos} {d : D} (h : ED T X ρ a (.d d)) : ET T X ρ (.Compare a [.Is] [.Constant .none j pos'] pos) d.isNon :=
  fun Hb Ob O σ H s Q k => wpT_of (pt_cmp (pc_isN (wpE_pe X a)) rfl) <| h Hb Ob O σ H s _ fun v H1 e1 rv => ⟨d.isNon, by rw [Den.isNon rv], k H1 e1⟩
theorem et_notIn {k : Int} {r : Sl} {ns : List Int} (ha : ED T X ρ a (.d (.int k))) (hb : ED T X ρ b r) (hq : Seq r (ns.map D.int)) (hm : behindInMarks .NotIn b = false := by rfl) : ET T X ρ (.Compare a [.NotIn] [b] pos) (!decide (k ∈ ns)) :=
  et_bin op_notIn_seq ha hb hm fun Ob O H v u Q _ rv ru q => by
    obtain rfl := Den.int_inv rv
    obtain ⟨p, vs, rfl, h2, hd⟩ := ru.seq (K := X.K) hq
    obtain rfl := hd.ints
    refine ⟨p, _, rfl, h2, rfl, flat_ints ns, ?_⟩
    rw [inV_ints]
    exact q H (Ex.refl H)
theorem et_eqD {x y : D} (hu : X.A.units + 64 < cLine) (ha : ED T X ρ a (.d x)) (hb : ED T X ρ b (.d y)) (nx : x.nb = true) (ny : y.nb = true) (dx : x.py.depth ≤ 64) (dy : y.py.depth ≤ 64) : ET T X ρ (.Compare a [.Eq] [b] pos) (eqD x y) :=
  et_bin (op_eqD hu) ha hb (nomark _) fun Ob O H v u Q _ rv ru k => ⟨x.py, y.py, Den.dp rv (D.nb_pl x nx).1, Den.dp ru (D.nb_pl y ny).1, shaped_nb nx dx, shaped_nb ny dy, k H (Ex.refl H)⟩
theorem et_neD {x y : D} (hu : X.A.units + 64 < cLine) (ha : ED T X ρ a (.d x)) (hb : ED T X ρ b (.d y)) (nx : x.nb = true) (ny : y.nb = true) (dx : x.py.depth ≤ 64) (dy : y.py.depth ≤ 64) : ET T X ρ (.Compare a [.NotEq] [b] pos) (!eqD x y) :=
  et_bin (op_neD hu) ha hb (nomark _) fun Ob O H v u Q _ rv ru k => ⟨x.py, y.py, Den.dp rv (D.nb_pl x nx).1, Den.dp ru (D.nb_pl y ny).1, shaped_nb nx dx, shaped_nb ny dy, k H (Ex.refl H)⟩
end
end Fl

/-! FloC -/
namespace Fl
open PySem L2 PyProof.Rows
variable {T : Tbs}
variable {P : Program} {w : World} {K : PySem.W.Frag} {mg : Str → Option Value} {base : Heap}
abbrev dBl (b : Bool) : D := .bl b
abbrev RRelation : Rel := fun ds out => ∃ s t : Spot, ds = [dSpot s, dSpot t] ∧ out = .tup [.bl (decide (s.l + s.w ≤ t.l)), .bl (decide (t.l + t.w ≤ s.l)), .bl (decide (s.b + s.h ≤ t.b)), .bl (decide (t.b + t.h ≤ s.b))]
theorem sc28 : FnScope ["one", "other", "left", "right"] ["one", "other"] (defScope (topS 28)) := ⟨rfl, rfl, rfl, by decide +kernel, rfl, by decide +kernel, by decide +kernel⟩
theorem fn_relation (Dd : Df K mg "relation" (topS 28) ["one", "other"]) : Fn T P w K mg base 1 "relation" RRelation := by
  refine fn_df _ Dd sc28 (by rintro ds out ⟨s, t, rfl, rfl⟩; rfl) (fun f cdv A outer s0 H E ds out hr ⟨s, t, h1, h2⟩ => ?_)
  subst h1 h2
  refine xs_then (xt_par 2 3 (ed_le (ed_add (ed_part (ed_var 0) 0) (ed_part (ed_var 0) 2)) (ed_part (ed_var 1) 0)) (ed_le (ed_add (ed_part (ed_var 1) 0) (ed_part (ed_var 1) 2)) (ed_part (ed_var 0) 0)) rfl rfl sc28.nd) ?_
  exact xs_one (xt_ret (ed_tup (ea_cons (ed_var 2) (ea_cons (ed_var 3) (ea_cons (ed_le (ed_add (ed_part (ed_var 0) 1) (ed_part (ed_var 0) 3)) (ed_part (ed_var 1) 1)) (ea_cons (ed_le (ed_add (ed_part (ed_var 1) 1) (ed_part (ed_var 1) 3)) (ed_part (ed_var 0) 1)) ea_nil)))) (by simp)) rfl)
abbrev dZ (z : Bool) : D := .int (if z then 0 else 1)
abbrev RIsAhead : Rel := fun ds out => ∃ (s t : Spot) (z : Bool), ds = [dSpot s, dSpot t, dZ z] ∧ out = .bl (ahead z s t)
theorem sc29 : FnScope ["one", "other", "number", "left", "right", "low", "high", "up", "down"] ["one", "other", "number"] (defScope (topS 29)) := ⟨rfl, rfl, rfl, by decide +kernel, rfl, by decide +kernel, by decide +kernel⟩
theorem fn_is_ahead (Dd : Df K mg "is_ahead" (topS 29) ["one", "other", "number"]) (F28 : Fn T P w K mg base 1 "relation" RRelation) : Fn T P w K mg base 2 "is_ahead" RIsAhead := by
  refine fn_df _ Dd sc29 (by rintro ds out ⟨s, t, z, rfl, rfl⟩; rfl) (fun f cdv A outer s0 H E ds out hr ⟨s, t, z, h1, h2⟩ => ?_)
  subst h1 h2
  refine xs_then (xt_unpack (n := 4) [3, 4, 5, 6] (ed_call F28 hr (ea_cons (ed_var 0) (ea_cons (ed_var 1) ea_nil)) ⟨_, _, rfl, rfl⟩) rfl rfl
    (pg_tup rfl (pgs_cons (pg_name (i := 3) sc29.nd rfl (.inl rfl)) (pgs_cons (pg_name (i := 4) sc29.nd rfl (.inl rfl)) (pgs_cons (pg_name (i := 5) sc29.nd rfl (.inl rfl)) (pgs_cons (pg_name (i := 6) sc29.nd rfl (.inl rfl)) pgs_nil)))))) ?_
  refine xs_then (xt_unpack (n := 2) (ds := if z then [.bl (decide (t.b + t.h ≤ s.b)), .bl (decide (s.b + s.h ≤ t.b))] else [.bl (decide (s.b + s.h ≤ t.b)), .bl (decide (t.b + t.h ≤ s.b))]) [7, 8]
    (ed_if (x := z) ((et_eqI (ed_var 2) ed_int).to (by cases z <;> rfl)) (fun hz => by subst hz; exact ed_tup (ea_cons (ed_var 6) (ea_cons (ed_var 5) ea_nil)) (by simp)) (fun hz => by subst hz; exact ed_tup (ea_cons (ed_var 5) (ea_cons (ed_var 6) ea_nil)) (by simp))) rfl (by cases z <;> rfl)
    (pg_tup rfl (pgs_cons (pg_name (i := 7) sc29.nd rfl (.inl rfl)) (pgs_cons (pg_name (i := 8) sc29.nd rfl (.inl rfl)) pgs_nil)))) ?_
  cases z
  · exact xs_one (xt_ret (ed_and (ed_or (ed_var 3) fun _ => ed_one (ed_var 7)) fun _ => ed_and (ed_not (ed_var 4)) fun _ => ed_one (ed_not (ed_var 8))) rfl)
  · exact xs_one (xt_ret (ed_and (ed_or (ed_var 3) fun _ => ed_one (ed_var 7)) fun _ => ed_and (ed_not (ed_var 4)) fun _ => ed_one (ed_not (ed_var 8))) rfl)
abbrev RRestOn : Rel := fun ds out => ∃ (Q : List Spot) (l w : Int), ds = [.lst (Q.map dSpot), .int l, .int w] ∧ Q.length ≤ 1000 ∧ out = .int (restOn Q l w)
theorem sc37 : FnScope ["spots", "left", "width", "some", "spot"] ["spots", "left", "width"] (defScope (topS 37)) := ⟨rfl, rfl, rfl, by decide +kernel, rfl, by decide +kernel, by decide +kernel⟩
theorem fn_rest_on (Dd : Df K mg "rest_on" (topS 37) ["spots", "left", "width"]) (B : Nb mg) : Fn T P w K mg base 1 "rest_on" RRestOn := by
  refine fn_df _ Dd sc37 (by rintro ds out ⟨s, t, z, rfl, _, rfl⟩; rfl) (fun f cdv A outer s0 H E ds out hr ⟨Q, l, wd, h1, hl, h2⟩ => ?_)
  subst h1 h2
  refine xs_then (xt_setLcIf1 ["spots", "left", "width", "some", "spot"] (defScope (topS 37)) 3 4 sc37.nd Q dSpot (fun s => decide (s.l < l + wd) && decide (l < s.l + s.w)) (fun s : Spot => .int (s.b + s.h)) (ei_list (ed_var 0))
    (fun s _ _ _ _ _ _ => EW.et (ew_and (et_lt (ed_part (ed_var 4) 0) (ed_add (ed_var 1) (ed_var 2))) fun _ => ew_and1 (et_lt (ed_var 1) (ed_add (ed_part (ed_var 4) 0) (ed_part (ed_var 4) 2)))))
    (fun s _ _ _ _ _ _ _ => ed_add (ed_part (ed_var 4) 1) (ed_part (ed_var 4) 3)) rfl rfl (by omega)) ?_
  refine xs_one (xt_ret (ed_max (ns := 0 :: (Q.filter fun s => decide (s.l < l + wd) && decide (l < s.l + s.w)).map fun s => s.b + s.h) rfl B.max (ef_lst (ea_cons ed_int (ea_star (ed_var 3) (.l _) ea_nil)) ?_).ed (.inl ?_) (by simp)) rfl)
  · have := List.length_filter_le (fun s : Spot => decide (s.l < l + wd) && decide (l < s.l + s.w)) Q
    simp; omega
  · rw [List.append_nil, List.map_cons, List.map_map]; rfl
/-! bushes -/
def Bu.dep : Bu → Nat
  | .nil => 0
  | .node _ l r => max l.dep r.dep + 1
abbrev RBlocksOf (d : Nat) : Rel := fun ds out => ∃ b : Bu, ds = [dBu b] ∧ b.dep ≤ d ∧ (∀ n ∈ b.ns, n ≤ 99) ∧ b.ns.length ≤ 1000 ∧ out = .lst (b.ns.map dN)
theorem sc35 : FnScope ["bush"] ["bush"] (defScope (topS 35)) := ⟨rfl, rfl, rfl, by decide +kernel, rfl, by decide +kernel, by decide +kernel⟩
theorem fn_blocks_of (Dd : Df K mg "blocks_of" (topS 35) ["bush"]) (B : Nb mg) (F3 : Fn T P w K mg base 1 "is_list" RIsList) (F2 : Fn T P w K mg base 2 "is_in" RIsIn) : ∀ d, Fn T P w K mg base (d + 3) "blocks_of" (RBlocksOf d)
  | 0 => by
    refine fn_df _ Dd sc35 (by rintro ds out ⟨b, rfl, _, _, _, rfl⟩; rfl) (fun f cdv A outer s0 H E ds out hr ⟨b, h1, hd, hn, hl, h2⟩ => ?_)
    subst h1 h2
    cases b with
    | nil => exact xs_ifL (et_isN (ed_var 0)) (fun _ => xs_one (xt_ret (ef_lst ea_nil (by simp)).ed rfl)) fun z => Bool.noConfusion z
    | node n l r => simp [Bu.dep] at hd
  | d + 1 => by
    have F := fn_blocks_of Dd B F3 F2 d
    refine fn_df _ Dd sc35 (by rintro ds out ⟨b, rfl, _, _, _, rfl⟩; rfl) (fun f cdv A outer s0 H E ds out hr ⟨b, h1, hd, hn, hl, h2⟩ => ?_)
    subst h1 h2
    cases b with
    | nil => exact xs_ifL (et_isN (ed_var 0)) (fun _ => xs_one (xt_ret (ef_lst ea_nil (by simp)).ed rfl)) fun z => Bool.noConfusion z
    | node n l r =>
      have hd' : max l.dep r.dep ≤ d := by simpa [Bu.dep] using hd
      have hn0 : n ≤ 99 := hn n (by simp [Bu.ns])
      have hnl : ∀ m ∈ l.ns, m ≤ 99 := fun m hm => hn m (by simp [Bu.ns, hm])
      have hnr : ∀ m ∈ r.ns, m ≤ 99 := fun m hm => hn m (by simp [Bu.ns, hm])
      have hl' : l.ns.length + r.ns.length + 1 ≤ 1000 := by simpa [Bu.ns, Nat.add_assoc] using hl
      refine xs_ifF ((et_isN ((ed_var 0).to (r' := .d (.tup [dN n, dBu l, dBu r])) rfl)).to rfl) ?_
      refine xs_ifF (EW.et (EW.to' (ew_or (et_not (et_val (ed_call F3 (hr.mono (by omega)) (ea_cons ((ed_var 0).to (r' := .d (.tup [dN n, dBu l, dBu r])) rfl) (ea_cons ed_int (ea_cons ed_int ea_nil))) ⟨_, _, _, rfl, rfl⟩))) fun _ =>
        ew_or1 (et_not (et_val (ed_call F2 (hr.mono (by omega)) (ea_cons (ed_ix (x := dN n) ((ed_var 0).to (r' := .d (.tup [dN n, dBu l, dBu r])) rfl) (.t _) ed_int (by decide) rfl) (ea_cons ed_int (ea_cons ed_int ea_nil))) ⟨_, _, _, rfl, rfl⟩)))) ?_)) ?_
      · simp; omega
      · refine xs_one (xt_ret (ef_lst (ea_cons (ed_ix (x := dN n) ((ed_var 0).to (r' := .d (.tup [dN n, dBu l, dBu r])) rfl) (.t _) ed_int (by decide) rfl)
          (ea_star (ed_call F hr (ea_cons (ed_ix (x := dBu l) ((ed_var 0).to (r' := .d (.tup [dN n, dBu l, dBu r])) rfl) (.t _) ed_int (by decide) rfl) ea_nil) ⟨l, rfl, by omega, hnl, by omega, rfl⟩) (.l _)
          (ea_star (ed_call F hr (ea_cons (ed_ix (x := dBu r) ((ed_var 0).to (r' := .d (.tup [dN n, dBu l, dBu r])) rfl) (.t _) ed_int (by decide) rfl) ea_nil) ⟨r, rfl, by omega, hnr, by omega, rfl⟩) (.l _) ea_nil))) ?_).ed ?_)
        · simp; omega
        · show D.lst _ = D.lst _
          simp [Bu.ns]
abbrev RFaces : Rel := fun ds out => ∃ s t, ds = [dSpot s, dSpot t] ∧ out = .bl (facesF s t)
theorem sc46 : FnScope ["one", "other"] ["one", "other"] (defScope (topS 46)) := ⟨rfl, rfl, rfl, by decide +kernel, rfl, by decide +kernel, by decide +kernel⟩
theorem fn_faces (Dd : Df K mg "faces" (topS 46) ["one", "other"]) : Fn T P w K mg base 1 "faces" RFaces := by
  refine fn_df _ Dd sc46 (by rintro ds out ⟨s, t, rfl, rfl⟩; rfl) (fun f cdv A outer s0 H E ds out hr ⟨s, t, h1, h2⟩ => ?_)
  subst h1 h2
  refine xs_ifL (et_neI (ed_add (ed_part (ed_var 0) 0) (ed_part (ed_var 0) 2)) (ed_part (ed_var 1) 0)) (fun hx => xs_one (xt_ret ed_bl ?_)) (fun hx => xs_one (xt_ret (ed_and (ed_lt (ed_part (ed_var 0) 1) (ed_add (ed_part (ed_var 1) 1) (ed_part (ed_var 1) 3))) fun _ => ed_one (ed_lt (ed_part (ed_var 1) 1) (ed_add (ed_part (ed_var 0) 1) (ed_part (ed_var 0) 3)))) ?_))
  · show D.bl _ = D.bl _
    have : ¬ (s.l + s.w = t.l) := by simpa using hx
    simp [facesF, this]
  · show D.bl _ = D.bl _
    have : s.l + s.w = t.l := by simpa using hx
    simp [facesF, this]
end Fl

/-! FloF -/
namespace Fl
open PySem L2 PyProof.Rows
variable {T : Tbs}
variable {P : Program} {w : World} {K : PySem.W.Frag} {mg : Str → Option Value} {base : Heap}
abbrev RHeld : Rel := fun ds out => ∃ (s : Spot) (Q : List Spot) (z : Bool), ds = [dSpot s, dSpots Q, dZ z] ∧ out = .bl (if z then heldX s Q else heldY s Q)
theorem sc43 : FnScope ["spot", "spots", "part", "other", "one"] ["spot", "spots", "part"] (defScope (topS 43)) := ⟨rfl, rfl, rfl, by decide +kernel, rfl, by decide +kernel, by decide +kernel⟩
theorem fn_is_held (Dd : Df K mg "is_held" (topS 43) ["spot", "spots", "part"]) : Fn T P w K mg base 1 "is_held" RHeld := by
  refine fn_df _ Dd sc43 (by rintro ds out ⟨s, t, z, rfl, rfl⟩; rfl) (fun f cdv A outer s0 H E ds out hr ⟨s, Q, z, h1, h2⟩ => ?_)
  subst h1 h2
  cases z
  · show XS _ _ _ _ { nx := _, rt := fun d => d = .bl (heldY s Q) }
    refine xs_ifL (x := decide (s.b = 0)) (et_eqI (ed_ix (x := .int s.b) (ed_var 0) (.t _) (ed_var 2) (by decide) rfl) ed_int) (fun hx => xs_one (xt_ret ed_bl (by rw [heldY, hx]; rfl))) (fun hx => ?_)
    refine xs_then (xt_asg 3 (ed_sub ed_int (ed_var 2)) rfl sc43.nd) ?_
    refine xs_cons (fun r => (∃ a, r = [.d (dSpot s), .d (dSpots Q), .d (dZ false), .d (.int 0), a]) ∧ Q.any (fun o : Spot => (decide (o.b + o.h = s.b) && decide (o.l < s.l + s.w)) && decide (s.l < o.l + o.w)) = false) (xt_for1 4 (fun i r => (∃ a, r = [.d (dSpot s), .d (dSpots Q), .d (dZ false), .d (.int 0), a]) ∧ (Q.take i).any (fun o : Spot => (decide (o.b + o.h = s.b) && decide (o.l < s.l + s.w)) && decide (s.l < o.l + o.w)) = false) (ei_tup (ed_var 1)) sc43.nd ⟨⟨.any, rfl⟩, rfl⟩ ?_ ?_) ?_
    · rintro i d ρ' hd ⟨⟨a, rfl⟩, hn⟩
      obtain ⟨o, ho, rfl⟩ := map_at' hd
      have nxt : (fun o : Spot => (decide (o.b + o.h = s.b) && decide (o.l < s.l + s.w)) && decide (s.l < o.l + o.w)) o = false → (Q.take (i + 1)).any (fun o : Spot => (decide (o.b + o.h = s.b) && decide (o.l < s.l + s.w)) && decide (s.l < o.l + o.w)) = false := fun h => by
        rw [take_at ho, List.any_append, hn]; simpa using h
      refine xs_one (xt_if (x := decide (o.b + o.h = s.b) && decide (o.l < s.l + s.w)) (EW.et (ew_and (et_eqI (ed_add (ed_ix (x := .int o.b) (ed_var 4) (.t _) (ed_var 2) (by decide) rfl) (ed_ix (x := .int o.h) (ed_var 4) (.t _) (ed_add (ed_var 2) ed_int) (by decide) rfl)) (ed_ix (x := .int s.b) (ed_var 0) (.t _) (ed_var 2) (by decide) rfl)) fun _ =>
        ew_and1 (et_lt (ed_ix (x := .int o.l) (ed_var 4) (.t _) (ed_var 3) (by decide) rfl) (ed_add (ed_ix (x := .int s.l) (ed_var 0) (.t _) (ed_var 3) (by decide) rfl) (ed_ix (x := .int s.w) (ed_var 0) (.t _) (ed_add (ed_var 3) ed_int) (by decide) rfl)))))
        (fun h1 => xs_one (xt_if (x := decide (s.l < o.l + o.w)) (et_lt (ed_ix (x := .int s.l) (ed_var 0) (.t _) (ed_var 3) (by decide) rfl) (ed_add (ed_ix (x := .int o.l) (ed_var 4) (.t _) (ed_var 3) (by decide) rfl) (ed_ix (x := .int o.w) (ed_var 4) (.t _) (ed_add (ed_var 3) ed_int) (by decide) rfl)))
          (fun h2 => xs_one (xt_ret ed_bl ?_)) (fun h2 => xs_nil ⟨⟨_, rfl⟩, nxt (by dsimp only; rw [h1, h2]; rfl)⟩))) (fun h1 => xs_nil ⟨⟨_, rfl⟩, nxt (by dsimp only; rw [h1]; rfl)⟩))
      show D.bl true = D.bl (heldY s Q)
      have : Q.any (fun o : Spot => (decide (o.b + o.h = s.b) && decide (o.l < s.l + s.w)) && decide (s.l < o.l + o.w)) = true := List.any_eq_true.mpr ⟨o, List.mem_of_getElem? ho, by rw [h1, h2]; rfl⟩
      rw [heldY, this, Bool.or_true]
    · rintro ρ' ⟨hr, hn⟩
      rw [List.length_map, List.take_length] at hn
      exact ⟨hr, hn⟩
    · rintro ρ' ⟨⟨a, rfl⟩, hn⟩
      exact xs_one (xt_ret ed_bl (by rw [heldY, hn, hx]; rfl))
  · show XS _ _ _ _ { nx := _, rt := fun d => d = .bl (heldX s Q) }
    refine xs_ifL (x := decide (s.l = 0)) (et_eqI (ed_ix (x := .int s.l) (ed_var 0) (.t _) (ed_var 2) (by decide) rfl) ed_int) (fun hx => xs_one (xt_ret ed_bl (by rw [heldX, hx]; rfl))) (fun hx => ?_)
    refine xs_then (xt_asg 3 (ed_sub ed_int (ed_var 2)) rfl sc43.nd) ?_
    refine xs_cons (fun r => (∃ a, r = [.d (dSpot s), .d (dSpots Q), .d (dZ true), .d (.int 1), a]) ∧ Q.any (fun o : Spot => (decide (o.l + o.w = s.l) && decide (o.b < s.b + s.h)) && decide (s.b < o.b + o.h)) = false) (xt_for1 4 (fun i r => (∃ a, r = [.d (dSpot s), .d (dSpots Q), .d (dZ true), .d (.int 1), a]) ∧ (Q.take i).any (fun o : Spot => (decide (o.l + o.w = s.l) && decide (o.b < s.b + s.h)) && decide (s.b < o.b + o.h)) = false) (ei_tup (ed_var 1)) sc43.nd ⟨⟨.any, rfl⟩, rfl⟩ ?_ ?_) ?_
    · rintro i d ρ' hd ⟨⟨a, rfl⟩, hn⟩
      obtain ⟨o, ho, rfl⟩ := map_at' hd
      have nxt : (fun o : Spot => (decide (o.l + o.w = s.l) && decide (o.b < s.b + s.h)) && decide (s.b < o.b + o.h)) o = false → (Q.take (i + 1)).any (fun o : Spot => (decide (o.l + o.w = s.l) && decide (o.b < s.b + s.h)) && decide (s.b < o.b + o.h)) = false := fun h => by
        rw [take_at ho, List.any_append, hn]; simpa using h
      refine xs_one (xt_if (x := decide (o.l + o.w = s.l) && decide (o.b < s.b + s.h)) (EW.et (ew_and (et_eqI (ed_add (ed_ix (x := .int o.l) (ed_var 4) (.t _) (ed_var 2) (by decide) rfl) (ed_ix (x := .int o.w) (ed_var 4) (.t _) (ed_add (ed_var 2) ed_int) (by decide) rfl)) (ed_ix (x := .int s.l) (ed_var 0) (.t _) (ed_var 2) (by decide) rfl)) fun _ =>
        ew_and1 (et_lt (ed_ix (x := .int o.b) (ed_var 4) (.t _) (ed_var 3) (by decide) rfl) (ed_add (ed_ix (x := .int s.b) (ed_var 0) (.t _) (ed_var 3) (by decide) rfl) (ed_ix (x := .int s.h) (ed_var 0) (.t _) (ed_add (ed_var 3) ed_int) (by decide) rfl)))))
        (fun h1 => xs_one (xt_if (x := decide (s.b < o.b + o.h)) (et_lt (ed_ix (x := .int s.b) (ed_var 0) (.t _) (ed_var 3) (by decide) rfl) (ed_add (ed_ix (x := .int o.b) (ed_var 4) (.t _) (ed_var 3) (by decide) rfl) (ed_ix (x := .int o.h) (ed_var 4) (.t _) (ed_add (ed_var 3) ed_int) (by decide) rfl)))
          (fun h2 => xs_one (xt_ret ed_bl ?_)) (fun h2 => xs_nil ⟨⟨_, rfl⟩, nxt (by dsimp only; rw [h1, h2]; rfl)⟩))) (fun h1 => xs_nil ⟨⟨_, rfl⟩, nxt (by dsimp only; rw [h1]; rfl)⟩))
      show D.bl true = D.bl (heldX s Q)
      have : Q.any (fun o : Spot => (decide (o.l + o.w = s.l) && decide (o.b < s.b + s.h)) && decide (s.b < o.b + o.h)) = true := List.any_eq_true.mpr ⟨o, List.mem_of_getElem? ho, by rw [h1, h2]; rfl⟩
      rw [heldX, this, Bool.or_true]
    · rintro ρ' ⟨hr, hn⟩
      rw [List.length_map, List.take_length] at hn
      exact ⟨hr, hn⟩
    · rintro ρ' ⟨⟨a, rfl⟩, hn⟩
      exact xs_one (xt_ret ed_bl (by rw [heldX, hn, hx]; rfl))
abbrev RCompact : Rel := fun ds out => ∃ Q : List Spot, ds = [dSpots Q] ∧ PackOk Q ∧ out = .bl (isCompact Q)
theorem sc44 : FnScope ["spots", "spot"] ["spots"] (defScope (topS 44)) := ⟨rfl, rfl, rfl, by decide +kernel, rfl, by decide +kernel, by decide +kernel⟩
theorem fn_is_compact (Dd : Df K mg "is_compact" (topS 44) ["spots"]) (B : Nb mg) (F20 : Fn T P w K mg base 5 "need_packing" RNeedPack) (F43 : Fn T P w K mg base 1 "is_held" RHeld) : Fn T P w K mg base 6 "is_compact" RCompact := by
  refine fn_df _ Dd sc44 (by rintro ds out ⟨p, rfl, _, rfl⟩; rfl) (fun f cdv A outer s H E ds out hr ⟨Q, h1, hz, h2⟩ => ?_)
  subst h1 h2
  refine xs_then (xt_expr (ed_call F20 hr (ea_cons (ed_var 0) ea_nil) ⟨_, rfl, hz, rfl⟩) rfl) (xs_one (xt_ret (ed_all (bs := Q.map fun s => heldX s Q && heldY s Q) rfl B.all
    (ef_lc1 ["spots", "spot"] (defScope (topS 44)) 1 sc44.nd Q dSpot (fun s => .bl (heldX s Q && heldY s Q)) (ei_tup (ed_var 0)) (fun o _ _ _ _ _ _ => ed_and (ed_call F43 (hr.mono (by decide)) (ea_cons (ed_var 1) (ea_cons (ed_var 0) (ea_cons ed_int ea_nil))) ⟨_, _, true, rfl, rfl⟩) fun _ => ed_one (ed_call F43 (hr.mono (by decide)) (ea_cons (ed_var 1) (ea_cons (ed_var 0) (ea_cons ed_int ea_nil))) ⟨_, _, false, rfl, rfl⟩)) rfl (by have := hz.hi; omega)).ed (.inl (by rw [List.map_map]; rfl))) ?_))
  show D.bl _ = D.bl _
  rw [isCompact, List.all_map]; rfl
abbrev RPerms : Rel := fun ds out => ∃ m : Nat, ds = [dN m] ∧ m ≤ 4 ∧ out = .lst ((perms m).map dOrd)
theorem mem_cast (o : List Nat) (n : Nat) : decide ((n : Int) ∈ o.map fun i : Nat => (i : Int)) = decide (n ∈ o) := by
  congr 1
  refine propext ⟨fun h => ?_, fun h => List.mem_map.mpr ⟨n, h, rfl⟩⟩
  obtain ⟨a, ha, e⟩ := List.mem_map.mp h
  exact (Int.ofNat.inj e) ▸ ha
theorem perms_map (m : Nat) (F : List (List Nat)) : (permStep m F).map dOrd = F.flatMap fun o => ((List.range m).filter fun a => !decide (a ∈ o)).map fun a => dOrd (o ++ [a]) := by
  unfold permStep
  rw [List.map_flatMap]
  congr 1; funext o
  rw [List.map_map]; rfl
theorem permsK_len (m : Nat) : ∀ i, ∀ o ∈ permsK m i, o.length = i
  | 0, o, h => by simp [permsK] at h; subst h; rfl
  | i + 1, o, h => by
    simp only [permsK, permStep, List.mem_flatMap, List.mem_map] at h
    obtain ⟨p, hp, a, _, rfl⟩ := h
    simp [permsK_len m i p hp]
theorem permsK_count (m : Nat) (hm : m ≤ 4) : ∀ i, i ≤ 4 → (permsK m i).length ≤ 1024 := by
  have h : ∀ i, (permsK m i).length ≤ 4 ^ i := by
    intro i
    induction i with
    | zero => simp [permsK]
    | succ i ih =>
      show (permStep m (permsK m i)).length ≤ _
      have : ∀ F : List (List Nat), (permStep m F).length ≤ F.length * 4 := by
        intro F
        unfold permStep
        induction F with
        | nil => simp
        | cons o F ih =>
          rw [List.flatMap_cons, List.length_append, List.length_cons, List.length_map]
          have := List.length_filter_le (fun a => !decide (a ∈ o)) (List.range m)
          rw [List.length_range] at this
          omega
      have h2 := this (permsK m i)
      rw [Nat.pow_succ]
      omega
  intro i hi
  have : 4 ^ i ≤ 4 ^ 4 := Nat.pow_le_pow_right (by decide) hi
  have := h i
  omega
theorem sc32 : FnScope ["many", "found", "turn", "one", "at"] ["many"] (defScope (topS 32)) := ⟨rfl, rfl, rfl, by decide +kernel, rfl, by decide +kernel, by decide +kernel⟩
theorem fn_permutations (Dd : Df K mg "permutations" (topS 32) ["many"]) (B : Nb mg) : Fn T P w K mg base 1 "permutations" RPerms := by
  refine fn_df _ Dd sc32 (by rintro ds out ⟨m, rfl, _, rfl⟩; rfl) (fun f cdv A outer s0 H E ds out hr ⟨m, h1, hm, h2⟩ => ?_)
  subst h1 h2
  refine xs_then (xt_asg 1 (ef_lst (ea_cons (ed_tup ea_nil (by simp)) ea_nil) (by simp)).ed rfl sc32.nd) ?_
  refine xs_cons (fun r => ∃ a, r = [.d (dN m), .d (.lst ((perms m).map dOrd)), a, .any, .any]) (xt_for1 2 (fun i r => ∃ a, r = [.d (dN m), .d (.lst ((permsK m i).map dOrd)), a, .any, .any]) (ei_range B.range (ed_var 0) (by omega) (by omega)) sc32.nd ⟨_, rfl⟩ ?_ ?_) ?_
  · rintro i d ρ' hd ⟨a, rfl⟩
    obtain ⟨hi, rfl⟩ := rg_at hd
    have hi : i < m := by simpa using hi
    refine xs_one (xt_setLc2r ["many", "found", "turn", "one", "at"] (defScope (topS 32)) 1 3 4 sc32.nd (permsK m i) dOrd (fun o a => !decide (a ∈ o)) (fun o a => dOrd (o ++ [a])) (ei_list (ed_var 1)) B.range (fun _ _ _ => by simp [NoOwn]) (fun _ _ _ _ _ _ _ => ed_var 0)
      (fun o _ n _ _ _ _ _ _ => (et_notIn (ns := o.map fun i : Nat => (i : Int)) (ed_var 4) (ed_var 3) (Or.inr (Or.inl (by rw [List.map_map]; rfl)))).to (by rw [mem_cast])) (fun o ho n _ _ _ _ _ _ _ => (ed_tup (ea_star (ed_var 3) (.t _) (ea_cons (ed_var 4) ea_nil)) ?_).to ?_) ?_ ?_ (by omega))
    · have := permsK_len m i o ho
      simp; omega
    · simp
    · exact ⟨_, by rw [show permsK m (i + 1) = permStep m (permsK m i) from rfl, perms_map]; rfl⟩
    · have := permsK_count m hm i (by omega)
      have h2 : (permsK m i).length * m ≤ 1024 * 4 := Nat.mul_le_mul this hm
      omega
  · rintro ρ' ⟨a, rfl⟩
    refine ⟨a, ?_⟩
    rw [show (rgD (m : Int)).length = m from by simp [rgD]]; rfl
  · rintro ρ' ⟨a, rfl⟩
    exact xs_one (xt_ret (ed_var 1) rfl)
theorem sc41 : FnScope ["many", "found", "turn", "one", "at"] ["many"] (defScope (topS 41)) := ⟨rfl, rfl, rfl, by decide +kernel, rfl, by decide +kernel, by decide +kernel⟩
theorem fn_orders (Dd : Df K mg "orders" (topS 41) ["many"]) (B : Nb mg) : Fn T P w K mg base 1 "orders" RPerms := by
  refine fn_df _ Dd sc41 (by rintro ds out ⟨m, rfl, _, rfl⟩; rfl) (fun f cdv A outer s0 H E ds out hr ⟨m, h1, hm, h2⟩ => ?_)
  subst h1 h2
  refine xs_then (xt_asg 1 (ef_lst (ea_cons (ed_tup ea_nil (by simp)) ea_nil) (by simp)).ed rfl sc41.nd) ?_
  refine xs_cons (fun r => ∃ a, r = [.d (dN m), .d (.lst ((perms m).map dOrd)), a, .any, .any]) (xt_for1 2 (fun i r => ∃ a, r = [.d (dN m), .d (.lst ((permsK m i).map dOrd)), a, .any, .any]) (ei_range B.range (ed_var 0) (by omega) (by omega)) sc41.nd ⟨_, rfl⟩ ?_ ?_) ?_
  · rintro i d ρ' hd ⟨a, rfl⟩
    obtain ⟨hi, rfl⟩ := rg_at hd
    have hi : i < m := by simpa using hi
    refine xs_one (xt_setLc2r ["many", "found", "turn", "one", "at"] (defScope (topS 41)) 1 3 4 sc41.nd (permsK m i) dOrd (fun o a => !decide (a ∈ o)) (fun o a => dOrd (o ++ [a])) (ei_list (ed_var 1)) B.range (fun _ _ _ => by simp [NoOwn]) (fun _ _ _ _ _ _ _ => ed_var 0)
      (fun o _ n _ _ _ _ _ _ => (et_notIn (ns := o.map fun i : Nat => (i : Int)) (ed_var 4) (ed_var 3) (Or.inr (Or.inl (by rw [List.map_map]; rfl)))).to (by rw [mem_cast])) (fun o ho n _ _ _ _ _ _ _ => (ed_tup (ea_star (ed_var 3) (.t _) (ea_cons (ed_var 4) ea_nil)) ?_).to ?_) ?_ ?_ (by omega))
    · have := permsK_len m i o ho
      simp; omega
    · simp
    · exact ⟨_, by rw [show permsK m (i + 1) = permStep m (permsK m i) from rfl, perms_map]; rfl⟩
    · have := permsK_count m hm i (by omega)
      have h2 : (permsK m i).length * m ≤ 1024 * 4 := Nat.mul_le_mul this hm
      omega
  · rintro ρ' ⟨a, rfl⟩
    refine ⟨a, ?_⟩
    rw [show (rgD (m : Int)).length = m from by simp [rgD]]; rfl
  · rintro ρ' ⟨a, rfl⟩
    exact xs_one (xt_ret (ed_var 1) rfl)
end Fl

/-! FloP -/
namespace Fl
open PySem L2 PyProof.Rows
variable {T : Tbs}
theorem lookD_map {α : Type} (g : α → D) (L : List (Nat × α)) (k : Nat) : lookD (L.map fun p => ((p.1 : Int), g p.2)) (k : Int) = (lookN L k).map g := by
  unfold lookD lookN
  induction L with
  | nil => rfl
  | cons p L ih =>
    rw [List.map_cons, List.find?_cons, List.find?_cons]
    by_cases h : p.1 = k
    · have h1 : ((p.1 : Nat) : Int) = (k : Int) := by rw [h]
      simp [h1, h]
    · have h1 : ¬ ((p.1 : Nat) : Int) = (k : Int) := fun z => h (Int.ofNat.inj z)
      simp [h1, h]
      simpa using ih
section
variable {X : Cx} {ρ : List Sl} {a b c e it elt : Expr} {pos p p1 p2 spos py : Pos} {scope : Scope} {P : Po}
theorem ed_ixN {r : Sl} {ds : List D} {n : Nat} {x : D} (ha : ED T X ρ a r) (hq : Seq r ds) (hb : ED T X ρ b (.d (dN n))) (hx : ds[n]? = some x) (hs : PlainIx b := by exact fun _ _ => rfl) : ED T X ρ (.Subscript a b pos) (.d x) :=
  ed_ix ha hq hb (Int.natCast_nonneg _) (by rw [Int.toNat_natCast]; exact hx) hs
theorem ef_lcT2 {α : Type} {ds : List D} {x y : Str} {m : Nat} (N : List Str) (sc : Scope) (j k : Nat) (hN : N.Nodup) (xs : List α) (u v : α → D) (f : α → D) (hi : EI T X ρ (.Tuple [.Name x p1, .Name y p2] m p) it ds)
    (hf : ∀ z ∈ xs, EB T X scope ((((ρ.set k .any).set j .any).set j (.d (u z))).set k (.d (v z))) elt (.d (f z))) (hds : ds = xs.map fun z => .tup [u z, v z]) (hl : xs.length ≤ 50000 := by (simp; done))
    (ok : blkC N sc scope [(x, j), (y, k)] = true := by decide +kernel) (hl1 : scope.names.lookup x = some .local := by decide +kernel) (hl2 : scope.names.lookup y = some .local := by decide +kernel) (hc : X.calm = true := by rfl) (eN : X.N = N := by rfl) (eS : X.env.scope = sc := by rfl)
    (hn : ∀ (s : Shared) (H : Hp) (C : Addr) (cl : List (Str × Addr)) (fp : List Addr), (assignEach [.Name x p1, .Name y p2] (X.blk s H scope (compEnvC scope cl C X.env) fp).env).length = 2 := by exact fun _ _ _ _ _ => rfl)
    (hst : ∀ (s : Shared) (H : Hp) (C : Addr) (cl : List (Str × Addr)) (fp : List Addr), (assignEach [.Name x p1, .Name y p2] (X.blk s H scope (compEnvC scope cl C X.env) fp).env).findIdx? (·.1) = none := by exact fun _ _ _ _ _ => rfl)
    (hs : ∀ x, foldedSetIterable it X.env x = pure x := by intro _; rfl) : EF T X ρ (.ListComp elt [⟨.Tuple [.Name x p1, .Name y p2] m p, it, [], 0⟩] scope pos) (xs.map f) := by
  have ok' := blkOk_by ok
  have hj : X.N[j]? = some x := by rw [eN]; exact ok'.ix (x, j) (by simp)
  have hk : X.N[k]? = some y := by rw [eN]; exact ok'.ix (y, k) (by simp)
  have nd : X.N.Nodup := by rw [eN]; exact hN
  exact ef_lc (own := [(x, j), (y, k)]) (g := gTup X.K 2 (gNames [j, k])) hc nd hi (by rw [eN, eS]; exact ok') xs (fun z => .tup [u z, v z]) hds hl
    ⟨fun s H C cl fp => pg_tup (n := 2) hc (pgs_cons (pg_name (i := j) nd hj (.inl (lookup_relabel_local hl1)) (.inr (lookup_relabel_local hl1))) (pgs_cons (pg_name (i := k) nd hk (.inl (lookup_relabel_local hl2)) (.inr (lookup_relabel_local hl2))) pgs_nil)) (hn s H C cl fp) (hst s H C cl fp)⟩
    (fun z ρ => (ρ.set j (.d (u z))).set k (.d (v z))) (is := [j, k]) (fun z _ => gs_upT [j, k] rfl) (by simp) f hf hs
theorem efd_dcT2 {α : Type} {ds : List D} {x y : Str} {m : Nat} {kx vx : Expr} (N : List Str) (sc : Scope) (j k : Nat) (hN : N.Nodup) (xs : List α) (u v : α → D) (kf : α → Int) (f : α → D) (nk : (xs.map kf).Nodup) (hi : EI T X ρ (.Tuple [.Name x p1, .Name y p2] m p) it ds)
    (hkf : ∀ z ∈ xs, EB T X scope ((((ρ.set k .any).set j .any).set j (.d (u z))).set k (.d (v z))) kx (.d (.int (kf z)))) (hf : ∀ z ∈ xs, EB T X scope ((((ρ.set k .any).set j .any).set j (.d (u z))).set k (.d (v z))) vx (.d (f z))) (hds : ds = xs.map fun z => .tup [u z, v z]) (hl : xs.length ≤ 50000 := by (simp; done))
    (ok : blkC N sc scope [(x, j), (y, k)] = true := by decide +kernel) (hl1 : scope.names.lookup x = some .local := by decide +kernel) (hl2 : scope.names.lookup y = some .local := by decide +kernel) (hc : X.calm = true := by rfl) (eN : X.N = N := by rfl) (eS : X.env.scope = sc := by rfl)
    (hn : ∀ (s : Shared) (H : Hp) (C : Addr) (cl : List (Str × Addr)) (fp : List Addr), (assignEach [.Name x p1, .Name y p2] (X.blk s H scope (compEnvC scope cl C X.env) fp).env).length = 2 := by exact fun _ _ _ _ _ => rfl)
    (hst : ∀ (s : Shared) (H : Hp) (C : Addr) (cl : List (Str × Addr)) (fp : List Addr), (assignEach [.Name x p1, .Name y p2] (X.blk s H scope (compEnvC scope cl C X.env) fp).env).findIdx? (·.1) = none := by exact fun _ _ _ _ _ => rfl)
    (hs : ∀ x, foldedSetIterable it X.env x = pure x := by intro _; rfl) : EFd T X ρ (.DictComp kx vx [⟨.Tuple [.Name x p1, .Name y p2] m p, it, [], 0⟩] scope pos) (xs.map fun z => (kf z, f z)) := by
  have ok' := blkOk_by ok
  have hj : X.N[j]? = some x := by rw [eN]; exact ok'.ix (x, j) (by simp)
  have hk : X.N[k]? = some y := by rw [eN]; exact ok'.ix (y, k) (by simp)
  have nd : X.N.Nodup := by rw [eN]; exact hN
  exact efd_dc (own := [(x, j), (y, k)]) (g := gTup X.K 2 (gNames [j, k])) hc nd hi (by rw [eN, eS]; exact ok') xs (fun z => .tup [u z, v z]) hds hl
    ⟨fun s H C cl fp => pg_tup (n := 2) hc (pgs_cons (pg_name (i := j) nd hj (.inl (lookup_relabel_local hl1)) (.inr (lookup_relabel_local hl1))) (pgs_cons (pg_name (i := k) nd hk (.inl (lookup_relabel_local hl2)) (.inr (lookup_relabel_local hl2))) pgs_nil)) (hn s H C cl fp) (hst s H C cl fp)⟩
    (fun z ρ => (ρ.set j (.d (u z))).set k (.d (v z))) (is := [j, k]) (fun z _ => gs_upT [j, k] rfl) (by simp) kf f nk hkf hf hs
end
section
variable {X : Cx} {ρ : List Sl} {a b c e it elt : Expr} {pos p p1 p2 spos py : Pos} {scope : Scope} {P : Po}
theorem xt_appN {x : Str} {l : Addr} {ds : List D} {d : D} (i : Nat) (h : ED T X ρ e (.d d)) (hlen : ds.length < 100000) {apos cpos np : Pos} (hno : NoOwn l (ρ.set i .any)) (q : P.nx (ρ.set i (.ol l (ds ++ [d])))) (hr : ρ[i]? = some (.ol l ds) := by rfl) (hN : X.N[i]? = some x := by rfl) (hv : Vis X.env.scope x := by first | exact Or.inl rfl | exact Or.inr (Or.inl rfl) | exact Or.inr (Or.inr rfl))
    (hd : (x == ("__debug__" : Str)) = false := by decide) (hcd : (x == ("__classdict__" : Str)) = false := by decide)
    (hbase : attributeBase (.Name x np) "append" X.env (eval (.Name x np) X.env) = eval (.Name x np) X.env := by rfl)
    (hfew : ((backTo cpos (starEach [e] X.env)).all (fun x => !x.1) && (backToKw cpos (keywordEach [] X.env)).all (fun x => x.1.isSome)
      && decide (([e] : List Expr).length + ([] : List Keyword).length + (if ([] : List Keyword).isEmpty then 0 else 1) < 30)) = true := by rfl)
    (hline : (apos.endLine == cpos.line) = true := by rfl) (hse : starEach [e] X.env = (false, eval e X.env) :: starEach [] X.env := by rfl) (hplain : (backTo cpos (starEach [] X.env)).any (·.1) = false := by rfl)
    (hs : swapsWith (.Call (.Attribute (.Name x np) "append" apos) [e] [] cpos) none pos.line X.env = pure false := by rfl) : XT T X ρ (.Expr (.Call (.Attribute (.Name x np) "append" apos) [e] [] cpos) pos) P :=
  xt_app i hr h hlen hno q (pe_var hN hv hd hcd) (pe_bm PySem.F.plainAttrs_list PySem.F.slot_list_append PySem.F.type_list_append mt_append (pe_var hN hv hd hcd) (pa_cons (wpE_pe X e) pa_nil hse) hbase hfew hline hse hplain) hs
theorem xt_extN {x : Str} {l : Addr} {ds : List D} {es' : List D} (i : Nat) (h : EF T X ρ e es') (hlen : ds.length + es'.length ≤ 100000) {apos cpos np : Pos} (hno : NoOwn l (ρ.set i .any)) (q : P.nx (ρ.set i (.ol l (ds ++ es')))) (hr : ρ[i]? = some (.ol l ds) := by rfl) (hN : X.N[i]? = some x := by rfl) (hv : Vis X.env.scope x := by first | exact Or.inl rfl | exact Or.inr (Or.inl rfl) | exact Or.inr (Or.inr rfl))
    (hd : (x == ("__debug__" : Str)) = false := by decide) (hcd : (x == ("__classdict__" : Str)) = false := by decide)
    (hbase : attributeBase (.Name x np) "extend" X.env (eval (.Name x np) X.env) = eval (.Name x np) X.env := by rfl)
    (hfew : ((backTo cpos (starEach [e] X.env)).all (fun x => !x.1) && (backToKw cpos (keywordEach [] X.env)).all (fun x => x.1.isSome)
      && decide (([e] : List Expr).length + ([] : List Keyword).length + (if ([] : List Keyword).isEmpty then 0 else 1) < 30)) = true := by rfl)
    (hline : (apos.endLine == cpos.line) = true := by rfl) (hse : starEach [e] X.env = (false, eval e X.env) :: starEach [] X.env := by rfl) (hplain : (backTo cpos (starEach [] X.env)).any (·.1) = false := by rfl)
    (hs : swapsWith (.Call (.Attribute (.Name x np) "extend" apos) [e] [] cpos) none pos.line X.env = pure false := by rfl) : XT T X ρ (.Expr (.Call (.Attribute (.Name x np) "extend" apos) [e] [] cpos) pos) P :=
  xt_ext i hr h hlen hno q (pe_bm PySem.F.plainAttrs_list PySem.F.slot_list_extend PySem.F.type_list_extend mt_extend (pe_var hN hv hd hcd) (pa_cons (wpE_pe X e) pa_nil hse) hbase hfew hline hse hplain) hs
end
section
variable {X : Cx} {ρ : List Sl} {a b c e it elt : Expr} {pos p p1 p2 spos py : Pos} {scope : Scope} {P : Po}
/-- a, b = {}, {}, the names shared with blocks -/
theorem xt_parDC {es : List Expr} {kt k2 : Nat} {pt pt2 pa pb : Pos} (i j : Nat) (q : ∀ l m, l ≠ m → NoOwn l ρ → NoOwn m ρ → P.nx ((ρ.set i (.od l [])).set j (.od m []))) (hg : PG X (.Tuple es kt pt) (gTup X.K 2 (gNames [i, j])))
    (hsa : starEach [.Dict [] [] pa, .Dict [] [] pb] X.env = (false, eval (.Dict [] [] pa) X.env) :: starEach [.Dict [] [] pb] X.env := by rfl) (hsb : starEach [.Dict [] [] pb] X.env = (false, eval (.Dict [] [] pb) X.env) :: starEach [] X.env := by rfl)
    (hs : swapsWithSole [.Tuple es kt pt] (.Tuple [.Dict [] [] pa, .Dict [] [] pb] k2 pt2) pos.line X.env = pure false := by rfl) (hw : swappedStores [.Tuple es kt pt] (.Tuple [.Dict [] [] pa, .Dict [] [] pb] k2 pt2) X.env = pure none := by rfl)
    (h1 : (assignEach [.Tuple es kt pt] X.env).map (·.2) = [assign (.Tuple es kt pt) X.env] := by rfl) : XT T X ρ (.Assign [.Tuple es kt pt] (.Tuple [.Dict [] [] pa, .Dict [] [] pb] k2 pt2) pos) P :=
  fun Hb Ob O σ H s Dn k => wpS_of (ps_asg (pe_tup (pa_cons pe_dnewK (pa_cons pe_dnewK pa_nil hsb) hsa)) hg hs hw h1) <| fun l hl m hm => by
    have hml : l ≠ m := fun z => by subst z; rw [upd_same] at hm; cases hm
    have hm' : H m = none := by rw [upd_ne hml.symm] at hm; exact hm
    refine ⟨le_line (by simp), fun t ht => ⟨t, _, rfl, .inl (.inl upd_same), rfl, ?_⟩⟩
    have s1 := s.take hl (Ex.new (o := .dK []) hl) ⟨_, upd_same, ld_dK⟩
    have s2 := s1.take hm (Ex.new (o := .dK []) hm) ⟨_, upd_same, ld_dK⟩
    have s3 := s2.on (Ex.new (o := .tup [.ref l, .ref m]) ht)
    have tl : l ≠ t := fun z => by subst z; rw [upd_ne hml, upd_same] at ht; cases ht
    have tm : m ≠ t := fun z => by subst z; rw [upd_same] at ht; cases ht
    refine ⟨_, _, rfl, _, _, rfl, rfl, ?_⟩
    exact k.nx (Op (Op O l) m) _ _ _ (q l m hml (s.noOwn hl) (s.noOwn hm')) ((s3.set i (r := .od l []) ⟨rfl, .inl (.inr rfl), fun z => s.oin l (s.ob l z) hl, [], by rw [upd_ne tl, upd_ne hml]; exact upd_same, .nil⟩).set j (r := .od m []) ⟨rfl, .inr rfl, fun z => s.oin m (s.ob m z) hm', [], by rw [upd_ne tm]; exact upd_same, .nil⟩)
end
end Fl

/-! FloG -/
namespace Fl
open PySem L2 PyProof.Rows
variable {T : Tbs}
variable {P : Program} {w : World} {K : PySem.W.Frag} {mg : Str → Option Value} {base : Heap}
/-- whatever is left, something of it is free -/
def Sortable (Q : List Spot) (z : Bool) : Prop := ∀ left : List Nat, left ≠ [] → left.Nodup → (∀ a ∈ left, a < Q.length) → ∃ a ∈ left, isFree Q z left a = true
theorem find_first {α : Type} {p : α → Bool} : ∀ {xs : List α} {i : Nat} {x : α}, xs[i]? = some x → (∀ y ∈ xs.take i, p y = false) → p x = true → xs.find? p = some x
  | [], i, x, h, _, _ => by simp at h
  | y :: ys, 0, x, h, _, hp => by
    simp at h; subst h; simp [hp]
  | y :: ys, i + 1, x, h, g, hp => by
    have h1 := g y (by simp)
    rw [List.find?_cons, h1]
    exact find_first (by simpa using h) (fun z hz => g z (by simp [hz])) hp
theorem leftOf_nodup (n : Nat) (f : List Nat) : (leftOf n f).Nodup := List.Pairwise.filter _ List.nodup_range
theorem leftOf_lt {n : Nat} {f : List Nat} {a : Nat} (h : a ∈ leftOf n f) : a < n ∧ a ∉ f := by
  unfold leftOf at h
  rw [List.mem_filter] at h
  exact ⟨List.mem_range.mp h.1, by simpa using h.2⟩
theorem leftOf_ne {n : Nat} {f : List Nat} (hl : f.length < n) : leftOf n f ≠ [] := by
  intro z
  unfold leftOf at z
  rw [List.filter_eq_nil_iff] at z
  have hs : ∀ i ∈ List.range n, i ∈ f := fun i hi => by simpa using z i hi
  have := List.Nodup.length_le_of_subset (List.nodup_range (n := n)) (fun i hi => hs i hi)
  rw [List.length_range] at this
  omega
abbrev RSortBy : Rel := fun ds out => ∃ (Q : List Spot) (z : Bool), ds = [dSpots Q, dZ z] ∧ Q.length ≤ 8 ∧ Sortable Q z ∧ out = dOrd (sortBy Q z)
theorem sc30 : FnScope ["spots", "number", "found", "left", "at", "other"] ["spots", "number"] (defScope (topS 30)) := ⟨rfl, rfl, rfl, by decide +kernel, rfl, by decide +kernel, by decide +kernel⟩
/-- the while's states -/
def SortI (Q : List Spot) (z : Bool) (m : Nat) (r : List Sl) : Prop := ∃ l fnd a b c, r = [.d (dSpots Q), .d (dZ z), .ol l (fnd.map dN), a, b, c] ∧ NoOwn l [a, b, c] ∧ m + fnd.length = Q.length ∧ sortGo Q z m fnd = sortBy Q z ∧ fnd.Nodup
theorem fn_sorted_by (Dd : Df K mg "sorted_by" (topS 30) ["spots", "number"]) (B : Nb mg) (F29 : Fn T P w K mg base 2 "is_ahead" RIsAhead) : Fn T P w K mg base 3 "sorted_by" RSortBy := by
  refine fn_df _ Dd sc30 (by rintro ds out ⟨s, z, rfl, _, _, rfl⟩; rfl) (fun f cdv A outer s0 H E ds out hr ⟨Q, z, h1, hl, hso, h2⟩ => ?_)
  subst h1 h2
  refine xs_cons (fun r => ∃ l, r = [.d (dSpots Q), .d (dZ z), .ol l [], .any, .any, .any]) (xt_asgF 2 (ef_lst ea_nil (by simp)) (fun l _ => ⟨l, rfl⟩) sc30.nd) ?_
  rintro _ ⟨l0, rfl⟩
  refine xs_cons (SortI Q z 0) (xt_while (SortI Q z) PassesOwn.never Q.length ⟨l0, [], .any, .any, .any, rfl, by simp [NoOwn], rfl, rfl, List.nodup_nil⟩ ?_) ?_
  · rintro m ρ' ⟨l, fnd, a, b, c, rfl, hno, hm, hgo, hnd⟩
    refine ⟨decide (fnd.length < Q.length), (et_lt (ed_len B.len (ed_var 2) (.o _ _)) (ed_len B.len (ed_var 0) (.t _))).to (by simp), fun hb => ?_, fun hb => ?_⟩
    · have hlt : fnd.length < Q.length := by simpa using hb
      obtain ⟨k, rfl⟩ : ∃ k, m = k + 1 := ⟨m - 1, by omega⟩
      have hleft : (leftOf Q.length fnd).length ≤ 8 := by
        have := List.length_filter_le (fun i => !decide (i ∈ fnd)) (List.range Q.length)
        rw [List.length_range] at this
        unfold leftOf; omega
      refine xs_then (xt_setLcIf1 ["spots", "number", "found", "left", "at", "other"] (defScope (topS 30)) 3 4 sc30.nd (List.range Q.length) dN (fun i => !decide (i ∈ fnd)) dN (ei_range B.range ((ed_lenN B.len (ed_var 0) (.t _) (List.length_map _))) (by omega) (by omega))
        (fun i _ _ _ _ _ _ => (et_notIn (ns := fnd.map fun i : Nat => (i : Int)) (ed_var 4) (ed_var 2) (.inr (.inr ⟨l, by rw [List.map_map]; rfl⟩))).to (by rw [mem_cast])) (fun i _ _ _ _ _ _ _ => ed_var 4) rfl (rg_nat _) (by simp; omega)) ?_
      show XS _ _ [.d (dSpots Q), .d (dZ z), .ol l (fnd.map dN), .d (.lst ((leftOf Q.length fnd).map dN)), b, c] _ _
      have hno2 : NoOwn l [b, c] := by cases a <;> first | exact hno.2 | exact hno
      have hbc : ∃ c', c = c' := ⟨c, rfl⟩
      refine xs_one (xt_for1 4 (fun i r => ∃ b', r = [.d (dSpots Q), .d (dZ z), .ol l (fnd.map dN), .d (.lst ((leftOf Q.length fnd).map dN)), b', c] ∧ NoOwn l [b', c] ∧ ∀ x ∈ (leftOf Q.length fnd).take i, isFree Q z (leftOf Q.length fnd) x = false) (ei_list (ed_var 3)) sc30.nd ⟨b, rfl, hno2, by simp⟩ ?_ ?_)
      · rintro i d ρ' hd ⟨b', rfl, hno3, hnf⟩
        obtain ⟨x, hx, rfl⟩ := map_at' hd
        have hxm := List.mem_of_getElem? hx
        have hxl := leftOf_lt hxm
        have hc : NoOwn l [c] := by cases b' <;> first | exact hno3.2 | exact hno3
        refine xs_one (xt_if (x := isFree Q z (leftOf Q.length fnd) x) ((et_not (et_val (ed_any (bs := ((leftOf Q.length fnd).filter fun o => !decide (o = x)).map fun o => ahead z (spAt Q o) (spAt Q x)) rfl B.any
          (ef_lcIf1 ["spots", "number", "found", "left", "at", "other"] (defScope (topS 30)) 5 sc30.nd (leftOf Q.length fnd) dN (fun o => !decide (o = x)) (fun o => .bl (ahead z (spAt Q o) (spAt Q x))) (ei_list (ed_var 3))
            (fun o _ _ _ _ _ _ => (et_neI (ed_var 5) (ed_var 4)).to ?_)
            (fun o ho _ _ _ _ _ _ => ed_call F29 hr (ea_cons (ed_ixN (ed_var 0) (.t _) (ed_var 5) (spots_at (leftOf_lt ho).1)) (ea_cons (ed_ixN (ed_var 0) (.t _) (ed_var 4) (spots_at hxl.1)) (ea_cons (ed_var 1) ea_nil))) ⟨_, _, _, rfl, rfl⟩) rfl (by omega)).ed (.inl (by rw [List.map_map]; rfl))))).to ?_) (fun hf => ?_) (fun hf => ?_))
        · rw [show decide ((o : Int) = (x : Int)) = decide (o = x) from by congr 1; exact propext ⟨Int.ofNat.inj, fun h => by rw [h]⟩]
        · rw [isFree, List.any_map]; rfl
        · refine xs_then (xt_appN (ds := fnd.map dN) 2 (ed_var 4) (by simp; omega) ?_ rfl) ?_
          · exact hc
          · refine xs_one (xt_break ⟨k, by omega, l, fnd ++ [x], .d (.lst ((leftOf Q.length fnd).map dN)), .d (dN x), c, ?_, ?_, ?_, ?_, ?_⟩)
            · rw [List.map_append]; rfl
            · exact hc
            · simp; omega
            · rw [← hgo]
              show _ = (match (leftOf Q.length fnd).find? (isFree Q z (leftOf Q.length fnd)) with | some a => sortGo Q z k (fnd ++ [a]) | none => fnd)
              rw [find_first hx hnf hf]
            · exact List.nodup_append.mpr ⟨hnd, by simp, fun a ha b hb => by simp at hb; subst hb; exact fun e => hxl.2 (e ▸ ha)⟩
        · refine xs_nil ⟨_, rfl, hc, fun y hy => ?_⟩
          rw [take_at hx, List.mem_append] at hy
          rcases hy with hy | hy
          · exact hnf y hy
          · simp at hy; subst hy; exact hf
      · rintro ρ' ⟨b', rfl, _, hnf⟩
        rw [List.length_map, List.take_length] at hnf
        obtain ⟨a, ha, hfa⟩ := hso _ (leftOf_ne hlt) (leftOf_nodup _ _) fun a ha => (leftOf_lt ha).1
        rw [hnf a ha] at hfa; cases hfa
    · have hge : ¬ fnd.length < Q.length := by simpa using hb
      have : m = 0 := by omega
      subst this
      exact ⟨l, fnd, a, b, c, rfl, hno, hm, hgo, hnd⟩
  · rintro ρ' ⟨l, fnd, a, b, c, rfl, hno, hm, hgo, hnd⟩
    refine xs_one (xt_ret (ed_tupleL B.tuple (ed_var 2) (.inr ⟨l, rfl⟩)) ?_)
    show D.tup _ = dOrd _
    rw [← hgo]; rfl
end Fl

/-! FloI -/
namespace Fl
open PySem L2 PyProof.Rows
variable {T : Tbs}
variable {P : Program} {w : World} {K : PySem.W.Frag} {mg : Str → Option Value} {base : Heap}
abbrev ROrdersOf : Rel := fun ds out => ∃ Q : List Spot, ds = [dSpots Q] ∧ PackOk Q ∧ (∀ z, Sortable Q z) ∧ out = .tup [dOrd (sortBy Q true), dOrd (sortBy Q false)]
theorem sc31 : FnScope ["spots"] ["spots"] (defScope (topS 31)) := ⟨rfl, rfl, rfl, by decide +kernel, rfl, by decide +kernel, by decide +kernel⟩
theorem fn_orders_of (Dd : Df K mg "orders_of" (topS 31) ["spots"]) (F20 : Fn T P w K mg base 5 "need_packing" RNeedPack) (F30 : Fn T P w K mg base 3 "sorted_by" RSortBy) : Fn T P w K mg base 6 "orders_of" ROrdersOf := by
  refine fn_df _ Dd sc31 (by rintro ds out ⟨p, rfl, _, _, rfl⟩; rfl) (fun f cdv A outer s H E ds out hr ⟨Q, h1, hz, hs, h2⟩ => ?_)
  subst h1 h2
  exact xs_then (xt_expr (ed_call F20 hr (ea_cons (ed_var 0) ea_nil) ⟨_, rfl, hz, rfl⟩) rfl) (xs_one (xt_ret (ed_tup (ea_cons (ed_call F30 (hr.mono (by decide)) (ea_cons (ed_var 0) (ea_cons ed_int ea_nil)) ⟨Q, true, rfl, hz.hi, hs true, rfl⟩)
    (ea_cons (ed_call F30 (hr.mono (by decide)) (ea_cons (ed_var 0) (ea_cons ed_int ea_nil)) ⟨Q, false, rfl, hz.hi, hs false, rfl⟩) ea_nil)) (by simp)) rfl))
/-! packed_in -/
abbrev dIs (L : List (Nat × Int)) : List (Int × D) := L.map fun p => ((p.1 : Int), D.int p.2)
theorem look_is {L : List (Nat × Int)} {k : Nat} (h : k ∈ L.map (·.1)) : lookD (dIs L) (k : Int) = some (.int (lookI L k)) := by
  unfold dIs
  rw [lookD_map]
  unfold lookI
  obtain ⟨p, hp, e⟩ := List.mem_map.mp h
  cases q : lookN L k with
  | some v => rfl
  | none =>
    unfold lookN at q
    rw [Option.map_eq_none_iff, List.find?_eq_none] at q
    exact absurd e (by simpa using q p hp)
theorem placed_step (rel : Nat → Nat → Bool) (sz : Nat → Int) (xs : List Nat) (b : Nat) : placed rel sz (xs ++ [b]) = placed rel sz xs ++ [(b, before rel sz (placed rel sz xs) b)] := by
  unfold placed; rw [List.foldl_append]; rfl
theorem snoc_ind {α : Type} {P : List α → Prop} (h0 : P []) (h1 : ∀ xs x, P xs → P (xs ++ [x])) (xs : List α) : P xs := by
  rw [← List.reverse_reverse xs]
  induction xs.reverse with
  | nil => exact h0
  | cons x ys ih => rw [List.reverse_cons]; exact h1 _ _ ih
theorem placed_keys (rel : Nat → Nat → Bool) (sz : Nat → Int) (xs : List Nat) : (placed rel sz xs).map (·.1) = xs := by
  refine snoc_ind (P := fun xs => (placed rel sz xs).map (·.1) = xs) rfl (fun xs b ih => ?_) xs
  rw [placed_step, List.map_append, ih]; rfl
theorem ord_mem {n : Nat} {o : List Nat} (g : IsOrd n o) {b : Nat} (hb : b < n) : b ∈ o := by
  obtain ⟨l, m, nd⟩ := g
  by_cases h : b ∈ o
  · exact h
  · have h1 : (b :: o).Nodup := List.nodup_cons.mpr ⟨h, nd⟩
    have := List.Nodup.length_le_of_subset h1 (l₂ := List.range n) (fun x hx => by
      rcases List.mem_cons.mp hx with e | e
      · rw [e]; exact List.mem_range.mpr hb
      · exact List.mem_range.mpr (m x e))
    rw [List.length_range, List.length_cons] at this
    omega
theorem en_nats (o : List Nat) : enD (o.map dN) = (List.range o.length).map fun i => .tup [dN i, dN (o.getD i 0)] := by
  unfold enD
  rw [List.length_map]
  refine List.map_congr_left fun i hi => ?_
  have hi := List.mem_range.mp hi
  simp [hi]
theorem en_sizes (zs : List Sz) : enD (zs.map dSize) = (List.range zs.length).map fun i => .tup [dN i, dSize (szAt zs i)] := by
  unfold enD
  rw [List.length_map]
  refine List.map_congr_left fun i hi => ?_
  have hi := List.mem_range.mp hi
  simp [hi, szAt]
theorem getD_nodup {o : List Nat} (nd : o.Nodup) : ((List.range o.length).map fun i => ((o.getD i 0 : Nat) : Int)).Nodup := by
  have e : ((List.range o.length).map fun i => ((o.getD i 0 : Nat) : Int)) = o.map fun n : Nat => (n : Int) := by
    refine List.ext_getElem (by simp) fun i h1 h2 => ?_
    have hi : i < o.length := by simpa using h2
    simp [hi]
  rw [e]
  exact List.Pairwise.map _ (fun a b h e => h (Int.ofNat.inj e)) nd
theorem lt_cast (a b : Nat) : decide ((a : Int) < (b : Int)) = decide (a < b) := by
  congr 1; exact propext ⟨Int.ofNat_lt.mp, Int.ofNat_lt.mpr⟩
theorem placed_len (rel : Nat → Nat → Bool) (sz : Nat → Int) (xs : List Nat) : (placed rel sz xs).length = xs.length := by
  have := congrArg List.length (placed_keys rel sz xs); simpa using this
theorem idx_of {xs : List Nat} (nd : xs.Nodup) {i : Nat} {x : Nat} (h : xs[i]? = some x) : xs.idxOf x = i := by
  obtain ⟨hi, rfl⟩ := List.getElem?_eq_some_iff.mp h
  exact List.Nodup.idxOf_getElem nd i hi
/-- the ranks -/
def rankL (first : List Nat) : List (Nat × Nat) := (List.range first.length).map fun i => (first.getD i 0, i)
theorem getD_at {xs : List Nat} {i : Nat} (h : i < xs.length) : xs[i]? = some (xs.getD i 0) := by simp [h]
theorem rank_look {first : List Nat} (nd : first.Nodup) {b : Nat} (hb : b ∈ first) : lookD ((List.range first.length).map fun i => (((first.getD i 0 : Nat) : Int), dN i)) (b : Int) = some (dN (first.idxOf b)) := by
  have e : ((List.range first.length).map fun i => (((first.getD i 0 : Nat) : Int), dN i)) = (rankL first).map fun p => ((p.1 : Int), dN p.2) := by
    unfold rankL; rw [List.map_map]; rfl
  rw [e, lookD_map dN]
  obtain ⟨i, hi, hbi⟩ := List.mem_iff_getElem.mp hb
  have hx : first[i]? = some b := by rw [List.getElem?_eq_getElem hi, hbi]
  have hfi := idx_of nd hx
  have : lookN (rankL first) b = some i := by
    unfold lookN
    have hf : (rankL first).find? (fun p => decide (p.1 = b)) = some (b, i) := by
      refine find_first (i := i) ?_ ?_ (by simp)
      · unfold rankL; rw [List.getElem?_map, List.getElem?_range hi]
        show some (first.getD i 0, i) = _
        have := getD_at hi; rw [hx] at this; rw [← Option.some.inj this]
      · intro y hy
        unfold rankL at hy
        rw [← List.map_take, List.take_range] at hy
        obtain ⟨j, hj, rfl⟩ := List.mem_map.mp hy
        have hj' := List.mem_range.mp hj
        have hjl : j < first.length := by omega
        rw [decide_eq_false_iff_not]
        intro z
        have := idx_of nd (getD_at hjl)
        have z' : first.getD j 0 = b := z
        rw [z', hfi] at this
        omega
    rw [hf]; rfl
  rw [this, hfi]; rfl
abbrev RPackedIn : Rel := fun ds out => ∃ zs o1 o2, ds = [dSizes zs, dOrd o1, dOrd o2] ∧ zs.length ≤ 8 ∧ IsOrd zs.length o1 ∧ IsOrd zs.length o2 ∧ out = dSpots (packedIn zs o1 o2)
theorem sc26 : FnScope ["sizes", "first", "second", "ranks", "lefts", "lows", "at", "block", "ahead", "one", "size"] ["sizes", "first", "second"] (defScope (topS 26)) := ⟨rfl, rfl, rfl, by decide +kernel, rfl, by decide +kernel, by decide +kernel⟩
theorem fn_packed_in (Dd : Df K mg "packed_in" (topS 26) ["sizes", "first", "second"]) (B : Nb mg) : Fn T P w K mg base 1 "packed_in" RPackedIn := by
  refine fn_df _ Dd sc26 (by rintro ds out ⟨_, _, _, rfl, _, _, _, rfl⟩; rfl) (fun f cdv A outer s0 H E ds out hr ⟨zs, o1, o2, h1, hl, g1, g2, h2⟩ => ?_)
  subst h1 h2
  obtain ⟨l1, m1, n1⟩ := g1
  obtain ⟨l2, m2, n2⟩ := g2
  have hu := hr.units
  have mem1 : ∀ b, b < zs.length → b ∈ o1 := fun b hb => ord_mem ⟨l1, m1, n1⟩ hb
  have mem2 : ∀ b, b < zs.length → b ∈ o2 := fun b hb => ord_mem ⟨l2, m2, n2⟩ hb
  have hu1 : A.units + 3 + 1 < cLine := by
    have : A.units + 3 + 64 < cLine := hu
    omega
  refine xs_then (xt_asg 3 (efd_dcT2 ["sizes", "first", "second", "ranks", "lefts", "lows", "at", "block", "ahead", "one", "size"] (defScope (topS 26)) 6 7 sc26.nd (List.range o1.length) dN (fun i => dN (o1.getD i 0)) (fun i => ((o1.getD i 0 : Nat) : Int)) dN (getD_nodup n1) (ei_enumT B.enumerate (ed_var 1)) (fun i _ _ _ _ _ _ => ed_var 7) (fun i _ _ _ _ _ _ => ed_var 6) (en_nats o1) (by simp; omega)).ed rfl sc26.nd) ?_
  refine xs_cons (fun r => ∃ l m, l ≠ m ∧ r = [.d (dSizes zs), .d (dOrd o1), .d (dOrd o2), .d (.dct ((List.range o1.length).map fun i => (((o1.getD i 0 : Nat) : Int), dN i))), .od l [], .od m [], .any, .any, .any, .any, .any]) (xt_parDC 4 5 (fun l m hlm _ _ => ⟨l, m, hlm, rfl⟩) (pg_tup rfl (pgs_cons (pg_name (i := 4) sc26.nd rfl (.inr rfl)) (pgs_cons (pg_name (i := 5) sc26.nd rfl (.inr rfl)) pgs_nil)))) ?_
  rintro _ ⟨l, m, hlm, rfl⟩
  refine xs_cons (fun r => ∃ a b c, r = [.d (dSizes zs), .d (dOrd o1), .d (dOrd o2), .d (.dct ((List.range o1.length).map fun i => (((o1.getD i 0 : Nat) : Int), dN i))), .od l (dIs (placed (relX o1) (fun o => (szAt zs o).1) o2)), .od m (dIs (placed (relY o1) (fun o => (szAt zs o).2) o2)), a, b, c, .any, .any])
    (xt_for2 6 7 (fun i r => ∃ a b c, r = [.d (dSizes zs), .d (dOrd o1), .d (dOrd o2), .d (.dct ((List.range o1.length).map fun i => (((o1.getD i 0 : Nat) : Int), dN i))), .od l (dIs (placed (relX o1) (fun o => (szAt zs o).1) (o2.take i))), .od m (dIs (placed (relY o1) (fun o => (szAt zs o).2) (o2.take i))), a, b, c, .any, .any])
      (ei_enumT B.enumerate (ed_var 2)) sc26.nd en_pairs ⟨_, _, _, rfl⟩ ?_ ?_) ?_
  · rintro i u v ρ' hd ⟨a0, b0, c0, rfl⟩
    obtain ⟨x, hx, e⟩ := en_at hd
    cases e
    obtain ⟨b, hb, rfl⟩ := map_at' hx
    have hbl : b < zs.length := m2 b (List.mem_of_getElem? hb)
    have tk : ∀ o ∈ o2.take i, o < zs.length := fun o ho => m2 o (List.mem_of_mem_take ho)
    have hi := at_lt hb
    have bnot : b ∉ o2.take i := fun hm => by
      obtain ⟨j, hj, e⟩ := List.mem_iff_getElem.mp hm
      rw [List.length_take] at hj
      have h1 : o2[j]? = some b := by
        rw [List.getElem_take] at e
        rw [List.getElem?_eq_getElem (by omega), e]
      have := idx_of n2 h1
      have := idx_of n2 hb
      omega
    refine xs_then (xt_asg 8 ((ed_slT (ed_var 2) eo_none (eo_some (ed_var 6))).to (r' := .d (dOrd (o2.take i))) (by rw [cut_to, ← List.map_take])) rfl sc26.nd) ?_
    refine xs_then (xt_dput (kvs := dIs (placed (relX o1) (fun o => (szAt zs o).1) (o2.take i))) (l := l) (k := (b : Int)) (d := .int (before (relX o1) (fun o => (szAt zs o).1) (placed (relX o1) (fun o => (szAt zs o).1) (o2.take i)) b)) 4 hu1 rfl ((ed_max (ns := 0 :: (((o2.take i).filter fun o => relX o1 o b).map fun o => lookI (placed (relX o1) (fun o => (szAt zs o).1) (o2.take i)) o + (szAt zs o).1)) rfl B.max (ef_lst (ea_cons ed_int (ea_star
      (ef_lcIf1 ["sizes", "first", "second", "ranks", "lefts", "lows", "at", "block", "ahead", "one", "size"] (defScope (topS 26)) 9 sc26.nd (o2.take i) dN (fun o => relX o1 o b) (fun o => .int (lookI (placed (relX o1) (fun o => (szAt zs o).1) (o2.take i)) o + (szAt zs o).1)) (ei_tup (ed_var 8))
        (fun o ho _ _ _ _ _ => (et_lt (ed_dget (by show A.units + 3 + 1 < cLine; exact hu1) (ed_var 3) (.inl rfl) (ed_var 9) (rank_look n1 (mem1 o (tk o ho)))) (ed_dget (by show A.units + 3 + 1 < cLine; exact hu1) (ed_var 3) (.inl rfl) (ed_var 7) (rank_look n1 (mem1 b hbl)))).to (lt_cast _ _))
        (fun o ho _ _ _ _ _ _ => ed_add (ed_dget (by show A.units + 3 + 1 < cLine; exact hu1) (ed_var 4) (.inr ⟨_, rfl⟩) (ed_var 9) (look_is (by rw [placed_keys]; exact ho))) (ed_ix (x := .int (szAt zs o).1) (ed_ixN (ed_var 0) (.t _) (ed_var 9) (sizes_at (tk o ho))) (.t _) ed_int (by decide) rfl)) rfl (by rw [List.length_take]; omega)).ed (.l _) ea_nil)) ?_).ed (.inl ?_) (by simp)).to (?_)) (ed_var 7) (lookD_none ?_) ?_ ?_ rfl (pe_var rfl (.inr (.inl rfl)) (by decide) (by decide))) ?_
    · have := List.length_filter_le (fun o => relX o1 o b) (o2.take i)
      rw [List.length_take] at this
      simp; omega
    · rw [List.append_nil, List.map_cons, List.map_map]; rfl
    · rw [before, placed_keys]
    · rw [List.map_map]
      intro hm
      have hm' : ((b : Nat) : Int) ∈ ((placed (relX o1) (fun o => (szAt zs o).1) (o2.take i)).map (·.1)).map fun n : Nat => (n : Int) := by rw [List.map_map]; exact hm
      rw [placed_keys] at hm'
      obtain ⟨b', hb1, hb2⟩ := List.mem_map.mp hm'
      exact bnot (by rw [← Int.ofNat.inj hb2]; exact hb1)
    · rw [List.length_map, placed_len, List.length_take]; omega
    · exact ⟨fun e => hlm e.symm, trivial⟩
    refine xs_then (xt_dput (kvs := dIs (placed (relY o1) (fun o => (szAt zs o).2) (o2.take i))) (l := m) (k := (b : Int)) (d := .int (before (relY o1) (fun o => (szAt zs o).2) (placed (relY o1) (fun o => (szAt zs o).2) (o2.take i)) b)) 5 hu1 rfl ((ed_max (ns := 0 :: (((o2.take i).filter fun o => relY o1 o b).map fun o => lookI (placed (relY o1) (fun o => (szAt zs o).2) (o2.take i)) o + (szAt zs o).2)) rfl B.max (ef_lst (ea_cons ed_int (ea_star
      (ef_lcIf1 ["sizes", "first", "second", "ranks", "lefts", "lows", "at", "block", "ahead", "one", "size"] (defScope (topS 26)) 9 sc26.nd (o2.take i) dN (fun o => relY o1 o b) (fun o => .int (lookI (placed (relY o1) (fun o => (szAt zs o).2) (o2.take i)) o + (szAt zs o).2)) (ei_tup (ed_var 8))
        (fun o ho _ _ _ _ _ => (et_gt (ed_dget (by show A.units + 3 + 1 < cLine; exact hu1) (ed_var 3) (.inl rfl) (ed_var 9) (rank_look n1 (mem1 o (tk o ho)))) (ed_dget (by show A.units + 3 + 1 < cLine; exact hu1) (ed_var 3) (.inl rfl) (ed_var 7) (rank_look n1 (mem1 b hbl)))).to (lt_cast _ _))
        (fun o ho _ _ _ _ _ _ => ed_add (ed_dget (by show A.units + 3 + 1 < cLine; exact hu1) (ed_var 5) (.inr ⟨_, rfl⟩) (ed_var 9) (look_is (by rw [placed_keys]; exact ho))) (ed_ix (x := .int (szAt zs o).2) (ed_ixN (ed_var 0) (.t _) (ed_var 9) (sizes_at (tk o ho))) (.t _) ed_int (by decide) rfl)) rfl (by rw [List.length_take]; omega)).ed (.l _) ea_nil)) ?_).ed (.inl ?_) (by simp)).to (?_)) (ed_var 7) (lookD_none ?_) ?_ ?_ rfl (pe_var rfl (.inr (.inl rfl)) (by decide) (by decide))) ?_
    · have := List.length_filter_le (fun o => relY o1 o b) (o2.take i)
      rw [List.length_take] at this
      simp; omega
    · rw [List.append_nil, List.map_cons, List.map_map]; rfl
    · rw [before, placed_keys]
    · rw [List.map_map]
      intro hm
      have hm' : ((b : Nat) : Int) ∈ ((placed (relY o1) (fun o => (szAt zs o).2) (o2.take i)).map (·.1)).map fun n : Nat => (n : Int) := by rw [List.map_map]; exact hm
      rw [placed_keys] at hm'
      obtain ⟨b', hb1, hb2⟩ := List.mem_map.mp hm'
      exact bnot (by rw [← Int.ofNat.inj hb2]; exact hb1)
    · rw [List.length_map, placed_len, List.length_take]; omega
    · exact ⟨hlm, trivial⟩
    refine xs_nil ⟨.d (dN i), .d (dN b), .d (dOrd (o2.take i)), ?_⟩
    rw [take_at hb, placed_step, placed_step]
    unfold dIs
    rw [List.map_append, List.map_append]; rfl
  · rintro ρ' ⟨a, b, c, rfl⟩
    refine ⟨a, b, c, ?_⟩
    have : (enD (o2.map dN)).length = o2.length := by unfold enD; simp
    rw [this, List.take_length]
  · rintro ρ' ⟨a, b, c, rfl⟩
    refine xs_one (xt_ret (ed_tupleL B.tuple (ef_lcT2 ["sizes", "first", "second", "ranks", "lefts", "lows", "at", "block", "ahead", "one", "size"] (defScope (topS 26)) 7 10 sc26.nd (List.range zs.length) dN (fun i => dSize (szAt zs i))
      (fun i => dSpot ⟨lookI (placed (relX o1) (fun o => (szAt zs o).1) o2) i, lookI (placed (relY o1) (fun o => (szAt zs o).2) o2) i, (szAt zs i).1, (szAt zs i).2⟩) (ei_enumT B.enumerate (ed_var 0))
      (fun i hi _ _ _ _ _ => ED.to (r := .d (.tup ([D.int (lookI (placed (relX o1) (fun o => (szAt zs o).1) o2) i), D.int (lookI (placed (relY o1) (fun o => (szAt zs o).2) o2) i)] ++ ([D.int (szAt zs i).1, D.int (szAt zs i).2] ++ [])))) (ed_tup (ea_cons (ed_dget (by show A.units + 3 + 1 < cLine; exact hu1) (ed_var 4) (.inr ⟨_, rfl⟩) (ed_var 7) (look_is (by rw [placed_keys]; exact mem2 i (List.mem_range.mp hi)))) (ea_cons (ed_dget (by show A.units + 3 + 1 < cLine; exact hu1) (ed_var 5) (.inr ⟨_, rfl⟩) (ed_var 7) (look_is (by rw [placed_keys]; exact mem2 i (List.mem_range.mp hi)))) (ea_star (ed_var 10) (.t _) ea_nil))) (by simp)) rfl) (en_sizes zs) (by simp; omega)).ed (.inl rfl)) ?_)
    unfold packedIn dSpots
    rw [List.map_map]; rfl
end Fl

/-! FloJ -/
namespace Fl
open PySem L2 PyProof.Rows
variable {T : Tbs}
variable {P : Program} {w : World} {K : PySem.W.Frag} {mg : Str → Option Value} {base : Heap}
abbrev RPacked : Rel := fun ds out => ∃ zs o1 o2, ds = [dSizes zs, dOrd o1, dOrd o2] ∧ SizesOk zs ∧ IsOrd zs.length o1 ∧ IsOrd zs.length o2 ∧ out = dSpots (packedIn zs o1 o2)
theorem sc27 : FnScope ["sizes", "first", "second"] ["sizes", "first", "second"] (defScope (topS 27)) := ⟨rfl, rfl, rfl, by decide +kernel, rfl, by decide +kernel, by decide +kernel⟩
theorem fn_packed (Dd : Df K mg "packed" (topS 27) ["sizes", "first", "second"]) (F25 : Fn T P w K mg base 5 "need_orders" RNeedOrders) (F26 : Fn T P w K mg base 1 "packed_in" RPackedIn) : Fn T P w K mg base 6 "packed" RPacked := by
  refine fn_df _ Dd sc27 (by rintro ds out ⟨_, _, _, rfl, _, _, _, rfl⟩; rfl) (fun f cdv A outer s0 H E ds out hr ⟨zs, o1, o2, h1, hz, g1, g2, h2⟩ => ?_)
  subst h1 h2
  exact xs_then (xt_expr (ed_call F25 hr (ea_cons (ed_var 0) (ea_cons (ed_var 1) (ea_cons (ed_var 2) ea_nil))) ⟨_, _, _, rfl, hz, g1, g2, rfl⟩) rfl) (xs_one (xt_ret (ed_call F26 (hr.mono (by decide)) (ea_cons (ed_var 0) (ea_cons (ed_var 1) (ea_cons (ed_var 2) ea_nil))) ⟨_, _, _, rfl, hz.hi, g1, g2, rfl⟩) rfl))
/-! lists of orders -/
theorem permsK_ok (n : Nat) : ∀ k, ∀ o ∈ permsK n k, o.length = k ∧ (∀ i ∈ o, i < n) ∧ o.Nodup
  | 0, o, h => by simp [permsK] at h; subst h; simp
  | k + 1, o, h => by
    simp only [permsK, permStep, List.mem_flatMap, List.mem_map, List.mem_filter] at h
    obtain ⟨p, hp, a, ⟨ha, hn⟩, rfl⟩ := h
    obtain ⟨h1, h2, h3⟩ := permsK_ok n k p hp
    have hn' : a ∉ p := by simpa using hn
    refine ⟨by simp [h1], fun i hi => ?_, ?_⟩
    · rw [List.mem_append] at hi
      rcases hi with hi | hi
      · exact h2 i hi
      · simp at hi; subst hi; exact List.mem_range.mp ha
    · exact List.nodup_append.mpr ⟨h3, by simp, fun x hx y hy => by simp at hy; subst hy; exact fun e => hn' (e ▸ hx)⟩
theorem perms_ord {n : Nat} {o : List Nat} (h : o ∈ perms n) : IsOrd n o := permsK_ok n n o h
theorem permsK_all {n : Nat} {o : List Nat} (g : IsOrd n o) : ∀ k, k ≤ n → o.take k ∈ permsK n k
  | 0, _ => by simp [permsK]
  | k + 1, hk => by
    have ih := permsK_all g k (by omega)
    have hl : k < o.length := by rw [g.1]; omega
    simp only [permsK, permStep, List.mem_flatMap, List.mem_map, List.mem_filter]
    refine ⟨o.take k, ih, o[k], ⟨List.mem_range.mpr (g.2.1 _ (List.getElem_mem hl)), ?_⟩, ?_⟩
    · rw [Bool.not_eq_true', decide_eq_false_iff_not]
      intro hm
      obtain ⟨j, hj, e⟩ := List.mem_iff_getElem.mp hm
      rw [List.getElem_take] at e
      rw [List.length_take] at hj
      have h1 := idx_of g.2.2 (List.getElem?_eq_getElem (show j < o.length by omega))
      have h2 := idx_of g.2.2 (List.getElem?_eq_getElem hl)
      rw [e] at h1; omega
    · rw [take_at (List.getElem?_eq_getElem hl)]
theorem perms_all {n : Nat} {o : List Nat} (g : IsOrd n o) : o ∈ perms n := by
  have := permsK_all g n (Nat.le_refl _)
  rwa [List.take_of_length_le (by rw [g.1]; exact Nat.le_refl _)] at this
theorem range_ord (n : Nat) : IsOrd n (List.range n) := ⟨by simp, fun i hi => List.mem_range.mp hi, List.nodup_range⟩
theorem permsK_256 (m : Nat) (hm : m ≤ 4) : ∀ i, i ≤ 4 → (permsK m i).length ≤ 256 := by
  have h : ∀ i, (permsK m i).length ≤ 4 ^ i := by
    intro i
    induction i with
    | zero => simp [permsK]
    | succ i ih =>
      show (permStep m (permsK m i)).length ≤ _
      have : ∀ F : List (List Nat), (permStep m F).length ≤ F.length * 4 := by
        intro F
        unfold permStep
        induction F with
        | nil => simp
        | cons o F ih =>
          rw [List.flatMap_cons, List.length_append, List.length_cons, List.length_map]
          have := List.length_filter_le (fun a => !decide (a ∈ o)) (List.range m)
          rw [List.length_range] at this
          omega
      have h2 := this (permsK m i)
      rw [Nat.pow_succ]
      omega
  intro i hi
  have : 4 ^ i ≤ 4 ^ 4 := Nat.pow_le_pow_right (by decide) hi
  have := h i
  omega
theorem perms_256 {m : Nat} (hm : m ≤ 4) : (perms m).length ≤ 256 := permsK_256 m hm m hm
theorem flat_le {α β : Type} (f : α → List β) (c : Nat) : ∀ xs : List α, (∀ x ∈ xs, (f x).length ≤ c) → (xs.flatMap f).length ≤ xs.length * c
  | [], _ => by simp
  | x :: xs, h => by
    rw [List.flatMap_cons, List.length_append, List.length_cons, Nat.succ_mul]
    have h1 := h x (by simp)
    have h2 := flat_le f c xs fun y hy => h y (by simp [hy])
    omega
/-! best_packing -/
def packArea (zs : List Sz) (f s : List Nat) : Int := wid (packedIn zs f s) * hei (packedIn zs f s)
def rowD (zs : List Sz) (f s : List Nat) : D := .tup [.int (packArea zs f s), dOrd f, dOrd s]
def rowsD (zs : List Sz) : List D := (perms zs.length).flatMap fun f => (perms zs.length).map fun s => rowD zs f s
def minRow : List D → D
  | [] => .non
  | d :: ds => minF d ds
theorem nbs_of {ds : List D} (h : ∀ d ∈ ds, d.nb = true) : nbs ds = true := by
  induction ds with
  | nil => rfl
  | cons x xs ih => rw [nbs, h x (by simp), ih fun d hd => h d (by simp [hd])]; rfl
theorem nb_ord (o : List Nat) : (dOrd o).nb = true := by
  show nbs (o.map dN) = true
  exact nbs_of fun d hd => by obtain ⟨n, _, rfl⟩ := List.mem_map.mp hd; rfl
theorem depthAll_le {xs : List PyData} {k : Nat} (h : ∀ x ∈ xs, x.depth ≤ k) : PyData.depthAll xs ≤ k := by
  induction xs with
  | nil => simp [PyData.depthAll]
  | cons x xs ih =>
    rw [PyData.depthAll]
    have h1 := h x (by simp)
    have h2 := ih fun y hy => h y (by simp [hy])
    omega
theorem depth_ord (o : List Nat) : (dOrd o).py.depth ≤ 2 := by
  show (PyData.tuple (pys (o.map dN))).depth ≤ 2
  rw [PyData.depth]
  have : PyData.depthAll (pys (o.map dN)) ≤ 1 := depthAll_le fun x hx => by
    rw [pys_map] at hx
    obtain ⟨d, hd, rfl⟩ := List.mem_map.mp hx
    obtain ⟨n, _, rfl⟩ := List.mem_map.mp hd
    simp [D.py, PyData.depth]
  omega
theorem alike_ints (ns ms : List Nat) : PySem.W.alikeAll (pys (ns.map dN)) (pys (ms.map dN)) = true := by
  induction ns generalizing ms with
  | nil => cases ms <;> rfl
  | cons n ns ih =>
    cases ms with
    | nil => rfl
    | cons m ms =>
      show PySem.W.alikeAll (_ :: _) (_ :: _) = true
      rw [PySem.W.alikeAll, show pys (List.map dN ns) = pys (List.map dN ns) from rfl, ih ms]; rfl
theorem rows_mem {zs : List Sz} {d : D} (h : d ∈ rowsD zs) : ∃ f s, f ∈ perms zs.length ∧ s ∈ perms zs.length ∧ d = rowD zs f s := by
  unfold rowsD at h
  obtain ⟨f, hf, h⟩ := List.mem_flatMap.mp h
  obtain ⟨s, hs, rfl⟩ := List.mem_map.mp h
  exact ⟨f, s, hf, hs, rfl⟩
theorem rows_nb (zs : List Sz) : nbs (rowsD zs) = true := nbs_of fun d hd => by
  obtain ⟨f, s, _, _, rfl⟩ := rows_mem hd
  show nbs [_, _, _] = true
  rw [nbs, nbs, nbs, nbs, nb_ord, nb_ord]; rfl
theorem rows_alike (zs : List Sz) : PySem.W.AlikeAll (pys (rowsD zs)) := by
  refine ⟨fun x hx y hy => ?_, fun x hx => ?_⟩
  · rw [pys_map] at hx hy
    obtain ⟨d, hd, rfl⟩ := List.mem_map.mp hx
    obtain ⟨e, he, rfl⟩ := List.mem_map.mp hy
    obtain ⟨f, s, _, _, rfl⟩ := rows_mem hd
    obtain ⟨f', s', _, _, rfl⟩ := rows_mem he
    show PySem.W.alikeAll [.int _, .tuple _, .tuple _] [.int _, .tuple _, .tuple _] = true
    have h1 : PySem.W.alike (.tuple (pys (f.map dN))) (.tuple (pys (f'.map dN))) = true := by rw [PySem.W.alike]; exact alike_ints f f'
    have h2 : PySem.W.alike (.tuple (pys (s.map dN))) (.tuple (pys (s'.map dN))) = true := by rw [PySem.W.alike]; exact alike_ints s s'
    rw [PySem.W.alikeAll, PySem.W.alikeAll, PySem.W.alikeAll, h1, h2]; rfl
  · rw [pys_map] at hx
    obtain ⟨d, hd, rfl⟩ := List.mem_map.mp hx
    obtain ⟨f, s, _, _, rfl⟩ := rows_mem hd
    exact fun z => nomatch z
theorem rows_depth (zs : List Sz) : PyData.depthAll (pys (rowsD zs)) ≤ 3 := depthAll_le fun x hx => by
  rw [pys_map] at hx
  obtain ⟨d, hd, rfl⟩ := List.mem_map.mp hx
  obtain ⟨f, s, _, _, rfl⟩ := rows_mem hd
  show (PyData.tuple [.int _, (dOrd f).py, (dOrd s).py]).depth ≤ 3
  have h1 := depth_ord f
  have h2 := depth_ord s
  simp only [PyData.depth, PyData.depthAll] at *
  omega
end Fl

/-! FloK -/
namespace Fl
open PySem L2 PyProof.Rows
variable {T : Tbs}
variable {P : Program} {w : World} {K : PySem.W.Frag} {mg : Str → Option Value} {base : Heap}
/-- plain slots: no own objects among them -/
def Pl (r : List Sl) : Prop := ∀ l, NoOwn l r
abbrev RBestPack : Rel := fun ds out => ∃ zs, ds = [dSizes zs] ∧ SizesOk zs ∧ zs.length ≤ 4 ∧ (∀ f s, IsOrd zs.length f → IsOrd zs.length s → CMul (wid (packedIn zs f s)) (hei (packedIn zs f s))) ∧ out = minRow (rowsD zs)
theorem sc33 : FnScope ["sizes", "rows", "first", "second", "width", "height"] ["sizes"] (defScope (topS 33)) := ⟨rfl, rfl, rfl, by decide +kernel, rfl, by decide +kernel, by decide +kernel⟩
theorem packedIn_len (zs : List Sz) (f s : List Nat) : (packedIn zs f s).length = zs.length := by unfold packedIn; simp
theorem fn_best_packing (Dd : Df K mg "best_packing" (topS 33) ["sizes"]) (B : Nb mg) (F17 : Fn T P w K mg base 4 "need_sizes" RNeedSizes) (F32 : Fn T P w K mg base 1 "permutations" RPerms) (F26 : Fn T P w K mg base 1 "packed_in" RPackedIn) (F23 : Fn T P w K mg base 1 "bounds_in" RBoundsIn) : Fn T P w K mg base 5 "best_packing" RBestPack := by
  refine fn_df _ Dd sc33 (by rintro ds out ⟨_, rfl, _, _, _, rfl⟩; rfl) (fun f cdv A outer s0 H E ds out hr ⟨zs, h1, hz, h4, hc, h2⟩ => ?_)
  subst h1 h2
  have h256 := perms_256 h4
  have hlo := hz.lo
  refine xs_then (xt_expr (ed_call F17 hr (ea_cons (ed_var 0) ea_nil) ⟨_, rfl, hz, rfl⟩) rfl) ?_
  refine xs_ifF ((et_gt (ed_lenN B.len (ed_var 0) (.t _) (List.length_map _)) ed_int).to (by simp; omega)) ?_
  refine xs_cons (fun r => ∃ l, r = [.d (dSizes zs), .ol l [], .any, .any, .any, .any]) (xt_asgF 1 (ef_lst ea_nil (by simp)) (fun l _ => ⟨l, rfl⟩) sc33.nd) ?_
  rintro _ ⟨l, rfl⟩
  let rowsF : List Nat → List D := fun f => (perms zs.length).map fun s => rowD zs f s
  have hrl : ∀ f, (rowsF f).length ≤ 256 := fun f => by show (List.map _ _).length ≤ _; rw [List.length_map]; exact h256
  refine xs_cons (fun r => ∃ a b c d, r = [.d (dSizes zs), .ol l (rowsD zs), a, b, c, d]) (xt_for1 2 (fun i r => ∃ a b c d, r = [.d (dSizes zs), .ol l (((perms zs.length).take i).flatMap rowsF), a, b, c, d] ∧ Pl [a, b, c, d]) (ei_list (ed_call F32 (hr.mono (by decide)) (ea_cons (ed_lenN B.len (ed_var 0) (.t _) (List.length_map _)) ea_nil) ⟨_, rfl, h4, rfl⟩)) sc33.nd ⟨.any, .any, .any, .any, rfl, fun _ => trivial⟩ ?_ ?_) ?_
  · rintro i d ρ' hd ⟨a, b, c, e, rfl, hpl⟩
    obtain ⟨f1, hf1, rfl⟩ := map_at' hd
    have hfm := List.mem_of_getElem? hf1
    have hpl2 : Pl [b, c, e] := fun l => by have := hpl l; cases a <;> first | exact this.2 | exact this
    have hi := at_lt hf1
    refine xs_one (xt_for1 3 (fun j r => ∃ b c d, r = [.d (dSizes zs), .ol l (((perms zs.length).take i).flatMap rowsF ++ ((perms zs.length).take j).map (rowD zs f1)), .d (dOrd f1), b, c, d] ∧ Pl [b, c, d]) (ei_list (ed_call F32 (hr.mono (by decide)) (ea_cons (ed_lenN B.len (ed_var 0) (.t _) (List.length_map _)) ea_nil) ⟨_, rfl, h4, rfl⟩)) sc33.nd ⟨b, c, e, by simp, hpl2⟩ ?_ ?_)
    · rintro j d2 ρ2 hd2 ⟨b2, c2, e2, rfl, hpl3⟩
      obtain ⟨f2, hf2, rfl⟩ := map_at' hd2
      have hfm2 := List.mem_of_getElem? hf2
      have hj := at_lt hf2
      refine xs_then (xt_unpack (n := 2) [4, 5] (ed_call F23 (hr.mono (by decide)) (ea_cons (ed_call F26 (hr.mono (by decide)) (ea_cons (ed_var 0) (ea_cons (ed_var 2) (ea_cons (ed_var 3) ea_nil))) ⟨zs, f1, f2, rfl, by omega, perms_ord hfm, perms_ord hfm2, rfl⟩) ea_nil)
        ⟨packedIn zs f1 f2, .inl rfl, ?_, ?_, rfl⟩) rfl rfl (pg_tup rfl (pgs_cons (pg_name (i := 4) sc33.nd rfl (.inl rfl)) (pgs_cons (pg_name (i := 5) sc33.nd rfl (.inl rfl)) pgs_nil)))) ?_
      · intro z
        have := packedIn_len zs f1 f2
        rw [z] at this; simp at this; omega
      · rw [packedIn_len]; omega
      refine xs_one (xt_appN (ds := ((perms zs.length).take i).flatMap rowsF ++ ((perms zs.length).take j).map (rowD zs f1)) (d := rowD zs f1 f2) 1 (ed_tup (ea_cons (ed_mul (hc f1 f2 (perms_ord hfm) (perms_ord hfm2)) (ed_var 4) (ed_var 5)) (ea_cons (ed_var 2) (ea_cons (ed_var 3) ea_nil))) (by simp)) ?_ trivial ⟨.d (dOrd f2), .d (.int (wid (packedIn zs f1 f2))), .d (.int (hei (packedIn zs f1 f2))), ?_, fun _ => trivial⟩)
      · rw [List.length_append, List.length_map, List.length_take]
        have h3 := flat_le rowsF 256 ((perms zs.length).take i) fun x _ => hrl x
        rw [List.length_take] at h3
        have h5 : min i (perms zs.length).length ≤ 256 := by omega
        have h6 : min i (perms zs.length).length * 256 ≤ 256 * 256 := Nat.mul_le_mul_right _ h5
        omega
      · rw [take_at hf2, List.map_append, ← List.append_assoc]; rfl
    · rintro ρ2 ⟨b2, c2, e2, rfl, hpl3⟩
      refine ⟨.d (dOrd f1), b2, c2, e2, ?_, hpl3⟩
      rw [List.length_map, List.take_length, take_at hf1, List.flatMap_append, List.flatMap_cons, List.flatMap_nil, List.append_nil]
  · rintro ρ2 ⟨a, b2, c2, e2, rfl, hpl3⟩
    refine ⟨a, b2, c2, e2, ?_⟩
    rw [List.length_map, List.take_length]; rfl
  · rintro ρ2 ⟨a, b2, c2, e2, rfl⟩
    have hne : rowsD zs ≠ [] := by
      intro z
      have hm : rowD zs (List.range zs.length) (List.range zs.length) ∈ rowsD zs := List.mem_flatMap.mpr ⟨_, perms_all (range_ord _), List.mem_map.mpr ⟨_, perms_all (range_ord _), rfl⟩⟩
      rw [z] at hm; simp at hm
    have hu := hr.units
    obtain ⟨d0, ds0, hd0⟩ := List.exists_cons_of_ne_nil hne
    have n1 := rows_nb zs
    have n2 := rows_alike zs
    have n3 := rows_depth zs
    rw [hd0] at n1 n2 n3 ⊢
    exact xs_one (xt_ret (ed_minD rfl B.min (ed_var 1) (.o l _) n1 n2 (by
      have hu : A.units + 3 + 64 < cLine := hu
      show A.units + 3 + 1 + _ < cLine
      omega)) rfl)
/-! shapes_of -/
theorem shapesK_fuel : ∀ (k m : Nat) (o : List Nat), o.length ≤ k → o.length ≤ m → shapesK k o = shapesK m o
  | 0, m, o, h, _ => by
    have : o = [] := List.eq_nil_of_length_eq_zero (by omega)
    subst this
    cases m <;> rfl
  | k + 1, m, [], _, _ => by cases m <;> rfl
  | k + 1, 0, x :: xs, _, h => by simp at h
  | k + 1, m + 1, x :: xs, h1, h2 => by
    simp only [shapesK]
    congr 1; funext a
    have e1 : ∀ ys : List Nat, ys.length ≤ xs.length → shapesK k ys = shapesK m ys := fun ys hy => shapesK_fuel k m ys (by simp at h1; omega) (by simp at h2; omega)
    rw [e1 (xs.take a) (by rw [List.length_take]; omega), e1 (xs.drop a) (by rw [List.length_drop]; omega)]
theorem shapes_nil : shapes [] = [.nil] := rfl
theorem shapes_cons (x : Nat) (xs : List Nat) : shapes (x :: xs) = (List.range (xs.length + 1)).flatMap fun a => (shapes (xs.take a)).flatMap fun l => (shapes (xs.drop a)).map fun r => .node x l r := by
  show shapesK (xs.length + 1) (x :: xs) = _
  simp only [shapesK]
  congr 1; funext a
  rw [shapesK_fuel xs.length (xs.take a).length (xs.take a) (by rw [List.length_take]; omega) (Nat.le_refl _), shapesK_fuel xs.length (xs.drop a).length (xs.drop a) (by rw [List.length_drop]; omega) (Nat.le_refl _)]
  rfl
theorem shapes_len (o : List Nat) (h : o.length ≤ 4) : (shapes o).length ≤ 14 := by
  match o, h with
  | [], _ => decide
  | [a], _ => exact (by decide : 1 ≤ 14)
  | [a, b], _ => exact (by decide : 2 ≤ 14)
  | [a, b, c], _ => exact (by decide : 5 ≤ 14)
  | [a, b, c, d], _ => exact (by decide : 14 ≤ 14)
abbrev RShapes (d : Nat) : Rel := fun ds out => ∃ o : List Nat, ds = [dOrd o] ∧ o.length ≤ d ∧ o.length ≤ 4 ∧ out = .lst ((shapes o).map dBu)
theorem sc40 : FnScope ["blocks", "found", "at", "left", "right"] ["blocks"] (defScope (topS 40)) := ⟨rfl, rfl, rfl, by decide +kernel, rfl, by decide +kernel, by decide +kernel⟩
theorem ord_eq_nil (o : List Nat) : eqD (dOrd o) (.tup []) = decide (o = []) := by
  cases o with
  | nil => rfl
  | cons n o => simp [eqD, D.py, pys, PyData.eqv, PyData.eqvAll]
theorem fn_shapes_of (Dd : Df K mg "shapes_of" (topS 40) ["blocks"]) (B : Nb mg) : ∀ d, Fn T P w K mg base (d + 1) "shapes_of" (RShapes d)
  | 0 => by
    refine fn_df _ Dd sc40 (by rintro ds out ⟨_, rfl, _, _, rfl⟩; rfl) (fun f cdv A outer s0 H E ds out hr ⟨o, h1, hd, hl, h2⟩ => ?_)
    obtain rfl : o = [] := List.eq_nil_of_length_eq_zero (by omega)
    subst h1 h2
    exact xs_ifL ((et_eqD hr.units (ed_var 0) (ed_tup ea_nil (by simp)) rfl rfl (by decide) (by decide)).to (ord_eq_nil [])) (fun _ => xs_one (xt_ret (ef_lst (ea_cons ed_non ea_nil) (by simp)).ed rfl)) fun z => by simp at z
  | d + 1 => by
    have F := fn_shapes_of Dd B d
    refine fn_df _ Dd sc40 (by rintro ds out ⟨_, rfl, _, _, rfl⟩; rfl) (fun f cdv A outer s0 H E ds out hr ⟨o, h1, hd, hl, h2⟩ => ?_)
    subst h1 h2
    refine xs_ifL ((et_eqD hr.units (ed_var 0) (ed_tup ea_nil (by simp)) (nb_ord o) rfl (by have := depth_ord o; omega) (by decide)).to (ord_eq_nil o)) (fun h => xs_one (xt_ret (ef_lst (ea_cons ed_non ea_nil) (by simp)).ed ?_)) fun h => ?_
    · have : o = [] := by simpa using h
      subst this; rfl
    · obtain ⟨x, xs, rfl⟩ := List.exists_cons_of_ne_nil (show o ≠ [] by simpa using h)
      have hxl : xs.length + 1 ≤ 4 := by simpa using hl
      have hxd : xs.length ≤ d := by simpa using hd
      refine xs_cons (fun r => ∃ l, r = [.d (dOrd (x :: xs)), .ol l [], .any, .any, .any]) (xt_asgF 1 (ef_lst ea_nil (by simp)) (fun l _ => ⟨l, rfl⟩) sc40.nd) ?_
      rintro _ ⟨l, rfl⟩
      let inner : Nat → Bu → List Bu := fun a lf => (shapes (xs.drop a)).map fun r => .node x lf r
      let mid : Nat → List Bu := fun a => (shapes (xs.take a)).flatMap (inner a)
      have hin : ∀ a lf, (inner a lf).length ≤ 14 := fun a lf => by
        show (List.map _ _).length ≤ _
        rw [List.length_map]; exact shapes_len _ (by rw [List.length_drop]; omega)
      have hmid : ∀ a, (mid a).length ≤ 14 * 14 := fun a => by
        have h1 := flat_le (inner a) 14 (shapes (xs.take a)) fun y _ => hin a y
        have h2 := shapes_len (xs.take a) (by rw [List.length_take]; omega)
        have : (shapes (xs.take a)).length * 14 ≤ 14 * 14 := Nat.mul_le_mul_right _ h2
        show ((shapes (xs.take a)).flatMap (inner a)).length ≤ _
        omega
      refine xs_cons (fun r => ∃ a b, r = [.d (dOrd (x :: xs)), .ol l ((shapes (x :: xs)).map dBu), a, b, .any]) (xt_for1 2 (fun i r => ∃ a b, r = [.d (dOrd (x :: xs)), .ol l (((List.range i).flatMap mid).map dBu), a, b, .any] ∧ Pl [a, b]) (ei_range B.range (ed_lenN B.len (ed_var 0) (.t _) (List.length_map _)) (by simp; omega) (by simp; omega)) sc40.nd ⟨.any, .any, rfl, fun _ => trivial⟩ ?_ ?_) ?_
      · rintro i d0 ρ' hd0 ⟨a, b, rfl, hpl⟩
        obtain ⟨hi, rfl⟩ := rg_at hd0
        have hi : i < xs.length + 1 := by simpa using hi
        have hpl2 : Pl [b] := fun l => by have := hpl l; cases a <;> first | exact this.2 | exact this
        refine xs_one (xt_for1 3 (fun j r => ∃ b, r = [.d (dOrd (x :: xs)), .ol l (((List.range i).flatMap mid ++ ((shapes (xs.take i)).take j).flatMap (inner i)).map dBu), .d (dN i), b, .any] ∧ Pl [b])
          (ei_list (ed_call F hr (ea_cons ((ed_slT (ed_var 0) (eo_some ed_int) (eo_some (ed_add (ed_var 2) ed_int))).to (r' := .d (dOrd (xs.take i))) ?_) ea_nil) ⟨xs.take i, rfl, by rw [List.length_take]; omega, by rw [List.length_take]; omega, rfl⟩)) sc40.nd ⟨b, by simp, hpl2⟩ ?_ ?_)
        · have := cut_mid (ds := (x :: xs).map dN) 1 (i + 1) (by omega)
          rw [show (((i + 1 : Nat) : Int)) = (i : Int) + 1 from rfl] at this
          show Sl.d (.tup (cutD ((x :: xs).map dN) (some ((1 : Nat) : Int)) (some ((i : Int) + 1)))) = _
          rw [this]; simp [List.map_take]
        · rintro j d1 ρ2 hd1 ⟨b2, rfl, hpl3⟩
          obtain ⟨lf, hlf, rfl⟩ := map_at' hd1
          have hj := at_lt hlf
          have hsl := shapes_len (xs.take i) (by rw [List.length_take]; omega)
          refine xs_one (xt_extN (ds := ((List.range i).flatMap mid ++ ((shapes (xs.take i)).take j).flatMap (inner i)).map dBu) (es' := (shapes (xs.drop i)).map fun r => dBu (.node x lf r)) 1
            (ef_lc1 ["blocks", "found", "at", "left", "right"] (defScope (topS 40)) 4 sc40.nd (shapes (xs.drop i)) dBu (fun r => dBu (.node x lf r)) (ei_list (ed_call F hr (ea_cons ((ed_slT (ed_var 0) (eo_some (ed_add (ed_var 2) ed_int)) eo_none).to (r' := .d (dOrd (xs.drop i))) ?_) ea_nil) ⟨xs.drop i, rfl, by rw [List.length_drop]; omega, by rw [List.length_drop]; omega, rfl⟩))
              (fun r _ _ _ _ _ _ => ed_tup (ea_cons (ed_ix (x := dN x) (ed_var 0) (.t _) ed_int (by decide) rfl) (ea_cons (ed_var 3) (ea_cons (ed_var 4) ea_nil))) (by simp)) rfl ?_) ?_ trivial ⟨.d (dBu lf), ?_, fun _ => trivial⟩)
          · have := cut_from (ds := (x :: xs).map dN) (i + 1)
            rw [show (((i + 1 : Nat) : Int)) = (i : Int) + 1 from rfl] at this
            show Sl.d (.tup (cutD ((x :: xs).map dN) (some ((i : Int) + 1)) none)) = _
            rw [this]; simp [List.map_drop]
          · have := shapes_len (xs.drop i) (by rw [List.length_drop]; omega); omega
          · have h1 := flat_le mid (14 * 14) (List.range i) fun y _ => hmid y
            have h2 := flat_le (inner i) 14 ((shapes (xs.take i)).take j) fun y _ => hin i y
            have h3 := shapes_len (xs.drop i) (by rw [List.length_drop]; omega)
            rw [List.length_range] at h1
            rw [List.length_take] at h2
            rw [List.length_map, List.length_append, List.length_map]
            have h4 : i * (14 * 14) ≤ 4 * (14 * 14) := Nat.mul_le_mul_right _ (by omega)
            have h5 : min j (shapes (xs.take i)).length * 14 ≤ 14 * 14 := Nat.mul_le_mul_right _ (by omega)
            omega
          · have : (inner i lf).map dBu = (shapes (xs.drop i)).map fun r => dBu (.node x lf r) := by show (List.map _ _).map dBu = _; rw [List.map_map]; rfl
            rw [take_at hlf, List.flatMap_append, List.flatMap_cons, List.flatMap_nil, List.append_nil, ← List.append_assoc, List.map_append (l₂ := inner i lf), this]; rfl
        · rintro ρ2 ⟨b2, rfl, hpl3⟩
          refine ⟨.d (dN i), b2, ?_, hpl3⟩
          rw [List.length_map, List.take_length, List.range_succ, List.flatMap_append, List.flatMap_cons, List.flatMap_nil, List.append_nil]
      · rintro ρ2 ⟨a, b, rfl, _⟩
        refine ⟨a, b, ?_⟩
        have : (rgD (((x :: xs).length : Nat) : Int)).length = xs.length + 1 := by rw [rg_nat]; simp
        rw [this, shapes_cons]
      · rintro ρ2 ⟨a, b, rfl⟩
        exact xs_one (xt_retO (ed_var 1) rfl)
end Fl

/-! FloQ -/
/-! Defs that write an object of the caller's. -/
namespace Fl
open PySem L2 PyProof.Rows
variable {T : Tbs}
/-- any promise of a def -/
structure FnS (P : Program) (w : World) (K : PySem.W.Frag) (mg : Str → Option Value) (base : Heap) (k : Nat) (x : Str) (sp : Sp) : Prop where
  ex : ∃ f fd ps, FnOk P w K mg base CX0 k f fd ps sp ∧ mg x = some (.ref f) ∧ PySem.W.keepIn K (.ref f) = true ∧ Binds K fd ps []
section
variable {P : Program} {w : World} {K : PySem.W.Frag} {mg : Str → Option Value} {base : Heap}
theorem FnS.mono {j k : Nat} {x : Str} {sp : Sp} (F : FnS P w K mg base j x sp) (h : j ≤ k) : FnS P w K mg base k x sp := by
  obtain ⟨f, fd, ps, ok, hmg, hk, hb⟩ := F.ex
  exact ⟨f, fd, ps, ok.mono h, hmg, hk, hb⟩
theorem FnS.imp {k : Nat} {x : Str} {sp sp' : Sp} (F : FnS P w K mg base k x sp) (h : ∀ vs H Q E, sp' vs H Q E → sp vs H Q E) : FnS P w K mg base k x sp' := by
  obtain ⟨f, fd, ps, ok, hmg, hk, hb⟩ := F.ex
  exact ⟨f, fd, ps, ok.imp h, hmg, hk, hb⟩
end
theorem S.up {Hb : Hp} {Ob O : Ow} {H : Hp} {σ : L2.St} {ρ : List Sl} {i : Nat} {r : Sl} {v : V} (s : S T Hb Ob O H σ (ρ.set i .any)) (hv : σ[i]? = some (some v)) (h : ROk Ob O H v r) : S T Hb Ob O H σ (ρ.set i r) := by
  refine ⟨s.ex, s.ob, s.own, s.oin, s.kind, s.tabs, by rw [s.len]; simp, fun j r' hj => ?_⟩
  by_cases e : i = j
  · subst e
    have hl : i < ρ.length := by have := at_lt hj; simpa using this
    rw [List.getElem?_set_self hl] at hj
    cases hj
    exact .inr ⟨v, hv, h⟩
  · rw [List.getElem?_set_ne e] at hj
    exact s.get j r' (by rw [List.getElem?_set_ne e]; exact hj)
theorem S.drop {Hb : Hp} {Ob O : Ow} {H : Hp} {σ : L2.St} {ρ : List Sl} (s : S T Hb Ob O H σ ρ) (i : Nat) : S T Hb Ob O H σ (ρ.set i .any) := by
  refine s.weak ⟨by simp, fun j r hj => ?_⟩
  by_cases e : i = j
  · subst e
    have hl : i < ρ.length := by have := at_lt hj; simpa using this
    rw [List.getElem?_set_self hl] at hj
    cases hj; exact .inl rfl
  · rw [List.getElem?_set_ne e] at hj; exact .inr hj
open Classical in
/-- all but q -/
noncomputable def offH (q : Addr) (H : Hp) : Hp := fun a => if a = q then none else H a
theorem off_ne {q a : Addr} {H : Hp} (h : a ≠ q) : offH q H a = H a := by unfold offH; rw [if_neg h]
theorem off_of {q a : Addr} {H : Hp} {o : HO} (h : offH q H a = some o) : H a = some o ∧ a ≠ q := by
  unfold offH at h
  split at h
  · cases h
  · rename_i n; exact ⟨h, n⟩
/-- the start of a def that writes q -/
theorem start_O {H : Hp} {O : Ow} {q : Addr} {σ : L2.St} {ρ : List Sl} (hO : ∀ a, O a → H a ≠ none) (hT : LamX.Tabs T H) (hq : O q) (hk : ∃ o, H q = some o ∧ LD o) (hl : σ.length = ρ.length)
    (hg : ∀ (i : Nat) (r : Sl), ρ[i]? = some r → r = .any ∨ ∃ v, σ[i]? = some (some v) ∧ ROk (fun a => O a ∧ a ≠ q) O H v r) : S T (offH q H) (fun a => O a ∧ a ≠ q) O H σ ρ := by
  refine ⟨⟨fun a o h _ => (off_of h).1, fun a h z => ?_, fun t => tabs_ld t fun a o h _ => (off_of h).1⟩, fun a h => h.1, fun a h n => ?_, hO, fun a h n => ?_, hT, hl, hg⟩
  · by_cases e : a = q
    · subst e; unfold offH at h; rw [if_pos rfl] at h; exact h rfl
    · rw [off_ne e] at h; exact h z
  · by_cases e : a = q
    · subst e; unfold offH; rw [if_pos rfl]
    · exact absurd ⟨h, e⟩ n
  · by_cases e : a = q
    · subst e; exact hk
    · exact absurd ⟨h, e⟩ n
theorem S.ends {H H' : Hp} {O O' : Ow} {q : Addr} {σ : L2.St} {ρ : List Sl} (s : S T (offH q H) (fun a => O a ∧ a ≠ q) O' H' σ ρ) (hq : O' q) : ExQ T q H H' ∧ ∀ a, O a → O' a := by
  refine ⟨⟨fun a o n h nt => s.ex.keep a o (by rw [off_ne n]; exact h) nt, fun a h => ?_, fun _ => s.tabs⟩, fun a h => ?_⟩
  · by_cases e : a = q
    · subst e; exact s.oin _ hq
    · exact s.ex.some a (by rw [off_ne e]; exact h)
  · by_cases e : a = q
    · subst e; exact hq
    · exact s.ob a ⟨h, e⟩
/-! ### grow -/
abbrev dSp (acc : List (Nat × Spot)) : List (Int × D) := acc.map fun p => ((p.1 : Int), dSpot p.2)
structure GrowOk (zs : List Sz) (b : Bu) (acc : List (Nat × Spot)) : Prop where
  len : zs.length ≤ 8
  nd : (acc.map (·.1) ++ b.ns).Nodup
  lt : ∀ n ∈ acc.map (·.1) ++ b.ns, n < zs.length
def spGrow (T : Tbs) (d : Nat) : Sp := fun vs H Q _ => ∃ (O : Ow) (zs : List Sz) (b : Bu) (left : Int) (acc : List (Nat × Spot)) (q : Addr) (v1 v2 : V) (ks : List (L2.Key × V)),
  vs = [v1, v2, .int left, .ref q] ∧ (∀ a, O a → H a ≠ none) ∧ LamX.Tabs T H ∧ O q ∧ Den O H v1 (dSizes zs) ∧ Den O H v2 (dBu b) ∧ H q = some (.dK ks) ∧ DenK O H ks (dSp acc) ∧ b.dep ≤ d ∧ GrowOk zs b acc ∧
  ∀ H' ks', ExQ T q H H' → H' q = some (.dK ks') → DenK O H' ks' (dSp (growF zs b left acc)) → Q .non H'
theorem growF_keys (zs : List Sz) : ∀ (b : Bu) (left : Int) (acc : List (Nat × Spot)), (growF zs b left acc).map (·.1) = acc.map (·.1) ++ b.ns
  | .nil, _, acc => by simp [growF, Bu.ns]
  | .node n l r, left, acc => by
    rw [growF, growF_keys zs r, growF_keys zs l, List.map_append, Bu.ns]
    simp
section
variable {X : Cx} {ρ : List Sl} {a b c e e1 e2 e3 : Expr} {pos p np cpos : Pos} {P : Po}
theorem xt_grow {d k : Nat} {x : Str} {l : Addr} {zs : List Sz} {b : Bu} {left : Int} {acc : List (Nat × Spot)} (G : FnS X.prog X.w X.K X.mg X.base k "grow" (spGrow T d)) (hr : Room k X.A) (i : Nat) (h1 : ED T X ρ e1 (.d (dSizes zs))) (h2 : ED T X ρ e2 (.d (dBu b))) (h3 : ED T X ρ e3 (.d (.int left)))
    (hd : b.dep ≤ d) (ok : GrowOk zs b acc) (hno : NoOwn l (ρ.set i .any)) (q : P.nx (ρ.set i (.od l (dSp (growF zs b left acc))))) (hl : ρ[i]? = some (.od l (dSp acc)) := by rfl)
    (hN : X.N[i]? = some x := by rfl) (hv : Vis X.env.scope x := by first | exact Or.inl rfl | exact Or.inr (Or.inl rfl) | exact Or.inr (Or.inr rfl))
    (hdx : (x == ("__debug__" : Str)) = false := by decide) (hcd : (x == ("__classdict__" : Str)) = false := by decide) (hg : Gl X "grow" := by rfl)
    (s1 : starEach [e1, e2, e3, .Name x np] X.env = (false, eval e1 X.env) :: starEach [e2, e3, .Name x np] X.env := by rfl) (s2 : starEach [e2, e3, .Name x np] X.env = (false, eval e2 X.env) :: starEach [e3, .Name x np] X.env := by rfl)
    (s3 : starEach [e3, .Name x np] X.env = (false, eval e3 X.env) :: starEach [.Name x np] X.env := by rfl) (s4 : starEach [.Name x np] X.env = (false, eval (.Name x np) X.env) :: starEach [] X.env := by rfl)
    (hpl : (backTo cpos (starEach [e2, e3, .Name x np] X.env)).any (·.1) = false := by rfl)
    (hs : swapsWith (.Call (.Name "grow" p) [e1, e2, e3, .Name x np] [] cpos) none pos.line X.env = pure false := by rfl) : XT T X ρ (.Expr (.Call (.Name "grow" p) [e1, e2, e3, .Name x np] [] cpos) pos) P := by
  obtain ⟨f, fd, ps, okf, hmg, hk, hb⟩ := G.ex
  refine fun Hb Ob O σ H s Dn kk => wpS_of (ps_expr (pe_call okf hr hg hmg hk hb .nil pass0 (pa_cons (wpE_pe X e1) (pa_cons (wpE_pe X e2) (pa_cons (wpE_pe X e3) (pa_cons (pe_var hN hv hdx hcd) pa_nil s4) s3) s2) s1) (by decide) s1 hpl) hs) ?_
  refine h1 Hb Ob O σ H s _ fun v1 H1 x1 r1 => h2 Hb Ob O σ H1 (s.on x1) _ fun v2 H2 x2 r2 => h3 Hb Ob O σ H2 ((s.on x1).on x2) _ fun v3 H3 x3 r3 => ?_
  obtain rfl := Den.int_inv r3
  have s3' := ((s.on x1).on x2).on x3
  rcases s3'.get i _ hl with z | ⟨v, z1, rfl, w2, w3, ks, w4, w5⟩
  · cases z
  refine ⟨_, z1, ?_⟩
  show spGrow T d ([v1, v2, .int left, .ref l] ++ []) H3 (fun x H1 => Dn.nx σ H1) E0
  refine ⟨O, zs, b, left, acc, l, v1, v2, ks, rfl, s3'.oin, s3'.tabs, w2, Den.ex (Den.ex r1 x2) x3, Den.ex r2 x3, w4, w5, hd, ok, fun H' ks' eq hq hdk => ?_⟩
  have s4' := (s3'.drop i).off w2 w3 hno eq ⟨_, hq, ld_dK⟩
  exact kk.nx O σ H' _ q (s4'.up z1 ⟨rfl, w2, w3, ks', hq, hdk⟩)
end
section
variable {P : Program} {w : World} {K : PySem.W.Frag} {mg : Str → Option Value} {base : Heap}
theorem sc38 : FnScope ["sizes", "bush", "left", "found", "block", "beside", "above", "width", "height"] ["sizes", "bush", "left", "found"] (defScope (topS 38)) := ⟨rfl, rfl, rfl, by decide +kernel, rfl, by decide +kernel, by decide +kernel⟩
theorem DenK.own {O O' : Ow} {H : Hp} {ks : List (L2.Key × V)} {kvs : List (Int × D)} (h : DenK O' H ks kvs) (i : ∀ a, O a → O' a) : DenK O H ks kvs := h.mono i (.refl H)
theorem dep_node {n : Nat} {l r : Bu} {d : Nat} (h : (Bu.node n l r).dep ≤ d + 1) : l.dep ≤ d ∧ r.dep ≤ d := by
  have : max l.dep r.dep ≤ d := by simpa [Bu.dep] using h
  omega
theorem grow_body (Dd : Df K mg "grow" (topS 38) ["sizes", "bush", "left", "found"]) (B : Nb mg) (F37 : Fn T P w K mg base 1 "rest_on" RRestOn) (d : Nat) (kk : Nat) (h1k : 1 ≤ kk) (G : ∀ d', d = d' + 1 → FnS P w K mg base kk "grow" (spGrow T d')) : FnS P w K mg base (kk + 1) "grow" (spGrow T d) := by
  obtain ⟨f, fd, F, hm, hb⟩ := Dd.ex
  refine ⟨f, fd, _, F.ok sc38 (fun vs H Q E h => ?_) (fun cdv A outer s H vs Q E hr h => ?_), hm, F.kp, hb⟩
  · obtain ⟨O, zs, b, left, acc, q, v1, v2, ks, rfl, _⟩ := h; rfl
  · obtain ⟨O, zs, b, left, acc, q, v1, v2, ks, rfl, hO, hT, hq, r1, r2, hqd, hdk, hd, ok, hQ⟩ := h
    refine ⟨_, wpSs_ps _ _, ?_⟩
    have st : S T (offH q H) (fun a => O a ∧ a ≠ q) O H (L2.start ["sizes", "bush", "left", "found", "block", "beside", "above", "width", "height"] [v1, v2, .int left, .ref q]) [.d (dSizes zs), .d (dBu b), .d (.int left), .od q (dSp acc), .any, .any, .any, .any, .any] := by
      refine start_O hO hT hq ⟨_, hqd, ld_dK⟩ rfl fun i r hi => ?_
      have less : ∀ {v : V} {d : D}, Den O H v d → Den O H v d := fun h => h
      match i, hi with
      | 0, hi => cases hi; exact .inr ⟨v1, rfl, r1⟩
      | 1, hi => cases hi; exact .inr ⟨v2, rfl, r2⟩
      | 2, hi => cases hi; exact .inr ⟨_, rfl, .int _⟩
      | 3, hi => cases hi; exact .inr ⟨_, rfl, rfl, hq, fun z => z.2 rfl, ks, hqd, hdk⟩
      | 4, hi => cases hi; exact .inl rfl
      | 5, hi => cases hi; exact .inl rfl
      | 6, hi => cases hi; exact .inl rfl
      | 7, hi => cases hi; exact .inl rfl
      | 8, hi => cases hi; exact .inl rfl
      | n + 9, hi => simp at hi
    have fin : ∀ (O' : Ow) (σ : L2.St) (H' : Hp) (ρ : List Sl), ρ[3]? = some (.od q (dSp (growF zs b left acc))) → S T (offH q H) (fun a => O a ∧ a ≠ q) O' H' σ ρ → Q .non H' := fun O' σ H' ρ h3 s' => by
      rcases s'.get 3 _ h3 with z | ⟨v, z1, rfl, w2, w3, ks', w4, w5⟩
      · cases z
      · obtain ⟨e1, e2⟩ := s'.ends w2
        exact hQ H' ks' e1 w4 (w5.own e2)
    have body : XS T (cxOf CX0 P w K mg base ["sizes", "bush", "left", "found", "block", "beside", "above", "width", "height"] "grow" (defScope (topS 38)) f cdv A outer s H E).nox [.d (dSizes zs), .d (dBu b), .d (.int left), .od q (dSp acc), .any, .any, .any, .any, .any] (defBody (topS 38))
        { nx := fun r => r[3]? = some (.od q (dSp (growF zs b left acc))), rs := fun r d => d = .non ∧ r[3]? = some (.od q (dSp (growF zs b left acc))) } := by
      cases b with
      | nil => exact xs_ifL ((et_isN (ed_var 1)).to (y := true) rfl) (fun _ => xs_one (xt_retNS ⟨rfl, rfl⟩)) fun z => Bool.noConfusion z
      | node n l r =>
        obtain ⟨d', rfl⟩ : ∃ d', d = d' + 1 := ⟨d - 1, by simp [Bu.dep] at hd; omega⟩
        obtain ⟨hdl, hdr⟩ := dep_node hd
        have Gd := G d' rfl
        have hu := hr.units
        have hn : n < zs.length := ok.lt n (by simp [Bu.ns])
        have nd := ok.nd
        have hna : n ∉ acc.map (·.1) := fun h => by
          rw [List.nodup_append] at nd
          exact nd.2.2 n h n (by simp [Bu.ns]) rfl
        have hal : acc.length ≤ 8 := by
          have h1 := List.Nodup.length_le_of_subset ((List.nodup_append.mp nd).1) (l₂ := List.range zs.length) (fun x hx => List.mem_range.mpr (ok.lt x (List.mem_append_left _ hx)))
          rw [List.length_map, List.length_range] at h1
          have := ok.len; omega
        let acc1 : List (Nat × Spot) := acc ++ [(n, ⟨left, restOn (acc.map (·.2)) left (szAt zs n).1, (szAt zs n).1, (szAt zs n).2⟩)]
        have ok1 : GrowOk zs l acc1 := by
          refine ⟨ok.len, ?_, fun m hm => ok.lt m ?_⟩
          · have : acc1.map (·.1) ++ l.ns = acc.map (·.1) ++ (n :: l.ns) := by simp [acc1]
            rw [this]
            refine nd.sublist ((List.Sublist.refl _).append ?_)
            simp [Bu.ns]
          · simp [acc1, Bu.ns] at hm ⊢
            rcases hm with hm | hm | hm
            · exact .inl hm
            · exact .inr (.inl hm)
            · exact .inr (.inr (.inl hm))
        have ok2 : GrowOk zs r (growF zs l (left + (szAt zs n).1) acc1) := by
          have e : (growF zs l (left + (szAt zs n).1) acc1).map (·.1) ++ r.ns = acc.map (·.1) ++ (Bu.node n l r).ns := by
            rw [growF_keys]; simp [acc1, Bu.ns]
          exact ⟨ok.len, by rw [e]; exact nd, by rw [e]; exact ok.lt⟩
        refine xs_ifF ((et_isN ((ed_var 1).to (r' := .d (.tup [dN n, dBu l, dBu r])) rfl)).to rfl) ?_
        refine xs_then (xt_unpack (n := 3) [4, 5, 6] ((ed_var 1).to (r' := .d (.tup [dN n, dBu l, dBu r])) rfl) rfl rfl (pg_tup rfl (pgs_cons (pg_name (i := 4) sc38.nd rfl (.inl rfl)) (pgs_cons (pg_name (i := 5) sc38.nd rfl (.inl rfl)) (pgs_cons (pg_name (i := 6) sc38.nd rfl (.inl rfl)) pgs_nil))))) ?_
        refine xs_then (xt_unpack (n := 2) [7, 8] (ed_ixN (ed_var 0) (.t _) (ed_var 4) (sizes_at hn)) rfl rfl (pg_tup rfl (pgs_cons (pg_name (i := 7) sc38.nd rfl (.inl rfl)) (pgs_cons (pg_name (i := 8) sc38.nd rfl (.inl rfl)) pgs_nil)))) ?_
        refine xs_then (xt_dput (kvs := dSp acc) (l := q) (k := (n : Int)) (d := dSpot ⟨left, restOn (acc.map (·.2)) left (szAt zs n).1, (szAt zs n).1, (szAt zs n).2⟩) 3 (by show A.units + 3 + 1 < cLine; have : A.units + 3 + 64 < cLine := hu; omega) rfl
          (ed_tup (ea_cons (ed_var 2) (ea_cons (ed_call F37 (hr.mono h1k) (ea_cons ((ef_listVals rfl B.list (ed_var 3) (.inr ⟨_, rfl⟩)).ed.to (r' := .d (.lst ((acc.map (·.2)).map dSpot))) (by unfold dSp; rw [List.map_map, List.map_map]; rfl)) (ea_cons (ed_var 2) (ea_cons (ed_var 7) ea_nil))) ⟨acc.map (·.2), left, (szAt zs n).1, rfl, by rw [List.length_map]; omega, rfl⟩) (ea_cons (ed_var 7) (ea_cons (ed_var 8) ea_nil)))) (by simp))
          (ed_var 4) (lookD_none ?_) ?_ ?_ rfl (pe_var rfl (.inl rfl) (by decide) (by decide))) ?_
        · unfold dSp
          rw [List.map_map]
          intro hm
          obtain ⟨p, hp, e⟩ := List.mem_map.mp hm
          exact hna (List.mem_map.mpr ⟨p, hp, Int.ofNat.inj e⟩)
        · unfold dSp; rw [List.length_map]; omega
        · trivial
        refine xs_then (ρ' := [.d (dSizes zs), .d (dBu (.node n l r)), .d (.int left), .od q (dSp (growF zs l (left + (szAt zs n).1) acc1)), .d (dN n), .d (dBu l), .d (dBu r), .d (.int (szAt zs n).1), .d (.int (szAt zs n).2)]) (xt_grow (acc := acc1) (b := l) (left := left + (szAt zs n).1) (zs := zs) (l := q) Gd hr 3 (ed_var 0) (ed_var 5) (ed_add (ed_var 2) (ed_var 7)) hdl ok1 trivial ?_ ?_) ?_
        · rfl
        · show some (Sl.od q (dSp acc ++ [_])) = some (Sl.od q (dSp acc1))
          simp only [acc1, dSp, List.map_append]; rfl
        refine xs_one (xt_grow (acc := growF zs l (left + (szAt zs n).1) acc1) (b := r) (left := left) (zs := zs) (l := q) Gd hr 3 (ed_var 0) (ed_var 6) (ed_var 2) hdr ok2 trivial ?_)
        rfl
    exact body (offH q H) _ O _ H st _ ⟨fun O' σ H' ρ h s' => fin O' σ H' ρ h s', fun _ _ _ _ z => z.elim, fun _ _ _ _ z => z.elim, fun v d H' z => z.elim, fun O' σ H' ρ v d h s' dv => by
      obtain ⟨rfl, h3⟩ := h
      obtain rfl := Den.non_inv dv
      exact fin O' σ H' ρ h3 s'⟩
theorem fn_grow (Dd : Df K mg "grow" (topS 38) ["sizes", "bush", "left", "found"]) (B : Nb mg) (F37 : Fn T P w K mg base 1 "rest_on" RRestOn) : ∀ d, FnS P w K mg base (d + 2) "grow" (spGrow T d)
  | 0 => grow_body Dd B F37 0 1 (Nat.le_refl _) fun d' h => by omega
  | d + 1 => grow_body Dd B F37 (d + 1) (d + 2) (by omega) fun d' h => by
    have e : d' = d := by omega
    rw [e]
    exact fn_grow Dd B F37 d
end
end Fl

/-! FloR -/
namespace Fl
open PySem L2 PyProof.Rows
variable {T : Tbs}
variable {P : Program} {w : World} {K : PySem.W.Frag} {mg : Str → Option Value} {base : Heap}
/-- a bush of all blocks -/
def BushOk (zs : List Sz) (b : Bu) : Prop := b.ns.Perm (List.range zs.length)
theorem BushOk.len {zs : List Sz} {b : Bu} (h : BushOk zs b) : b.ns.length = zs.length := by have := List.Perm.length_eq h; simpa using this
theorem dep_le : ∀ b : Bu, b.dep ≤ b.ns.length
  | .nil => Nat.le_refl _
  | .node n l r => by
    have h1 := dep_le l
    have h2 := dep_le r
    simp only [Bu.dep, Bu.ns, List.length_cons, List.length_append]
    omega
theorem sort_perm {ns : List Nat} {n : Nat} (h : ns.Perm (List.range n)) : sortI (ns.map fun i : Nat => (i : Int)) = (List.range n).map fun i : Nat => (i : Int) := by
  refine (sortI_eq (h.symm.map _) ?_).symm
  refine List.Pairwise.map _ (fun a b (h : a < b) => ?_) List.pairwise_lt_range
  show ((a : Nat) : Int) ≤ (b : Int)
  omega
theorem nbs_nats (o : List Nat) : nbs (o.map dN) = true := nbs_of fun d hd => by obtain ⟨n, _, rfl⟩ := List.mem_map.mp hd; rfl
theorem depth_nats (o : List Nat) : (D.lst (o.map dN)).py.depth ≤ 2 := by
  show (PyData.list (pys (o.map dN))).depth ≤ 2
  rw [PyData.depth]
  have : PyData.depthAll (pys (o.map dN)) ≤ 1 := depthAll_le fun x hx => by
    rw [pys_map] at hx
    obtain ⟨d, hd, rfl⟩ := List.mem_map.mp hx
    obtain ⟨n, _, rfl⟩ := List.mem_map.mp hd
    simp [D.py, PyData.depth]
  omega
theorem eqD_refl {x : D} (h : x.nb = true) : eqD x x = true := (eqD_iff x x h h).mpr rfl
abbrev RNeedBush : Rel := fun ds out => ∃ zs b, ds = [dSizes zs, dBu b] ∧ SizesOk zs ∧ BushOk zs b ∧ out = .non
theorem sc36 : FnScope ["sizes", "bush"] ["sizes", "bush"] (defScope (topS 36)) := ⟨rfl, rfl, rfl, by decide +kernel, rfl, by decide +kernel, by decide +kernel⟩
theorem fn_need_bush (Dd : Df K mg "need_bush" (topS 36) ["sizes", "bush"]) (B : Nb mg) (F17 : Fn T P w K mg base 4 "need_sizes" RNeedSizes) (F35 : Fn T P w K mg base 11 "blocks_of" (RBlocksOf 8)) : Fn T P w K mg base 12 "need_bush" RNeedBush := by
  refine fn_df _ Dd sc36 (by rintro ds out ⟨_, _, rfl, _, _, rfl⟩; rfl) (fun f cdv A outer s0 H E ds out hr ⟨zs, b, h1, hz, hb, h2⟩ => ?_)
  subst h1 h2
  have hl := hb.len
  have h8 := hz.hi
  have hd := dep_le b
  refine xs_then (xt_expr (ed_call F17 (hr.mono (by decide)) (ea_cons (ed_var 0) ea_nil) ⟨_, rfl, hz, rfl⟩) rfl) (xs_ifF ((et_neD (x := .lst ((List.range zs.length).map dN)) (y := .lst ((List.range zs.length).map dN)) hr.units ?_ ?_ (nbs_nats _) (nbs_nats _) (by have := depth_nats (List.range zs.length); omega) (by have := depth_nats (List.range zs.length); omega)).to ?_) (xs_nil rfl))
  · refine ((ef_sorted (ns := b.ns.map fun i : Nat => (i : Int)) B.sorted (ed_call F35 hr (ea_cons (ed_var 1) ea_nil) ⟨b, rfl, by omega, fun n hn => ?_, by omega, rfl⟩) (.inl (by rw [List.map_map]; rfl))).ed).to ?_
    · rw [sort_perm hb, List.map_map]; rfl
    · have := List.mem_range.mp (hb.mem_iff.mp hn); omega
  · exact ((ef_listRg rfl B.list B.range (ed_lenN B.len (ed_var 0) (.t _) (List.length_map _)) ⟨by omega, by omega⟩).ed).to (by rw [rg_nat])
  · rw [eqD_refl (x := .lst ((List.range zs.length).map dN)) (nbs_nats _)]; rfl
abbrev RPackedBush : Rel := fun ds out => ∃ zs b, ds = [dSizes zs, dBu b] ∧ SizesOk zs ∧ BushOk zs b ∧ out = dSpots (bushSpots zs b)
theorem sc39 : FnScope ["sizes", "bush", "found", "block"] ["sizes", "bush"] (defScope (topS 39)) := ⟨rfl, rfl, rfl, by decide +kernel, rfl, by decide +kernel, by decide +kernel⟩
theorem grow_ok0 {zs : List Sz} {b : Bu} (h8 : zs.length ≤ 8) (hb : BushOk zs b) : GrowOk zs b [] :=
  ⟨h8, by simpa using (hb.nodup_iff.mpr List.nodup_range), fun n hn => by
    have hn : n ∈ b.ns := by simpa using hn
    exact List.mem_range.mp (hb.mem_iff.mp hn)⟩
theorem lookN_mem {α : Type} {L : List (Nat × α)} {k : Nat} (h : k ∈ L.map (·.1)) : ∃ v, lookN L k = some v := by
  cases q : lookN L k with
  | some v => exact ⟨v, rfl⟩
  | none =>
    unfold lookN at q
    rw [Option.map_eq_none_iff, List.find?_eq_none] at q
    obtain ⟨p, hp, e⟩ := List.mem_map.mp h
    exact absurd e (by simpa using q p hp)
theorem fn_packed_bush (Dd : Df K mg "packed_bush" (topS 39) ["sizes", "bush"]) (B : Nb mg) (F36 : Fn T P w K mg base 12 "need_bush" RNeedBush) (G : FnS P w K mg base 10 "grow" (spGrow T 8)) : Fn T P w K mg base 13 "packed_bush" RPackedBush := by
  refine fn_df _ Dd sc39 (by rintro ds out ⟨_, _, rfl, _, _, rfl⟩; rfl) (fun f cdv A outer s0 H E ds out hr ⟨zs, b, h1, hz, hb, h2⟩ => ?_)
  subst h1 h2
  have hl := hb.len
  have h8 := hz.hi
  have hd := dep_le b
  refine xs_then (xt_expr (ed_call F36 hr (ea_cons (ed_var 0) (ea_cons (ed_var 1) ea_nil)) ⟨_, _, rfl, hz, hb, rfl⟩) rfl) ?_
  refine xs_cons (fun r => ∃ l, r = [.d (dSizes zs), .d (dBu b), .od l [], .any]) (xt_asgFd 2 efd_new (fun l _ => ⟨l, rfl⟩) sc39.nd) ?_
  rintro _ ⟨l, rfl⟩
  refine xs_then (xt_grow (acc := []) (b := b) (left := 0) (zs := zs) (l := l) G (hr.mono (by decide)) 2 (ed_var 0) (ed_var 1) ed_int (by omega) (grow_ok0 h8 hb) trivial rfl) ?_
  refine xs_one (xt_ret (ed_tupleL B.tuple (ef_lc1 ["sizes", "bush", "found", "block"] (defScope (topS 39)) 3 sc39.nd (List.range zs.length) dN (fun i => dSpot ((lookN (growF zs b 0 []) i).getD ⟨0, 0, 0, 0⟩)) (ei_range B.range (ed_lenN B.len (ed_var 0) (.t _) (List.length_map _)) (by omega) (by omega))
    (fun i hi _ _ _ _ _ => ?_) (rg_nat _) (by simp; omega)).ed (.inl rfl)) ?_)
  · have hi := List.mem_range.mp hi
    obtain ⟨v, hv⟩ := lookN_mem (L := growF zs b 0 []) (k := i) (by rw [growF_keys]; simp; exact hb.mem_iff.mpr (List.mem_range.mpr hi))
    have hu : A.units + 3 + 64 < cLine := hr.units
    rw [hv]
    exact ed_dget (by show A.units + 3 + 1 < cLine; omega) (ed_var 2) (.inr ⟨l, rfl⟩) (ed_var 3) (by unfold dSp; rw [lookD_map dSpot, hv]; rfl)
  · unfold bushSpots dSpots
    rw [List.map_map]; rfl
/-! best_bush -/
theorem shapes_ns : ∀ (k : Nat) (o : List Nat), o.length ≤ k → ∀ b ∈ shapes o, b.ns = o
  | 0, o, h, b, hb => by
    obtain rfl : o = [] := List.eq_nil_of_length_eq_zero (by omega)
    rw [shapes_nil] at hb
    simp at hb; subst hb; rfl
  | k + 1, [], _, b, hb => by
    rw [shapes_nil] at hb
    simp at hb; subst hb; rfl
  | k + 1, x :: xs, h, b, hb => by
    rw [shapes_cons] at hb
    obtain ⟨a, _, hb⟩ := List.mem_flatMap.mp hb
    obtain ⟨l, hl, hb⟩ := List.mem_flatMap.mp hb
    obtain ⟨r, hr, rfl⟩ := List.mem_map.mp hb
    have h' : xs.length ≤ k := by simpa using h
    have e1 := shapes_ns k (xs.take a) (by rw [List.length_take]; omega) l hl
    have e2 := shapes_ns k (xs.drop a) (by rw [List.length_drop]; omega) r hr
    rw [Bu.ns, e1, e2, List.take_append_drop]
def dBest : Option (Int × Bu) → D
  | none => .non
  | some q => .tup [.int q.1, dBu q.2]
abbrev RBestBush : Rel := fun ds out => ∃ zs, ds = [dSizes zs] ∧ SizesOk zs ∧ zs.length ≤ 4 ∧ (∀ b, BushOk zs b → CMul (wid ((growF zs b 0 []).map (·.2))) (hei ((growF zs b 0 []).map (·.2)))) ∧ out = dBest (bestBush zs)
theorem sc42 : FnScope ["sizes", "best", "order", "bush", "spots", "width", "height"] ["sizes"] (defScope (topS 42)) := ⟨rfl, rfl, rfl, by decide +kernel, rfl, by decide +kernel, by decide +kernel⟩
theorem ord_perm {n : Nat} {o : List Nat} (g : IsOrd n o) : o.Perm (List.range n) :=
  (List.perm_ext_iff_of_nodup g.2.2 List.nodup_range).mpr fun k => ⟨fun h => List.mem_range.mpr (g.2.1 k h), fun h => ord_mem g (List.mem_range.mp h)⟩
theorem fn_best_bush (Dd : Df K mg "best_bush" (topS 42) ["sizes"]) (B : Nb mg) (F17 : Fn T P w K mg base 4 "need_sizes" RNeedSizes) (F41 : Fn T P w K mg base 1 "orders" RPerms) (F40 : Fn T P w K mg base 5 "shapes_of" (RShapes 4)) (F23 : Fn T P w K mg base 1 "bounds_in" RBoundsIn) (G : FnS P w K mg base 10 "grow" (spGrow T 8)) : Fn T P w K mg base 11 "best_bush" RBestBush := by
  refine fn_df _ Dd sc42 (by rintro ds out ⟨_, rfl, _, _, _, rfl⟩; rfl) (fun f cdv A outer s0 H E ds out hr ⟨zs, h1, hz, h4, hc, h2⟩ => ?_)
  subst h1 h2
  have hlo := hz.lo
  refine xs_then (xt_expr (ed_call F17 (hr.mono (by decide)) (ea_cons (ed_var 0) ea_nil) ⟨_, rfl, hz, rfl⟩) rfl) ?_
  refine xs_ifF ((et_gt (ed_lenN B.len (ed_var 0) (.t _) (List.length_map _)) ed_int).to (by simp; omega)) ?_
  refine xs_then (xt_asg 1 ed_non rfl sc42.nd) ?_
  refine xs_cons (fun r => ∃ a b c d e, r = [.d (dSizes zs), .d (dBest (bestBush zs)), a, b, c, d, e]) (xt_for1 2 (fun i r => ∃ a b c d e, r = [.d (dSizes zs), .d (dBest ((((perms zs.length).take i).flatMap shapes).foldl (better zs) none)), a, b, c, d, e] ∧ Pl [a, b] ∧ Pl [d, e]) (ei_list (ed_call F41 (hr.mono (by decide)) (ea_cons (ed_lenN B.len (ed_var 0) (.t _) (List.length_map _)) ea_nil) ⟨_, rfl, h4, rfl⟩)) sc42.nd ⟨.any, .any, .any, .any, .any, rfl, fun _ => trivial, fun _ => trivial⟩ ?_ ?_) ?_
  · rintro i d0 ρ' hd0 ⟨a, b, c, d, e, rfl, pl1, pl2⟩
    obtain ⟨o, ho, rfl⟩ := map_at' hd0
    have hom := perms_ord (List.mem_of_getElem? ho)
    have plb : Pl [b] := fun l => by have := pl1 l; cases a <;> first | exact this.2 | exact this
    refine xs_one (xt_for1 3 (fun j r => ∃ b c d e, r = [.d (dSizes zs), .d (dBest ((((perms zs.length).take i).flatMap shapes ++ (shapes o).take j).foldl (better zs) none)), .d (dOrd o), b, c, d, e] ∧ Pl [b] ∧ Pl [d, e]) (ei_list (ed_call F40 (hr.mono (by decide)) (ea_cons (ed_var 2) ea_nil) ⟨o, rfl, by rw [hom.1]; exact h4, by rw [hom.1]; exact h4, rfl⟩)) sc42.nd ⟨b, c, d, e, by simp, plb, pl2⟩ ?_ ?_)
    · rintro j d1 ρ2 hd1 ⟨b, c, d, e, rfl, plb, pl2⟩
      obtain ⟨bu, hbu, rfl⟩ := map_at' hd1
      have hns := shapes_ns o.length o (Nat.le_refl _) bu (List.mem_of_getElem? hbu)
      have hbok : BushOk zs bu := by unfold BushOk; rw [hns]; exact ord_perm hom
      have hlen := hbok.len
      have hdp := dep_le bu
      have plv : ∀ l, NoOwn l [d, e] := pl2
      refine xs_cons (fun r => ∃ l, r = [.d (dSizes zs), .d (dBest ((((perms zs.length).take i).flatMap shapes ++ (shapes o).take j).foldl (better zs) none)), .d (dOrd o), .d (dBu bu), .od l [], d, e]) (xt_asgFd 4 efd_new (fun l _ => ⟨l, rfl⟩) sc42.nd) ?_
      rintro _ ⟨l, rfl⟩
      refine xs_then (xt_grow (acc := []) (b := bu) (left := 0) (zs := zs) (l := l) G (hr.mono (by decide)) 4 (ed_var 0) (ed_var 3) ed_int (by omega) (grow_ok0 (by omega) hbok) (plv l) rfl) ?_
      have hgl : (growF zs bu 0 []).length = zs.length := by
        have := congrArg List.length (growF_keys zs bu 0 [])
        simp at this; rw [this, hlen]
      refine xs_then (xt_unpack (n := 2) [5, 6] (ed_call F23 (hr.mono (by decide)) (ea_cons ((ef_listVals rfl B.list (ed_var 4) (.inr ⟨_, rfl⟩)).ed.to (r' := .d (.lst (((growF zs bu 0 []).map (·.2)).map dSpot))) (by unfold dSp; rw [List.map_map, List.map_map]; rfl)) ea_nil)
        ⟨(growF zs bu 0 []).map (·.2), .inr rfl, fun z => by have := congrArg List.length z; simp at this; rw [this] at hgl; simp at hgl; omega, by rw [List.length_map]; omega, rfl⟩) rfl rfl (pg_tup rfl (pgs_cons (pg_name (i := 5) sc42.nd rfl (.inl rfl)) (pgs_cons (pg_name (i := 6) sc42.nd rfl (.inl rfl)) pgs_nil)))) ?_
      have hcm := hc bu hbok
      have hst : ((((perms zs.length).take i).flatMap shapes ++ (shapes o).take (j + 1)).foldl (better zs) none) = better zs ((((perms zs.length).take i).flatMap shapes ++ (shapes o).take j).foldl (better zs) none) bu := by
        rw [take_at hbu, ← List.append_assoc, List.foldl_append]; rfl
      generalize hq : ((((perms zs.length).take i).flatMap shapes ++ (shapes o).take j).foldl (better zs) none) = q at hst ⊢
      cases q with
      | none =>
        refine xs_one (xt_if (x := true) (EW.et (EW.to' (ew_or (y := false) ((et_isN (ed_var 1)).to (y := true) rfl) fun z => Bool.noConfusion z) rfl)) (fun _ => xs_one (xt_asg 1 (ed_tup (ea_cons (ed_mul hcm (ed_var 5) (ed_var 6)) (ea_cons (ed_var 3) ea_nil)) (by simp)) ⟨.d (dBu bu), .od l (dSp (growF zs bu 0 [])), .d (.int (wid ((growF zs bu 0 []).map (·.2)))), .d (.int (hei ((growF zs bu 0 []).map (·.2)))), ?_, fun _ => trivial, fun _ => trivial⟩ sc42.nd)) fun z => Bool.noConfusion z)
        rw [hst]; rfl
      | some q =>
        refine xs_one (xt_if (x := decide (bushArea zs bu < q.1)) (EW.et (EW.to' (ew_or ((et_isN (ed_var 1)).to (y := false) rfl) fun _ => ew_or1 (et_lt (ed_mul hcm (ed_var 5) (ed_var 6)) (ed_ix (x := .int q.1) ((ed_var 1).to (r' := .d (.tup [.int q.1, dBu q.2])) rfl) (.t _) ed_int (by decide) rfl))) rfl)) (fun hx => xs_one (xt_asg 1 (ed_tup (ea_cons (ed_mul hcm (ed_var 5) (ed_var 6)) (ea_cons (ed_var 3) ea_nil)) (by simp)) ⟨.d (dBu bu), .od l (dSp (growF zs bu 0 [])), .d (.int (wid ((growF zs bu 0 []).map (·.2)))), .d (.int (hei ((growF zs bu 0 []).map (·.2)))), ?_, fun _ => trivial, fun _ => trivial⟩ sc42.nd)) fun hx => xs_nil ⟨.d (dBu bu), .od l (dSp (growF zs bu 0 [])), .d (.int (wid ((growF zs bu 0 []).map (·.2)))), .d (.int (hei ((growF zs bu 0 []).map (·.2)))), ?_, fun _ => trivial, fun _ => trivial⟩)
        · rw [hst, better, if_pos (by simpa using hx)]; rfl
        · rw [hst, better, if_neg (by simpa using hx)]; rfl
    · rintro ρ2 ⟨b, c, d, e, rfl, plb, pl2⟩
      refine ⟨.d (dOrd o), b, c, d, e, ?_, plb, pl2⟩
      rw [List.length_map, List.take_length, take_at ho, List.flatMap_append, List.flatMap_cons, List.flatMap_nil, List.append_nil]
  · rintro ρ2 ⟨a, b, c, d, e, rfl, _, _⟩
    refine ⟨a, b, c, d, e, ?_⟩
    rw [List.length_map, List.take_length]; rfl
  · rintro ρ2 ⟨a, b, c, d, e, rfl⟩
    exact xs_one (xt_ret (ed_var 1) rfl)
end Fl

/-! FloX -/
namespace Fl
open PySem L2 PyProof.Rows
variable {T : Tbs}
variable {P : Program} {w : World} {K : PySem.W.Frag} {mg : Str → Option Value} {base : Heap}
/-- a def of the text, its code object known -/
structure FunL (K : PySem.W.Frag) (x qual : Str) (st : Stmt) (f : Addr) (fd : FuncData) (c : Addr) : Prop where
  ex : ∃ (oc : Value) (od : Option Addr) (kV doc pm : Value) (an : Option Addr) (ct : Value) (osl : Array (Option Value)),
    fd = PySem.W.fnOf x qual (defArgs st) (defBody st) (defScope st) .none kV doc pm an (.ref c) ct ∧ K.lookup f = some ⟨oc, od, .func fd, osl⟩ ∧ PySem.W.codeIn K (.ref c) qual = true
  kp : PySem.W.keepIn K (.ref f) = true
structure DfL (K : PySem.W.Frag) (mg : Str → Option Value) (x : Str) (st : Stmt) (ps : List Str) (c : Addr) : Prop where
  ex : ∃ f fd, FunL K x x st f fd c ∧ mg x = some (.ref f) ∧ Binds K fd ps []
theorem fn_dfL {x : Str} {st : Stmt} {ps : List Str} {k : Nat} {R : Rel} {c : Addr} (N : List Str) (Dd : DfL K mg x st ps c) (sc : FnScope N ps (defScope st))
    (hlen : ∀ ds out, R ds out → ds.length = ps.length)
    (body : ∀ (f : Addr) (A : Around) (outer : List Env) (s : Shared) (H : Hp) (E : XK) (ds : List D) (out : D), Room k (A.deeper (envOfC x (defScope st) s.heap.objs.size f (.ref c))) → R ds out →
      XS T (cxOf CX0 P w K mg base N x (defScope st) f (.ref c) A outer s H E).nox (rho N ds) (defBody st) { nx := fun _ => out = .non, rt := fun d => d = out }) : Fn T P w K mg base (k + 1) x R := by
  obtain ⟨f, fd, F, hm, hb⟩ := Dd.ex
  have hps : ps.length ≤ N.length := by have := congrArg List.length sc.pre; rw [List.length_take] at this; omega
  refine ⟨f, fd, ps, ?_, hm, F.kp, hb⟩
  obtain ⟨oc, od, kV, doc, pm, an, ct, osl, rfl, lk, hcd⟩ := F.ex
  refine fn_of lk hcd sc (fun vs H Q E h => ?_) fun A outer s H vs Q E hr h => ?_
  · obtain ⟨O, ds, out, _, _, hd, hR, _⟩ := h
    rw [hd.length]; exact hlen ds out hR
  · obtain ⟨O, ds, out, hO, hT, hd, hR, q⟩ := h
    refine ⟨_, (wpSs_ps _ _).nox, ?_⟩
    refine body f A outer s H E ds out hr hR H O O _ H (start_S hO hT hd (by rw [hlen ds out hR]; exact hps)) _ ⟨fun O' σ H' ρ h s' => ?_, fun _ _ _ _ z => z.elim, fun _ _ _ _ z => z.elim, fun v d H' h e hv => ?_, fun _ _ _ _ _ _ z => z.elim⟩
    · subst h; exact q .non H' s'.ex .non
    · subst h; exact q v H' e hv
/-! an own object comes to be data -/
section
variable {Hb : Hp} {Ob O : Ow} {H : Hp} {σ : L2.St} {ρ : List Sl}
theorem S.give (s : S T Hb Ob O H σ ρ) {l : Addr} (hOb : ¬ Ob l) (hno : NoOwn l ρ) : S T Hb Ob (fun a => O a ∧ a ≠ l) H σ ρ := by
  refine ⟨s.ex, fun a h => ⟨s.ob a h, fun e => hOb (e ▸ h)⟩, fun a h n => s.own a h.1 n, fun a h => s.oin a h.1, fun a h n => s.kind a h.1 n, s.tabs, s.len, fun i r h => (s.get i r h).imp id fun ⟨v, h1, h2⟩ => ⟨v, h1, ?_⟩⟩
  cases r with
  | any => trivial
  | d x => exact Den.mono (fun _ z => z.1) (.refl H) h2
  | ol l' ds => obtain ⟨w1, w2, w3, vs, w4, w5⟩ := h2; exact ⟨w1, ⟨w2, hno.ol h⟩, w3, vs, w4, w5.mono (fun _ z => z.1) (.refl H)⟩
  | od l' ds => obtain ⟨w1, w2, w3, vs, w4, w5⟩ := h2; exact ⟨w1, ⟨w2, hno.od h⟩, w3, vs, w4, w5.mono (fun _ z => z.1) (.refl H)⟩
theorem xs_giveD {X : Cx} {sts : List Stmt} {P : Po} {l : Addr} {kvs : List (Int × D)} (i : Nat) (hno : NoOwn l (ρ.set i .any)) (k : XS T X (ρ.set i (.d (.dct kvs))) sts P) (hr : ρ[i]? = some (.od l kvs) := by rfl) : XS T X ρ sts P := fun Hb Ob O σ H s Dn q => by
  rcases s.get i _ hr with z | ⟨v, z1, rfl, w2, w3, ks, w4, w5⟩
  · cases z
  · exact k Hb Ob _ σ H (((s.drop i).give w3 hno).up z1 (r := .d (.dct kvs)) (Den.dct w4 (fun z => z.2 rfl) (w5.mono (fun _ z => z.1) (.refl H)))) Dn q
theorem xs_giveL {X : Cx} {sts : List Stmt} {P : Po} {l : Addr} {ds : List D} (i : Nat) (hno : NoOwn l (ρ.set i .any)) (k : XS T X (ρ.set i (.d (.lst ds))) sts P) (hr : ρ[i]? = some (.ol l ds) := by rfl) : XS T X ρ sts P := fun Hb Ob O σ H s Dn q => by
  rcases s.get i _ hr with z | ⟨v, z1, rfl, w2, w3, ks, w4, w5⟩
  · cases z
  · exact k Hb Ob _ σ H (((s.drop i).give w3 hno).up z1 (r := .d (.lst ds)) (Den.lst (.inl w4) (fun z => z.2 rfl) (w5.mono (fun _ z => z.1) (.refl H)))) Dn q
end
/-! column_of, rooted -/
theorem dO_inj {p q : Option Nat} (h : dO p = dO q) : p = q := by
  cases p <;> cases q <;> simp [dO] at h ⊢ <;> omega
theorem dO_nb (p : Option Nat) : (dO p).nb = true := by cases p <;> rfl
theorem dO_depth (p : Option Nat) : (dO p).py.depth ≤ 64 := by cases p <;> simp [dO, D.py, PyData.depth]
theorem eqD_dO (p q : Option Nat) : eqD (dO p) (dO q) = decide (p = q) := by
  by_cases h : p = q
  · subst h; rw [eqD_refl (dO_nb p)]; simp
  · rw [decide_eq_false h]
    cases e : eqD (dO p) (dO q) with
    | false => rfl
    | true => exact absurd (dO_inj ((eqD_iff _ _ (dO_nb p) (dO_nb q)).mp e)) h
abbrev RColumnOf : Rel := fun ds out => ∃ (Q : List Spot) (L : List (Nat × Nat)) (p : Option Nat), ds = [dSpots Q, .dct (dKv L), dO p] ∧ Q.length ≤ 8 ∧ out = .lst ((columnOf Q L p).map dN)
theorem sc47 : FnScope ["spots", "parents", "parent", "some", "block"] ["spots", "parents", "parent"] (defScope (topS 47)) := ⟨rfl, rfl, rfl, by decide +kernel, rfl, by decide +kernel, by decide +kernel⟩
theorem keyAt_spots {Q : List Spot} {ns : List Nat} (h : ∀ n ∈ ns, n < Q.length) : KeyAt (Q.map dSpot) (fun n => (spAt Q n).b) ns := fun n hn => ⟨_, spots_at (h n hn), rfl⟩
theorem fn_column_of {c Pt : Addr} (Dd : DfL K mg "column_of" (topS 47) ["spots", "parents", "parent"] c) (B : Nb mg) (LT : LamT T base mg c Pt "column_of.<locals>.<lambda>") : Fn T P w K mg base 2 "column_of" RColumnOf := by
  refine fn_dfL _ Dd sc47 (by rintro ds out ⟨_, _, _, rfl, _, rfl⟩; rfl) (fun f A outer s0 H E ds out hr ⟨Q, L, p, h1, hl, h2⟩ => ?_)
  subst h1 h2
  have hu : A.units + 3 + 64 < cLine := hr.units
  refine xs_then (xt_setLcIf1 ["spots", "parents", "parent", "some", "block"] (defScope (topS 47)) 3 4 sc47.nd (List.range Q.length) dN (fun b => decide (lookN L b = p)) dN (ei_range B.range (ed_lenN B.len (ed_var 0) (.t _) (List.length_map _)) (by omega) (by omega))
    (fun b _ _ _ _ _ _ => ((et_eqD hu (ed_dgetm (by show A.units + 3 + 1 < cLine; omega) (ed_var 1) (.inl rfl) (ed_var 4) ⟨rfl, rfl, rfl, rfl⟩ |>.to (r' := .d (dO (lookN L b))) ?_) (ed_var 2) (dO_nb _) (dO_nb _) (dO_depth _) (dO_depth _)).to (eqD_dO _ _))) (fun b _ _ _ _ _ _ _ => ed_var 4) rfl (rg_nat _) (by simp; omega)) ?_
  · unfold dKv
    rw [lookD_map dN]
    cases lookN L b <;> rfl
  · refine xs_one (xt_ret (ed_sortKey (key := fun n => (spAt Q n).b) (ns := (List.range Q.length).filter fun b => decide (lookN L b = p)) 0 B.sorted (ed_var 3) rfl (keyAt_spots fun n hn => List.mem_range.mp (List.mem_filter.mp hn).1) ⟨⟨c, Pt, LT, rfl⟩, lamP_by (sc := defScope (topS 47)) (by decide +kernel), rfl, fun _ _ _ _ _ _ => rfl, by decide, by decide, by decide⟩ hr).ed rfl)
/-- the walk of rooted ends within k -/
def rok (Q : List Spot) (L : List (Nat × Nat)) : Nat → List Nat → Prop
  | _, [] => True
  | 0, _ :: _ => False
  | k + 1, c :: cs => rok Q L k (columnOf Q L (some c)) ∧ rok Q L k cs
abbrev RRooted (k : Nat) : Rel := fun ds out => ∃ (Q : List Spot) (L : List (Nat × Nat)) (col : List Nat), ds = [dSpots Q, .dct (dKv L), .lst (col.map dN)] ∧ Q.length ≤ 8 ∧ rok Q L k col ∧ out = dBu (rootedK Q L k col)
theorem sc48 : FnScope ["spots", "parents", "column", "beside"] ["spots", "parents", "column"] (defScope (topS 48)) := ⟨rfl, rfl, rfl, by decide +kernel, rfl, by decide +kernel, by decide +kernel⟩
theorem nb_lst (o : List Nat) : (D.lst (o.map dN)).nb = true := nbs_nats o
theorem nats_eq_nil (o : List Nat) : eqD (.lst (o.map dN)) (.lst []) = decide (o = []) := by
  cases o with
  | nil => rfl
  | cons n o => simp [eqD, D.py, pys, PyData.eqv, PyData.eqvAll]
theorem fn_rooted (Dd : Df K mg "rooted" (topS 48) ["spots", "parents", "column"]) (B : Nb mg) (F47 : Fn T P w K mg base 2 "column_of" RColumnOf) : ∀ k, Fn T P w K mg base (k + 3) "rooted" (RRooted k)
  | 0 => by
    refine fn_df _ Dd sc48 (by rintro ds out ⟨_, _, _, rfl, _, _, rfl⟩; rfl) (fun f cdv A outer s0 H E ds out hr ⟨Q, L, col, h1, hl, ho, h2⟩ => ?_)
    subst h1 h2
    cases col with
    | nil => exact xs_ifL ((et_eqD hr.units (ed_var 2) (ef_lst ea_nil (by simp)).ed (nb_lst _) rfl (by have := depth_nats []; omega) (by decide)).to (nats_eq_nil [])) (fun _ => xs_one (xt_ret ed_non rfl)) fun z => by simp at z
    | cons c cs => exact ho.elim
  | k + 1 => by
    have F := fn_rooted Dd B F47 k
    refine fn_df _ Dd sc48 (by rintro ds out ⟨_, _, _, rfl, _, _, rfl⟩; rfl) (fun f cdv A outer s0 H E ds out hr ⟨Q, L, col, h1, hl, ho, h2⟩ => ?_)
    subst h1 h2
    cases col with
    | nil => exact xs_ifL ((et_eqD hr.units (ed_var 2) (ef_lst ea_nil (by simp)).ed (nb_lst _) rfl (by have := depth_nats []; omega) (by decide)).to (nats_eq_nil [])) (fun _ => xs_one (xt_ret ed_non rfl)) fun z => by simp at z
    | cons c cs =>
      obtain ⟨o1, o2⟩ := ho
      refine xs_ifF ((et_eqD hr.units (ed_var 2) (ef_lst ea_nil (by simp)).ed (nb_lst _) rfl (by have := depth_nats (c :: cs); omega) (by decide)).to ((nats_eq_nil (c :: cs)).trans (by simp))) ?_
      refine xs_then (xt_asg 3 (ed_call F hr (ea_cons (ed_var 0) (ea_cons (ed_var 1) (ea_cons (ed_call F47 (hr.mono (by omega)) (ea_cons (ed_var 0) (ea_cons (ed_var 1) (ea_cons (ed_ix (x := dN c) (ed_var 2) (.l _) ed_int (by decide) rfl) ea_nil))) ⟨Q, L, some c, rfl, hl, rfl⟩) ea_nil))) ⟨Q, L, _, rfl, hl, o1, rfl⟩) rfl sc48.nd) ?_
      refine xs_one (xt_ret (ed_tup (ea_cons (ed_ix (x := dN c) (ed_var 2) (.l _) ed_int (by decide) rfl) (ea_cons (ed_var 3) (ea_cons (ed_call F hr (ea_cons (ed_var 0) (ea_cons (ed_var 1) (ea_cons ((ef_slL (ed_var 2) (.inl rfl) (eo_some ed_int) eo_none).ed.to (r' := .d (.lst (cs.map dN))) ?_) ea_nil))) ⟨Q, L, cs, rfl, hl, o2, rfl⟩) ea_nil))) (by simp)) rfl)
      have := cut_from (ds := (c :: cs).map dN) 1
      show Sl.d (.lst (cutD ((c :: cs).map dN) (some ((1 : Nat) : Int)) none)) = _
      rw [this]; rfl
/-! bush_of -/
theorem parL_succ (Q : List Spot) (i : Nat) : parL Q (i + 1) = parL Q i ++ (if 0 < (spAt Q i).l then [(i, parentOf Q i)] else []) := by
  unfold parL
  rw [List.range_succ, List.filter_append, List.map_append]
  congr 1
  by_cases h : 0 < (spAt Q i).l
  · rw [if_pos h, List.filter_cons_of_pos (by simpa using h)]; rfl
  · rw [if_neg h, List.filter_cons_of_neg (by simpa using h)]; rfl
theorem parL_lt {Q : List Spot} {i : Nat} {p : Nat × Nat} (h : p ∈ parL Q i) : p.1 < i := by
  unfold parL at h
  obtain ⟨b, hb, rfl⟩ := List.mem_map.mp h
  exact List.mem_range.mp (List.mem_filter.mp hb).1
theorem parL_len (Q : List Spot) (i : Nat) : (parL Q i).length ≤ i := by
  unfold parL
  rw [List.length_map]
  have := List.length_filter_le (fun b => decide (0 < (spAt Q b).l)) (List.range i)
  rwa [List.length_range] at this
theorem en_spots (zs : List Spot) : enD (zs.map dSpot) = (List.range zs.length).map fun i => .tup [dN i, dSpot (spAt zs i)] := by
  unfold enD
  rw [List.length_map]
  refine List.map_congr_left fun i hi => ?_
  have hi := List.mem_range.mp hi
  simp [hi, spAt]
theorem faced {Q : List Spot} (hc : isCompact Q = true) {i : Nat} (hi : i < Q.length) (h : 0 < (spAt Q i).l) : ((List.range Q.length).filter fun o => facesF (spAt Q o) (spAt Q i)) ≠ [] := by
  intro z
  unfold isCompact at hc
  rw [List.all_eq_true] at hc
  have h1 := hc _ (spAt_mem hi)
  have h2 : heldX (spAt Q i) Q = true := (Bool.and_eq_true_iff.mp h1).1
  unfold heldX at h2
  have h3 : decide ((spAt Q i).l = 0) = false := by simp; omega
  rw [h3, Bool.false_or, List.any_eq_true] at h2
  obtain ⟨o, ho, h4⟩ := h2
  obtain ⟨j, hj, rfl⟩ := List.mem_iff_getElem.mp ho
  rw [List.filter_eq_nil_iff] at z
  have := z j (List.mem_range.mpr hj)
  have e : spAt Q j = Q[j] := by unfold spAt; simp [hj]
  rw [e] at this
  apply this
  unfold facesF
  rw [Bool.and_assoc] at h4
  exact h4
abbrev RBushOf : Rel := fun ds out => ∃ (Q : List Spot), ds = [dSpots Q] ∧ PackOk Q ∧ isCompact Q = true ∧ rok Q (parL Q Q.length) 20 (columnOf Q (parL Q Q.length) none) ∧ out = dBu (rootedK Q (parL Q Q.length) 20 (columnOf Q (parL Q Q.length) none))
theorem sc45 : FnScope ["spots", "parents", "block", "spot", "some", "one"] ["spots"] (defScope (topS 45)) := ⟨rfl, rfl, rfl, by decide +kernel, rfl, by decide +kernel, by decide +kernel⟩
theorem fn_bush_of {c Pt : Addr} (Dd : DfL K mg "bush_of" (topS 45) ["spots"] c) (B : Nb mg) (LT : LamT T base mg c Pt "bush_of.<locals>.<lambda>") (F20 : Fn T P w K mg base 5 "need_packing" RNeedPack) (F44 : Fn T P w K mg base 6 "is_compact" RCompact) (F46 : Fn T P w K mg base 1 "faces" RFaces) (F47 : Fn T P w K mg base 2 "column_of" RColumnOf) (F48 : Fn T P w K mg base 23 "rooted" (RRooted 20)) : Fn T P w K mg base 24 "bush_of" RBushOf := by
  refine fn_dfL _ Dd sc45 (by rintro ds out ⟨_, rfl, _, _, _, rfl⟩; rfl) (fun f A outer s0 H E ds out hr ⟨Q, h1, hz, hc, hrk, h2⟩ => ?_)
  subst h1 h2
  have hl := hz.hi
  have hu : A.units + 3 + 64 < cLine := hr.units
  refine xs_then (xt_expr (ed_call F20 (hr.mono (by decide)) (ea_cons (ed_var 0) ea_nil) ⟨_, rfl, hz, rfl⟩) rfl) ?_
  refine xs_ifF ((et_not (et_val (ed_call F44 (hr.mono (by decide)) (ea_cons (ed_var 0) ea_nil) ⟨_, rfl, hz, rfl⟩))).to (by rw [hc]; rfl)) ?_
  refine xs_cons (fun r => ∃ l, r = [.d (dSpots Q), .od l [], .any, .any, .any, .any]) (xt_asgFd 1 efd_new (fun l _ => ⟨l, rfl⟩) sc45.nd) ?_
  rintro _ ⟨l, rfl⟩
  refine xs_cons (fun r => ∃ a b c d, r = [.d (dSpots Q), .od l (dKv (parL Q Q.length)), a, b, c, d] ∧ Pl [a, b, c, d]) (xt_for2 2 3 (fun i r => ∃ a b c d, r = [.d (dSpots Q), .od l (dKv (parL Q i)), a, b, c, d] ∧ Pl [a, b, c, d]) (ei_enumT B.enumerate (ed_var 0)) sc45.nd en_pairs ⟨_, _, _, _, rfl, fun _ => trivial⟩ ?_ ?_) ?_
  · rintro i u v ρ' hd ⟨a, b, c', d, rfl, hpl⟩
    obtain ⟨x, hx, e⟩ := en_at hd
    cases e
    obtain ⟨s, hs, rfl⟩ := map_at' hx
    have hi := at_lt hs
    have es := spAt_of hs
    subst es
    have hpl2 : Pl [c', d] := fun l => by
      have := hpl l
      cases a <;> cases b <;> first | exact this.2.2 | exact this.2 | exact this
    have hpl3 : Pl [d] := fun l => by
      have := hpl2 l
      cases c' <;> first | exact this.2 | exact this
    refine xs_one (xt_if (et_gt (ed_part (ed_var 3) 0) ed_int) (fun hx => ?_) (fun hx => xs_nil ⟨.d (dN i), .d (dSpot (spAt Q i)), c', d, ?_, hpl2⟩))
    · have hpos : 0 < (spAt Q i).l := by simpa using hx
      refine xs_then (xt_setLcIf1 ["spots", "parents", "block", "spot", "some", "one"] (defScope (topS 45)) 4 5 sc45.nd (List.range Q.length) dN (fun o => facesF (spAt Q o) (spAt Q i)) dN (ei_range B.range (ed_lenN B.len (ed_var 0) (.t _) (List.length_map _)) (by omega) (by omega))
        (fun o ho _ _ _ _ _ => et_val (ed_call F46 (hr.mono (by decide)) (ea_cons (ed_ixN (ed_var 0) (.t _) (ed_var 5) (spots_at (List.mem_range.mp ho))) (ea_cons (ed_var 3) ea_nil)) ⟨_, _, rfl, rfl⟩)) (fun o _ _ _ _ _ _ _ => ed_var 5) rfl (rg_nat _) (by simp; omega)) ?_
      refine xs_one (xt_dput (kvs := dKv (parL Q i)) (l := l) (k := (i : Int)) (d := dN (parentOf Q i)) 1 (by show A.units + 3 + 1 < cLine; omega) rfl
        (ed_maxKey (key := fun n => (spAt Q n).b) (ns := (List.range Q.length).filter fun o => facesF (spAt Q o) (spAt Q i)) 0 B.max (ed_var 4) rfl (keyAt_spots fun n hn => List.mem_range.mp (List.mem_filter.mp hn).1) (faced hc hi hpos) rfl ⟨⟨c, Pt, LT, rfl⟩, lamP_by (sc := defScope (topS 45)) (by decide +kernel), rfl, fun _ _ _ _ _ _ => rfl, by decide, by decide, by decide⟩ hr)
        (ed_var 2) (lookD_none ?_) ?_ (hpl3 l) ⟨.d (dN i), .d (dSpot (spAt Q i)), .d (.lst (((List.range Q.length).filter fun o => facesF (spAt Q o) (spAt Q i)).map dN)), d, ?_, fun l => hpl3 l⟩ (pe_var rfl (.inl rfl) (by decide) (by decide)))
      · unfold dKv
        rw [List.map_map]
        intro hm
        obtain ⟨p, hp, e⟩ := List.mem_map.mp hm
        have h1 := parL_lt hp
        have h2 : p.1 = i := Int.ofNat.inj e
        omega
      · have := parL_len Q i
        unfold dKv; rw [List.length_map]; omega
      · rw [parL_succ, if_pos hpos]
        unfold dKv
        rw [List.map_append]; rfl
    · rw [parL_succ, if_neg (by simpa using hx), List.append_nil]; rfl
  · rintro ρ' ⟨a, b, c', d, rfl, hpl⟩
    refine ⟨a, b, c', d, ?_, hpl⟩
    have : (enD (Q.map dSpot)).length = Q.length := by unfold enD; simp
    rw [this]
  · rintro ρ' ⟨a, b, c', d, rfl, hpl⟩
    refine xs_giveD (l := l) (kvs := dKv (parL Q Q.length)) 1 (hpl l) ?_
    exact xs_one (xt_ret (ed_call F48 hr (ea_cons (ed_var 0) (ea_cons (ed_var 1) (ea_cons (ed_call F47 (hr.mono (by decide)) (ea_cons (ed_var 0) (ea_cons (ed_var 1) (ea_cons ed_non ea_nil))) ⟨Q, _, none, rfl, hl, rfl⟩) ea_nil))) ⟨Q, _, _, rfl, hl, hrk, rfl⟩) rfl)
end Fl

/-! FloY -/
/-! Expressions that write own objects. -/
namespace Fl
open PySem L2 PyProof.Rows
variable {T : Tbs}
/-- an expression that may write the objects of M; P tells its data and the slots behind it -/
def EM (T : Tbs) (X : Cx) (ρ : List Sl) (M : Ow) (e : Expr) (P : D → List Sl → Prop) : Prop := ∀ Hb Ob O σ H, S T Hb Ob O H σ ρ → ∀ Q : VK, (∀ v d H2 r, P d r → S T Hb Ob O H2 σ r → (∀ a, M a → O a) → Keep M H H2 → Den O H2 v d → Q v H2) → wpE X e σ H Q
def EMA (T : Tbs) (X : Cx) (ρ : List Sl) (M : Ow) (es : List Expr) (P : List D → List Sl → Prop) : Prop := ∀ Hb Ob O σ H, S T Hb Ob O H σ ρ → ∀ Q : List V → Hp → Prop, (∀ vs ds H2 r, P ds r → S T Hb Ob O H2 σ r → (∀ a, M a → O a) → Keep M H H2 → Dens O H2 vs ds → Q vs H2) → wpA X es σ H Q
/-- M is owned wherever ρ tells the slots -/
def MIn (T : Tbs) (ρ : List Sl) (M : Ow) : Prop := ∀ Hb Ob O σ H, S T Hb Ob O H σ ρ → ∀ a, M a → O a
theorem Keep.trans {O : Ow} {H H1 H2 : Hp} (a : Keep O H H1) (b : Keep O H1 H2) : Keep O H H2 := fun c o n h nt => b c o n (a c o n h nt) nt
theorem Keep.wide {M O : Ow} {H H1 : Hp} (a : Keep M H H1) (h : ∀ a, M a → O a) : Keep O H H1 := fun c o n e nt => a c o (fun z => n (h c z)) e nt
theorem min_ol {ρ : List Sl} {q : Addr} {ds : List D} (i : Nat) (h : ρ[i]? = some (.ol q ds)) : MIn T ρ (fun a => a = q) := fun Hb Ob O σ H s a e => by
  rcases s.get i _ h with z | ⟨v, _, _, w, _⟩
  · cases z
  · rw [e]; exact w
theorem min_ol2 {ρ : List Sl} {q l : Addr} {ds es : List D} (i j : Nat) (h : ρ[i]? = some (.ol q ds)) (g : ρ[j]? = some (.ol l es)) : MIn T ρ (fun a => a = q ∨ a = l) := fun Hb Ob O σ H s a e => by
  rcases e with e | e
  · exact min_ol i h Hb Ob O σ H s a e
  · exact min_ol j g Hb Ob O σ H s a e
section
variable {X : Cx} {ρ : List Sl} {M : Ow} {a b c e : Expr} {es : List Expr} {pos p np apos cpos spos py : Pos} {P P1 : D → List Sl → Prop} {PA PA1 : List D → List Sl → Prop} {Po' : Po}
theorem em_pure {x : D} (h : ED T X ρ e (.d x)) (hM : MIn T ρ M) (q : P x ρ) : EM T X ρ M e P :=
  fun Hb Ob O σ H s Q k => h Hb Ob O σ H s _ fun v H1 e1 rv => k v x H1 ρ q (s.on e1) (hM Hb Ob O σ H s) (.of e1) rv
theorem ema_pure {ds : List D} (h : EA T X ρ es ds) (hM : MIn T ρ M) (q : PA ds ρ) : EMA T X ρ M es PA :=
  fun Hb Ob O σ H s Q k => h Hb Ob O σ H s _ fun v H1 e1 rv => k v ds H1 ρ q (s.on e1) (hM Hb Ob O σ H s) (.of e1) rv
theorem EM.imp (h : EM T X ρ M e P1) (i : ∀ d r, P1 d r → P d r) : EM T X ρ M e P := fun Hb Ob O σ H s Q k => h Hb Ob O σ H s Q fun v d H2 r p => k v d H2 r (i d r p)
theorem ema_cons (h : EM T X ρ M e P1) (k : ∀ d r, P1 d r → EMA T X r M es fun ds r' => PA (d :: ds) r') (hs : starEach (e :: es) X.env = (false, eval e X.env) :: starEach es X.env := by rfl) : EMA T X ρ M (e :: es) PA :=
  fun Hb Ob O σ H s Q q => wpA_of (pa_cons (wpE_pe X e) (wpA_pa X es) hs) <| h Hb Ob O σ H s _ fun v d H1 r p1 s1 m1 k1 dv => k d r p1 Hb Ob O σ H1 s1 _ fun vs ds H2 r2 p2 s2 m2 k2 dvs =>
    q (v :: vs) (d :: ds) H2 r2 p2 s2 m1 (k1.trans k2) (.cons (dv.mono (fun _ z => z) (k2.wide m1)) dvs)
theorem ema_nil (hM : MIn T ρ M) (q : PA [] ρ) : EMA T X ρ M [] PA := ema_pure ea_nil hM q
theorem em_tup {x1 : Nat} (h : EMA T X ρ M es PA1) (k : ∀ ds r, PA1 ds r → ds.length ≤ 100000 ∧ P (.tup ds) r) : EM T X ρ M (.Tuple es x1 pos) P :=
  fun Hb Ob O σ H s Q q => wpE_of (pe_tup (wpA_pa X es)) <| h Hb Ob O σ H s _ fun vs ds H1 r p1 s1 m1 k1 hd => ⟨le_line (by rw [hd.length]; exact (k ds r p1).1), fun t ht =>
    q _ _ _ r (k ds r p1).2 (s1.on (Ex.new ht)) m1 (k1.trans (.of (T := T) (Ex.new ht))) (.tup (.inl upd_same) (s1.fresh ht) (hd.ex (Ex.new (T := T) ht)))⟩
theorem em_add {i : Int} (ha : ED T X ρ a (.d (.int i))) (hb : EM T X ρ M b P1) (k : ∀ d r, P1 d r → ∃ j, d = .int j ∧ P (.int (i + j)) r) : EM T X ρ M (.BinOp a .Add b pos) P :=
  fun Hb Ob O σ H s Q q => wpE_of (pe_op op_add (wpE_pe X a) (wpE_pe X b)) <| ha Hb Ob O σ H s _ fun v H1 e1 rv => hb Hb Ob O σ H1 (s.on e1) _ fun u d H2 r p1 s2 m2 k2 dv => by
    obtain ⟨j, rfl, p2⟩ := k d r p1
    exact ⟨i, j, Den.int_inv rv, Den.int_inv dv, q _ _ H2 r p2 s2 m2 ((Keep.of e1).trans k2) (.int _)⟩
/-- a def that only reads, its arguments written by the way -/
theorem em_call {k : Nat} {x : Str} {R : Rel} (F : Fn T X.prog X.w X.K X.mg X.base k x R) (hr : Room k X.A) (ha : EMA T X ρ M (e :: es) PA1) (hR : ∀ ds r, PA1 ds r → ∃ out, R ds out ∧ P out r) (hg : Gl X x := by rfl) (hdb : (x == ("__debug__" : Str)) = false := by decide)
    (he : starEach (e :: es) X.env = (false, eval e X.env) :: starEach es X.env := by rfl) (hpl : (backTo pos (starEach es X.env)).any (·.1) = false := by rfl) : EM T X ρ M (.Call (.Name x p) (e :: es) [] pos) P := by
  obtain ⟨f, fd, ps, ok, hmg, hk, hb⟩ := F.ex
  refine fun Hb Ob O σ H s Q q => wpE_of (pe_call ok hr hg hmg hk hb .nil pass0 (wpA_pa X (e :: es)) hdb he hpl) <| ha Hb Ob O σ H s _ fun vs ds H1 r p1 s1 m1 k1 hd => ?_
  obtain ⟨out, h1, h2⟩ := hR ds r p1
  rw [List.append_nil]
  exact ⟨O, ds, out, s1.oin, s1.tabs, hd, h1, fun v H' e2 h => q v out H' r h2 (s1.on e2) m1 (k1.trans (.of e2)) h⟩
theorem em_list (hm : X.mg "list" = none) (ha : EM T X ρ M a P1) (k : ∀ d r, P1 d r → ∃ ds, Seq (.d d) ds ∧ P (.lst ds) r) (hg : Gl X "list" := by rfl) (hs : starEach [a] X.env = (false, eval a X.env) :: starEach [] X.env := by rfl) : EM T X ρ M (.Call (.Name "list" p) [a] [] pos) P :=
  fun Hb Ob O σ H s Q q => wpE_of (pe_callTy call_list_of hg hm (by decide +kernel) (pa_cons (wpE_pe X a) pa_nil hs) (he := hs) (hpl := by rfl)) <| ha Hb Ob O σ H s _ fun v d H1 r p1 s1 m1 k1 dv => by
    obtain ⟨ds, hq, p2⟩ := k d r p1
    obtain ⟨t, vs, rfl, h2, hd⟩ := ROk.seq (K := X.K) (Ob := Ob) (show ROk Ob O H1 v (.d d) from dv) hq
    exact ⟨t, vs, rfl, h2, fun l hl => q _ _ _ r p2 (s1.on (Ex.new hl)) m1 (k1.trans (.of (T := T) (Ex.new hl))) (.lst (.inl upd_same) (s1.fresh hl) (hd.ex (Ex.new (T := T) hl)))⟩
/-! ### statements -/
theorem xt_asgM {x : Str} (i : Nat) (h : EM T X ρ M e P1) (q : ∀ d r, P1 d r → Po'.nx (r.set i (.d d))) (hN : X.N.Nodup) (hi : X.N[i]? = some x := by rfl) (hx : Loc X.env.scope x := by first | exact .inl rfl | exact .inr rfl) (hs : swapsWith e (some (.Name x py)) pos.line X.env = pure false := by rfl)
    (hf : X.fn x = true ∨ X.env.scope.names.lookup x = some .local := by first | exact .inl rfl | exact .inr rfl) : XT T X ρ (.Assign [.Name x py] e pos) Po' :=
  fun Hb Ob O σ H s Dn k => wpS_of (ps_set hN hi hx (wpE_pe X e) hs hf) <| h Hb Ob O σ H s _ fun v d H1 r p1 s1 _ _ dv => k.nx O _ H1 _ (q d r p1) (s1.set i (r := .d d) dv)
theorem xt_retM (h : EM T X ρ M e P1) (q : ∀ d r, P1 d r → Po'.rs r d) : XT T X ρ (.Return (some e) pos) Po' :=
  fun Hb Ob O σ H s Dn k => wpS_of (ps_ret (wpE_pe X e)) <| h Hb Ob O σ H s _ fun v d H1 r p1 s1 _ _ dv => k.rs O σ H1 r v d (q d r p1) s1 dv
/-- x[j] = e -/
theorem ixN_of {n : Nat} {j : Nat} (h : j < n) : ixN n (j : Int) = some j := Evl.ixN_nat h
theorem xt_lset {x : Str} {l : Addr} {ds : List D} {d : D} (i : Nat) {j : Nat} (h : ED T X ρ e (.d d)) (hb : ED T X ρ b (.d (.int (j : Nat)))) (hno : NoOwn l (ρ.set i .any)) (q : Po'.nx (ρ.set i (.ol l (ds.set j d)))) (hj : j < ds.length) (hr : ρ[i]? = some (.ol l ds) := by rfl)
    (hN : X.N[i]? = some x := by rfl) (hv : Vis X.env.scope x := by first | exact Or.inl rfl | exact Or.inr (Or.inl rfl) | exact Or.inr (Or.inr rfl))
    (hdx : (x == ("__debug__" : Str)) = false := by decide) (hcd : (x == ("__classdict__" : Str)) = false := by decide)
    (hg : ∀ v, assign (.Subscript (.Name x np) b spos) X.env v = (do
      let ov ← holding [v] (eval (.Name x np) X.env)
      let iv ← holding [v, ov] (eval b X.env)
      standAt spos
      holding [v, ov, iv] (setItem ov iv v)
      release [v, ov, iv] []) := by intro _; rfl)
    (hs : swapsWithSole [.Subscript (.Name x np) b spos] e pos.line X.env = pure false := by rfl) (hw : swappedStores [.Subscript (.Name x np) b spos] e X.env = pure none := by rfl)
    (h1 : (assignEach [.Subscript (.Name x np) b spos] X.env).map (·.2) = [assign (.Subscript (.Name x np) b spos) X.env] := by rfl) : XT T X ρ (.Assign [.Subscript (.Name x np) b spos] e pos) Po' := by
  refine fun Hb Ob O σ H s Dn kk => wpS_of (ps_asg (wpE_pe X e) (pg_sub (pe_var hN hv hdx hcd) (wpE_pe X b) set_list hg) hs hw h1) ?_
  rcases s.get i _ hr with z | ⟨v, z1, rfl, w2, w3, vs, w4, w5⟩
  · cases z
  refine h Hb Ob O σ H s _ fun y H1 e1 ry => ⟨_, z1, hb Hb Ob O σ H1 (s.on e1) _ fun u H2 e2 ru => ?_⟩
  obtain rfl := Den.int_inv ru
  have e3 := e1.trans e2
  have w5' := w5.ex e3
  refine ⟨l, vs, (j : Int), j, rfl, rfl, e3.keep _ _ w4 nt_lst, ixN_of (by rw [w5.length]; exact hj), ?_⟩
  have hkp : Keep O H2 (upd H2 l (.lst (vs.set j y))) := fun a o n z _ => by rw [upd_ne (fun w => by subst w; exact n w2)]; exact z
  exact kk.nx O σ _ _ q ((s.on e3).write i hr w2 w3 hno ld_lst ⟨_, z1, rfl, w2, w3, _, upd_same, (w5'.set (Den.ex ry e2) j).mono (fun _ z => z) hkp⟩)
/-- x.append(what writes) -/
theorem xt_appM {x : Str} {l : Addr} {ds : List D} (i : Nat) (hr : ρ[i]? = some (.ol l ds)) (h : EM T X ρ M e P1) (q : ∀ d r, P1 d r → ∃ ds', r[i]? = some (.ol l ds') ∧ ds'.length < 100000 ∧ NoOwn l (r.set i .any) ∧ Po'.nx (r.set i (.ol l (ds' ++ [d]))))
    (hN : X.N[i]? = some x := by rfl) (hv : Vis X.env.scope x := by first | exact Or.inl rfl | exact Or.inr (Or.inl rfl) | exact Or.inr (Or.inr rfl))
    (hd : (x == ("__debug__" : Str)) = false := by decide) (hcd : (x == ("__classdict__" : Str)) = false := by decide)
    (hbase : attributeBase (.Name x np) "append" X.env (eval (.Name x np) X.env) = eval (.Name x np) X.env := by rfl)
    (hfew : ((backTo cpos (starEach [e] X.env)).all (fun x => !x.1) && (backToKw cpos (keywordEach [] X.env)).all (fun x => x.1.isSome)
      && decide (([e] : List Expr).length + ([] : List Keyword).length + (if ([] : List Keyword).isEmpty then 0 else 1) < 30)) = true := by rfl)
    (hline : (apos.endLine == cpos.line) = true := by rfl) (hse : starEach [e] X.env = (false, eval e X.env) :: starEach [] X.env := by rfl) (hplain : (backTo cpos (starEach [] X.env)).any (·.1) = false := by rfl)
    (hs : swapsWith (.Call (.Attribute (.Name x np) "append" apos) [e] [] cpos) none pos.line X.env = pure false := by rfl) : XT T X ρ (.Expr (.Call (.Attribute (.Name x np) "append" apos) [e] [] cpos) pos) Po' := by
  refine fun Hb Ob O σ H s Dn k => wpS_of (ps_expr (pe_bm PySem.F.plainAttrs_list PySem.F.slot_list_append PySem.F.type_list_append mt_append (pe_var hN hv hd hcd) (pa_cons (wpE_pe X e) pa_nil hse) hbase hfew hline hse hplain) hs) ?_
  rcases s.get i _ hr with z | ⟨v, z1, rfl, h2, h3, vs, h4, h5⟩
  · cases z
  refine ⟨_, z1, .inl ⟨rfl, _, SqL.of h4⟩, h Hb Ob O σ H s _ fun y d H2 r p1 s2 m2 k2 dv => ?_⟩
  obtain ⟨ds', g1, g2, g3, g4⟩ := q d r p1
  rcases s2.get i _ g1 with z | ⟨v', z1', e', w2, w3, us, w4, w5⟩
  · cases z
  rw [z1] at z1'; cases z1'
  refine ⟨l, us, y, rfl, rfl, w4, Evl.sz_lt (by rw [w5.length]; exact g2), ?_⟩
  have hk : Keep O H2 (upd H2 l (.lst (us ++ [y]))) := fun a o n z _ => by rw [upd_ne (fun w => by subst w; exact n w2)]; exact z
  exact k.nx O σ _ _ g4 (s2.write i g1 w2 w3 g3 ld_lst ⟨_, z1, rfl, w2, w3, _, upd_same, (w5.append (.cons dv .nil)).mono (fun _ z => z) hk⟩)
/-- x.pop(what writes) -/
theorem em_pop {x : Str} {l : Addr} {ds : List D} (i : Nat) (hr : ρ[i]? = some (.ol l ds)) (hMl : M l) (h : EM T X ρ M e P1)
    (q : ∀ d r, P1 d r → ∃ (ds' : List D) (j : Nat) (y : D), d = .int (j : Nat) ∧ r[i]? = some (.ol l ds') ∧ ds'[j]? = some y ∧ ds'.length ≤ 100000 ∧ NoOwn l (r.set i .any) ∧ P y (r.set i (.ol l (ds'.eraseIdx j))))
    (hN : X.N[i]? = some x := by rfl) (hv : Vis X.env.scope x := by first | exact Or.inl rfl | exact Or.inr (Or.inl rfl) | exact Or.inr (Or.inr rfl))
    (hd : (x == ("__debug__" : Str)) = false := by decide) (hcd : (x == ("__classdict__" : Str)) = false := by decide)
    (hbase : attributeBase (.Name x np) "pop" X.env (eval (.Name x np) X.env) = eval (.Name x np) X.env := by rfl)
    (hfew : ((backTo cpos (starEach [e] X.env)).all (fun x => !x.1) && (backToKw cpos (keywordEach [] X.env)).all (fun x => x.1.isSome)
      && decide (([e] : List Expr).length + ([] : List Keyword).length + (if ([] : List Keyword).isEmpty then 0 else 1) < 30)) = true := by rfl)
    (hline : (apos.endLine == cpos.line) = true := by rfl) (hse : starEach [e] X.env = (false, eval e X.env) :: starEach [] X.env := by rfl) (hplain : (backTo cpos (starEach [] X.env)).any (·.1) = false := by rfl) :
    EM T X ρ M (.Call (.Attribute (.Name x np) "pop" apos) [e] [] cpos) P := by
  refine fun Hb Ob O σ H s Q k => wpE_of (pe_bm PySem.F.plainAttrs_list PySem.F.slot_list_pop PySem.F.type_list_pop mt_popAt (pe_var hN hv hd hcd) (pa_cons (wpE_pe X e) pa_nil hse) hbase hfew hline hse hplain) ?_
  rcases s.get i _ hr with z | ⟨v, z1, rfl, h2, h3, vs, h4, h5⟩
  · cases z
  refine ⟨_, z1, .inl ⟨rfl, _, SqL.of h4⟩, h Hb Ob O σ H s _ fun y d H2 r p1 s2 m2 k2 dv => ?_⟩
  obtain ⟨ds', j, x', rfl, g1, g2, g3, g4, g5⟩ := q d r p1
  rcases s2.get i _ g1 with z | ⟨v', z1', e', w2, w3, us, w4, w5⟩
  · cases z
  rw [z1] at z1'; cases z1'
  obtain ⟨u, hu, du⟩ := w5.get g2
  have hj := at_lt hu
  have hle : us.length ≤ 100000 := by rw [w5.length]; exact g3
  have hk : Keep O H2 (upd H2 l (.lst (us.eraseIdx j))) := fun a o n z _ => by rw [upd_ne (fun w => by subst w; exact n w2)]; exact z
  have hkM : Keep M H2 (upd H2 l (.lst (us.eraseIdx j))) := fun a o n z _ => by rw [upd_ne (fun w => by subst w; exact n hMl)]; exact z
  obtain rfl := Den.int_inv dv
  refine ⟨l, us, (j : Int), j, u, rfl, rfl, w4, by omega, by omega, seqIndex_of (by omega) (by omega), hu, ?_⟩
  exact k u x' _ _ g5 (s2.write i g1 w2 w3 g4 ld_lst ⟨_, z1, rfl, w2, w3, _, upd_same, (w5.erase j).mono (fun _ z => z) hk⟩) m2 (k2.trans hkM) (du.mono (fun _ z => z) hk)
end
/-! ### defs that write the list of their first argument -/
def spRow (T : Tbs) (Pre : List D → List D → Prop) (R : List D → List D → D → List D → Prop) : Sp := fun vs H Q _ => ∃ (O : Ow) (q : Addr) (xs : List V) (row : List D) (us : List V) (ds : List D), vs = .ref q :: us ∧ (∀ a, O a → H a ≠ none) ∧ LamX.Tabs T H ∧ O q ∧ H q = some (.lst xs) ∧ Dens O H xs row ∧ Dens O H us ds ∧ Pre row ds ∧
  ∀ v H' out row' xs', R row ds out row' → ExQ T q H H' → H' q = some (.lst xs') → Dens O H' xs' row' → Den O H' v out → Q v H'
section
variable {P : Program} {w : World} {K : PySem.W.Frag} {mg : Str → Option Value} {base : Heap}
theorem fnS_row {x : Str} {st : Stmt} {ps : List Str} {k : Nat} {Pre : List D → List D → Prop} {R : List D → List D → D → List D → Prop} (N : List Str) (Dd : Df K mg x st ps) (sc : FnScope N ps (defScope st))
    (hlen : ∀ row ds, Pre row ds → ds.length + 1 = ps.length)
    (body : ∀ (f : Addr) (cdv : Value) (A : Around) (outer : List Env) (s : Shared) (H : Hp) (E : XK) (q : Addr) (row ds : List D), Room k (A.deeper (envOfC x (defScope st) s.heap.objs.size f cdv)) → Pre row ds →
      XS T (cxOf CX0 P w K mg base N x (defScope st) f cdv A outer s H E).nox (.ol q row :: (ds.map Sl.d ++ List.replicate (N.length - (ds.length + 1)) .any)) (defBody st) { nx := fun r => ∃ row', r[0]? = some (.ol q row') ∧ R row ds .non row', rs := fun r d => ∃ row', r[0]? = some (.ol q row') ∧ R row ds d row' }) : FnS P w K mg base (k + 1) x (spRow T Pre R) := by
  obtain ⟨f, fd, F, hm, hb⟩ := Dd.ex
  have hps : ps.length ≤ N.length := by have := congrArg List.length sc.pre; rw [List.length_take] at this; omega
  refine ⟨f, fd, ps, F.ok sc (fun vs H Q E h => ?_) (fun cdv A outer s H vs Q E hr h => ?_), hm, F.kp, hb⟩
  · obtain ⟨O, q, xs, row, us, ds, rfl, _, _, _, _, _, hd, hp, _⟩ := h
    rw [List.length_cons, hd.length]; exact hlen row ds hp
  · obtain ⟨O, q, xs, row, us, ds, rfl, hO, hT, hq, hqx, hxs, hus, hp, hQ⟩ := h
    have hdl := hlen row ds hp
    have hul := hus.length
    refine ⟨_, wpSs_ps _ _, ?_⟩
    have st : S T (offH q H) (fun a => O a ∧ a ≠ q) O H (L2.start N (.ref q :: us)) (.ol q row :: (ds.map Sl.d ++ List.replicate (N.length - (ds.length + 1)) .any)) := by
      refine start_O hO hT hq ⟨_, hqx, ld_lst⟩ ?_ fun i r hi => ?_
      · unfold L2.start
        simp [hul]
      · cases i with
        | zero =>
          have hi : some (Sl.ol q row) = some r := hi
          cases hi
          exact .inr ⟨.ref q, rfl, rfl, hq, fun z => z.2 rfl, xs, hqx, hxs⟩
        | succ i =>
          have hi : (ds.map Sl.d ++ List.replicate (N.length - (ds.length + 1)) Sl.any)[i]? = some r := by simpa using hi
          by_cases h : i < ds.length
          · rw [List.getElem?_append_left (by simpa using h), List.getElem?_map] at hi
            have e : ds[i]? = some ds[i] := by simp [h]
            rw [e] at hi
            obtain rfl : Sl.d ds[i] = r := Option.some.inj hi
            obtain ⟨v, h1, h2⟩ := hus.get e
            refine .inr ⟨v, ?_, h2⟩
            unfold L2.start
            rw [List.getElem?_append_left (by simp [hul]; exact h), List.getElem?_map, List.getElem?_cons_succ, h1]; rfl
          · rw [List.getElem?_append_right (by simpa using h), List.getElem?_replicate] at hi
            split at hi
            · exact .inl (Option.some.inj hi).symm
            · cases hi
    have fin : ∀ (O' : Ow) (σ : L2.St) (H' : Hp) (ρ : List Sl) (v : V) (d : D), (∃ row', ρ[0]? = some (.ol q row') ∧ R row ds d row') → S T (offH q H) (fun a => O a ∧ a ≠ q) O' H' σ ρ → Den O' H' v d → Q v H' := fun O' σ H' ρ v d h3 s' dv => by
      obtain ⟨row', h3, h4⟩ := h3
      rcases s'.get 0 _ h3 with z | ⟨v0, z1, rfl, w2, w3, ks', w4, w5⟩
      · cases z
      · obtain ⟨e1, e2⟩ := s'.ends w2
        exact hQ v H' d row' ks' h4 e1 w4 (w5.mono e2 (.refl _)) (dv.mono e2 (.refl _))
    exact body f cdv A outer s H E q row ds hr hp (offH q H) _ O _ H st _ ⟨fun O' σ H' ρ h s' => fin O' σ H' ρ .non .non h s' .non, fun _ _ _ _ z => z.elim, fun _ _ _ _ z => z.elim, fun v d H' z => z.elim, fun O' σ H' ρ v d h s' dv => fin O' σ H' ρ v d h s' dv⟩
end
section
variable {X : Cx} {ρ : List Sl} {M : Ow} {a b c e : Expr} {es : List Expr} {pos p np apos cpos spos py : Pos} {P P1 : D → List Sl → Prop} {PA1 : List D → List Sl → Prop}
/-- a call of such a def -/
theorem em_row {k : Nat} {x y : Str} {q : Addr} {row : List D} {Pre : List D → List D → Prop} {R : List D → List D → D → List D → Prop} (F : FnS X.prog X.w X.K X.mg X.base k x (spRow T Pre R)) (hr : Room k X.A) (i : Nat) (hMq : M q) (ha : EMA T X ρ M es PA1)
    (hR : ∀ ds r, PA1 ds r → ∃ row1, r[i]? = some (.ol q row1) ∧ NoOwn q (r.set i .any) ∧ Pre row1 ds ∧ ∀ d row', R row1 ds d row' → P d (r.set i (.ol q row'))) (hρ : ρ[i]? = some (.ol q row) := by rfl)
    (hN : X.N[i]? = some y := by rfl) (hv : Vis X.env.scope y := by first | exact Or.inl rfl | exact Or.inr (Or.inl rfl) | exact Or.inr (Or.inr rfl))
    (hdx : (y == ("__debug__" : Str)) = false := by decide) (hcd : (y == ("__classdict__" : Str)) = false := by decide) (hg : Gl X x := by rfl) (hdb : (x == ("__debug__" : Str)) = false := by decide)
    (he : starEach (.Name y np :: es) X.env = (false, eval (.Name y np) X.env) :: starEach es X.env := by rfl) (hpl : (backTo pos (starEach es X.env)).any (·.1) = false := by rfl) : EM T X ρ M (.Call (.Name x p) (.Name y np :: es) [] pos) P := by
  obtain ⟨f, fd, ps, ok, hmg, hk, hb⟩ := F.ex
  refine fun Hb Ob O σ H s Q kk => wpE_of (pe_call ok hr hg hmg hk hb .nil pass0 (pa_cons (pe_var hN hv hdx hcd) (wpA_pa X es) he) hdb he hpl) ?_
  rcases s.get i _ hρ with z | ⟨v, z1, rfl, w2, w3, xs, w4, w5⟩
  · cases z
  refine ⟨_, z1, ha Hb Ob O σ H s _ fun us ds H1 r p1 s1 m1 k1 hd => ?_⟩
  obtain ⟨row1, g1, g2, g3, g4⟩ := hR ds r p1
  rcases s1.get i _ g1 with z | ⟨v', z1', e', w2', w3', ys, w4', w5'⟩
  · cases z
  show spRow T Pre R ((.ref q :: us) ++ []) H1 _ _
  rw [List.append_nil]
  refine ⟨O, q, ys, row1, us, ds, rfl, s1.oin, s1.tabs, w2', w4', w5', hd, g3, fun v2 H' out row' xs' hRR eq hq hxs' dv => ?_⟩
  have s2 := (s1.drop i).off w2' w3' g2 eq ⟨_, hq, ld_lst⟩
  refine kk v2 out H' _ (g4 out row' hRR) (s2.up z1 ⟨rfl, w2', w3', xs', hq, hxs'⟩) m1 (k1.trans fun a o n h nt => eq.keep a o (fun z => n (z ▸ hMq)) h nt) dv
end
end Fl

/-! FloZ -/
namespace Fl
open PySem L2 PyProof.Rows
variable {T : Tbs}
section
variable {X : Cx} {ρ : List Sl} {a b c e : Expr} {pos p : Pos}
theorem ed_mod {i j : Int} (hj : 0 < j) (ha : ED T X ρ a (.d (.int i))) (hb : ED T X ρ b (.d (.int j))) : ED T X ρ (.BinOp a .Mod b pos) (.d (.int (i % j))) :=
  ed_bin (fun _ _ h g => pe_op op_mod h g) ha hb fun Ob O H v u Q _ rv ru k => ⟨i, j, Den.int_inv rv, Den.int_inv ru, hj, k _ H (Ex.refl H) (.int _)⟩
theorem ed_fdiv {i j : Int} (hj : CDiv i j) (ha : ED T X ρ a (.d (.int i))) (hb : ED T X ρ b (.d (.int j))) : ED T X ρ (.BinOp a .FloorDiv b pos) (.d (.int (i / j))) :=
  ed_bin (fun _ _ h g => pe_op op_fdiv h g) ha hb fun Ob O H v u Q _ rv ru k => ⟨i, j, Den.int_inv rv, Den.int_inv ru, hj, k _ H (Ex.refl H) (.int _)⟩
theorem ed_pow {i j : Int} (hj : CPow i j) (ha : ED T X ρ a (.d (.int i))) (hb : ED T X ρ b (.d (.int j))) : ED T X ρ (.BinOp a .Pow b pos) (.d (.int (i ^ j.toNat))) :=
  ed_bin (fun _ _ h g => pe_op op_pow h g) ha hb fun Ob O H v u Q _ rv ru k => ⟨i, j, Den.int_inv rv, Den.int_inv ru, hj, k _ H (Ex.refl H) (.int _)⟩
end
/-! ### a comprehension whose items write -/
def EMSem (T : Tbs) (ρ : List Sl) (M : Ow) (te : TE) (P : D → List Sl → Prop) : Prop := ∀ Hb Ob O σ H, S T Hb Ob O H σ ρ → ∀ Q : VK, (∀ v d H2 r, P d r → S T Hb Ob O H2 σ r → (∀ a, M a → O a) → Keep M H H2 → Den O H2 v d → Q v H2) → te σ H Q
def EBM (T : Tbs) (X : Cx) (scope : Scope) (ρ : List Sl) (M : Ow) (e : Expr) (P : D → List Sl → Prop) : Prop := ∀ (s : Shared) (H : Hp) (C : Addr) (cl : List (Str × Addr)) (fp : List Addr), EM T (X.blk s H scope (compEnvC scope cl C X.env) fp) ρ M e P
theorem EBM.sem {X : Cx} {scope : Scope} {ρ : List Sl} {M : Ow} {e : Expr} {P : D → List Sl → Prop} (h : EBM T X scope ρ M e P) : EMSem T ρ M (bE X scope e) P := fun Hb Ob O σ H s Q k s1 H1 C cl fp => h s1 H1 C cl fp Hb Ob O σ H s Q k
theorem tlcM {ρ : List Sl} {M : Ow} {wi : TI} {ds : List D} (hw : Src T ρ wi ds) (hl : ds.length ≤ 50000) (j : Nat) {te : TE} (hM : MIn T ρ M) (I : Nat → List D → List Sl → Prop) (h0 : I 0 [] (ρ.set j .any)) (hno : ∀ i acc r, I i acc r → ∀ l, NoOwn l ρ → NoOwn l r)
    (step : ∀ i acc r d, ds[i]? = some d → I i acc r → EMSem T (r.set j (.d d)) M te fun y r' => I (i + 1) (acc ++ [y]) (r'.set j .any))
    (Hb : Hp) (Ob O : Ow) (σ : L2.St) (H : Hp) (s : S T Hb Ob O H σ ρ) (Q : VK) (k : ∀ v H2 acc r, I ds.length acc r → S T Hb Ob O H2 σ (r.set j .any) → (∀ a, M a → O a) → Keep M H H2 → Den O H2 v (.lst acc) → Q v H2) : tLc wi (gName j) tYes te [j] σ H Q := by
  refine hw Hb Ob O σ H s _ fun J G Y H1 e1 W hG hY => ?_
  intro q hq
  have m1 := hM Hb Ob O σ H s
  have s1 := s.on e1
  have nOq : ¬ O q := fun z => s1.oin q z hq
  have nOb : ¬ Ob q := fun z => nOq (s1.ob q z)
  have nMq : ¬ M q := fun z => nOq (m1 q z)
  have nq : NoOwn q ρ := s1.noOwn hq
  have hO : ∀ a, H1 a ≠ none → Op O q a → O a := fun a h z => op_grow hq a h z
  let St : Nat → Hp → Prop := fun i H' => ∃ acc r us, I i acc r ∧ acc.length = i ∧ S T Hb Ob (Op O q) H' (L2.wipe σ [j]) r ∧ Keep M H1 H' ∧ H' q = some (.lst us) ∧ Dens (Op O q) H' us acc
  refine ⟨fun i m H' => m = ds.length - i ∧ i ≤ ds.length ∧ St i H', ⟨ds.length, by simp, Nat.zero_le _, [], _, [], h0, rfl, (s1.take hq (Ex.new hq) ⟨_, upd_same, ld_lst⟩).wipe [j], .of (T := T) (Ex.new hq), upd_same, .nil⟩, ?_⟩
  rintro i m H' ⟨rfl, hi, acc, r, us, hI, hal, s', kp, hus, hd⟩
  have kpO : Keep O H1 H' := kp.wide m1
  by_cases hlt : i < ds.length
  · refine .inr ⟨W.goes i H' hlt (hG H' kpO), St (i + 1), fun H2 p2 => ⟨ds.length - (i + 1), by omega, rfl, hlt, p2⟩, fun x H'' y => ?_⟩
    have y := W.yields i H' x H'' hlt (hG H' kpO) y
    obtain ⟨d, hdi, ex2, hx⟩ := hY i (Op O q) H' x H'' hlt hO s'.oin kpO y
    refine ⟨?_, ?_⟩
    · show L2.wipe ((L2.wipe σ [j]).set j (some x)) [j] = L2.wipe σ [j]
      rw [wipe_set (by simp), wipe_wipe σ [j] [j] fun _ h => h]
    · refine iteT (B := True) ?_
      rw [if_pos rfl]
      refine step i acc r d hdi hI Hb Ob (Op O q) _ H'' ((s'.on ex2).set j (r := .d d) hx) _ fun v y' H4 r' p s4 _ k4 dv => ?_
      have hus2 : H'' q = some (.lst us) := ex2.keep _ _ hus nt_lst
      have hus4 : H4 q = some (.lst us) := k4 q _ nMq hus2 nt_lst
      have hd4 : Dens (Op O q) H4 us acc := (hd.ex ex2).mono (fun _ z => z) (k4.wide fun a z => .inl (m1 a z))
      refine ⟨us, hus4, Evl.sz_lt (by rw [hd.length, hal]; omega), ?_⟩
      have s5 : S T Hb Ob (Op O q) H4 (L2.wipe σ [j]) (r'.set j .any) := by
        have := s4.wipe [j]
        have e : L2.wipe ((L2.wipe σ [j]).set j (some x)) [j] = L2.wipe σ [j] := by rw [wipe_set (by simp), wipe_wipe σ [j] [j] fun _ h => h]
        rw [e] at this
        exact this
      have nq' : NoOwn q (r'.set j .any) := hno _ _ _ p q nq
      have hk : Keep (Op O q) H4 (upd H4 q (.lst (us ++ [v]))) := fun a o n h _ => by rw [upd_ne (fun z => n (.inr z))]; exact h
      refine ⟨acc ++ [y'], _, us ++ [v], p, by simp [hal], s5.off (.inr rfl) nOb nq' ((ExQ.refl q H4).mut hus4 ld_lst) ⟨_, upd_same, ld_lst⟩, ?_, upd_same, (hd4.append (.cons dv .nil)).mono (fun _ z => z) hk⟩
      have k5 : Keep M H1 H4 := (kp.trans (.of ex2)).trans k4
      exact fun a o n h nt => by rw [upd_ne (fun z => by subst z; rw [hq] at h; cases h)]; exact k5 a o n h nt
  · have e : i = ds.length := by omega
    subst e
    refine .inl ⟨W.stops H' (hG H' kpO), ?_⟩
    have nq' : NoOwn q r := hno _ _ _ hI q nq
    have eO : (fun a => Op O q a ∧ a ≠ q) = O := funext fun a => propext ⟨fun z => z.1.elim id fun w => absurd w z.2, fun z => ⟨.inl z, fun w => nOq (w ▸ z)⟩⟩
    have s6 := s'.give nOb nq'
    rw [eO] at s6
    have s7 : S T Hb Ob O H' σ (r.set j .any) := by
      have s8 := s6.drop j
      refine ⟨s8.ex, s8.ob, s8.own, s8.oin, s8.kind, s8.tabs, ?_, fun i' r1 h1 => ?_⟩
      · have := s8.len
        show σ.length = _
        rw [← this]
        show _ = (L2.wipe σ [j]).length
        rw [L2.wipe_length]
      · by_cases ej : j = i'
        · subst ej
          have hl : j < r.length := by have := at_lt h1; simpa using this
          rw [List.getElem?_set_self hl] at h1
          cases h1; exact .inl rfl
        · rcases s8.get i' r1 h1 with z | ⟨v, z1, z2⟩
          · exact .inl z
          · refine .inr ⟨v, ?_, z2⟩
            have z1 : (σ.set j none)[i']? = some (some v) := z1
            rwa [List.getElem?_set_ne ej] at z1
    exact k (.ref q) H' acc r hI s7 m1 ((Keep.of e1).trans kp) (.lst (.inl hus) nOq (hd.mono (fun _ z => .inl z) (.refl _)))
theorem em_lcM {X : Cx} {ρ : List Sl} {M : Ow} {P : D → List Sl → Prop} {it elt : Expr} {scope : Scope} {pos p : Pos} {ds : List D} {x : Str} (N : List Str) (sc : Scope) (j : Nat) (hN : N.Nodup) (hi : EI T X ρ (.Name x p) it ds) (hl : ds.length ≤ 50000) (hM : MIn T ρ M) (I : Nat → List D → List Sl → Prop) (h0 : I 0 [] (ρ.set j .any)) (hno : ∀ i acc r, I i acc r → ∀ l, NoOwn l ρ → NoOwn l r)
    (step : ∀ i acc r d, ds[i]? = some d → I i acc r → EBM T X scope (r.set j (.d d)) M elt fun y r' => I (i + 1) (acc ++ [y]) (r'.set j .any)) (q : ∀ acc r, I ds.length acc r → P (.lst acc) (r.set j .any))
    (ok : blkC N sc scope [(x, j)] = true := by decide +kernel) (hl1 : scope.names.lookup x = some .local := by decide +kernel) (hc : X.calm = true := by rfl) (eN : X.N = N := by rfl) (eS : X.env.scope = sc := by rfl)
    (hs : ∀ x, foldedSetIterable it X.env x = pure x := by intro _; rfl) : EM T X ρ M (.ListComp elt [⟨.Name x p, it, [], 0⟩] scope pos) P := by
  have ok' := blkOk_by ok
  have hj : X.N[j]? = some x := by rw [eN]; exact ok'.ix (x, j) (by simp)
  have nd : X.N.Nodup := by rw [eN]; exact hN
  obtain ⟨wi, pi, hw⟩ := hi
  refine fun Hb Ob O σ H s Q k => wpE_of (pe_lc hc nd pi (by rw [eN, eS]; exact ok') (tg_name (p := p) nd hj hl1).pg (fun _ _ _ _ _ => pts_nil) (fun s H C cl fp => bE_pe s H C cl fp) hs) ?_
  exact tlcM hw hl j hM I h0 hno (fun i acc r d h1 h2 => (step i acc r d h1 h2).sem) Hb Ob O σ H s Q fun v H2 acc r h1 h2 h3 h4 h5 => k v _ H2 _ (q acc r h1) h2 h3 h4 h5
theorem em_tupleL {X : Cx} {ρ : List Sl} {M : Ow} {P P1 : D → List Sl → Prop} {a : Expr} {pos p : Pos} (hm : X.mg "tuple" = none) (ha : EM T X ρ M a P1) (k : ∀ d r, P1 d r → ∃ ds, d = .lst ds ∧ P (.tup ds) r) (hg : Gl X "tuple" := by rfl) (hs : starEach [a] X.env = (false, eval a X.env) :: starEach [] X.env := by rfl) : EM T X ρ M (.Call (.Name "tuple" p) [a] [] pos) P :=
  fun Hb Ob O σ H s Q q => wpE_of (pe_callTy call_tuple_of hg hm (by decide +kernel) (pa_cons (wpE_pe X a) pa_nil hs) (he := hs) (hpl := by rfl)) <| ha Hb Ob O σ H s _ fun v d H1 r p1 s1 m1 k1 dv => by
    obtain ⟨ds, rfl, p2⟩ := k d r p1
    obtain ⟨t, vs, rfl, h2, hd⟩ := ROk.seqL (K := X.K) (Ob := Ob) (show ROk Ob O H1 v (.d (.lst ds)) from dv) (.inl rfl)
    exact ⟨t, vs, rfl, .inl ⟨h2, fun l hl => q _ _ _ r p2 (s1.on (Ex.new hl)) m1 (k1.trans (.of (T := T) (Ex.new hl))) (.tup (.inl upd_same) (s1.fresh hl) (hd.ex (Ex.new (T := T) hl)))⟩⟩
/-- a, b = two new lists -/
theorem xt_parL {X : Cx} {ρ : List Sl} {a b : Expr} {ds es : List D} {pos px py pt pt2 : Pos} {kt k2 : Nat} {x y : Str} {P : Po} (i j : Nat) (ha : EF T X ρ a ds) (hb : EF T X ρ b es) (q : ∀ l m, l ≠ m → NoOwn l ρ → NoOwn m ρ → P.nx ((ρ.set i (.ol l ds)).set j (.ol m es))) (hc : X.calm = true) (hN : X.N.Nodup) (hi : X.N[i]? = some x := by rfl) (hj : X.N[j]? = some y := by rfl) (hij : i ≠ j := by decide)
    (hx : X.env.scope.names.lookup x = some .local := by rfl) (hy : X.env.scope.names.lookup y = some .local := by rfl) (hsa : starEach [a, b] X.env = (false, eval a X.env) :: starEach [b] X.env := by rfl) (hsb : starEach [b] X.env = (false, eval b X.env) :: starEach [] X.env := by rfl)
    (hw : swappedStores [.Tuple [.Name x px, .Name y py] kt pt] (.Tuple [a, b] k2 pt2) X.env = pure (some [x, y]) := by rfl) (hs : swapsWithSole [.Tuple [.Name x px, .Name y py] kt pt] (.Tuple [a, b] k2 pt2) pos.line X.env = pure false := by rfl) :
    XT T X ρ (.Assign [.Tuple [.Name x px, .Name y py] kt pt] (.Tuple [a, b] k2 pt2) pos) P :=
  fun Hb Ob O σ H s Dn k => wpS_of (ps_par hc hN hi hj hij hx hy (pa_cons (wpE_pe X a) (pa_cons (wpE_pe X b) pa_nil hsb) hsa) hw hs) <| ha Hb Ob O σ H s _ fun l vs H1 hl e1 h1 d1 => hb Hb Ob (Op O l) σ H1 (s.take hl e1 ⟨_, h1, ld_lst⟩) _ fun m us H2 hm e2 h2 d2 => by
    have hml : l ≠ m := fun z => by subst z; rw [h1] at hm; cases hm
    have s1 := s.take hl e1 ⟨_, h1, ld_lst⟩
    have s2 := s1.take hm e2 ⟨_, h2, ld_lst⟩
    have d1' : Dens (Op (Op O l) m) H2 vs ds := (d1.grow hm).ex e2
    exact ⟨_, _, rfl, k.nx (Op (Op O l) m) _ _ _ (q l m hml (s.noOwn hl) ((s.on e1).noOwn hm)) ((s2.set i (r := .ol l ds) ⟨rfl, .inl (.inr rfl), fun z => s.oin l (s.ob l z) hl, vs, e2.keep _ _ h1 nt_lst, d1'⟩).set j (r := .ol m es) ⟨rfl, .inr rfl, fun z => (s.on e1).oin m (s.ob m z) hm, us, h2, d2⟩)⟩
/-! ### the law's own defs -/
variable {P : Program} {w : World} {K : PySem.W.Frag} {mg : Str → Option Value} {base : Heap}
def RowOk (row : List D) : Prop := ∃ (ns : List Int) (a b c : Int), row = [.lst (ns.map D.int), .int a, .int b, .int c] ∧ 0 ≤ a ∧ 0 ≤ b ∧ b < 2147483647
def PTaken (row ds : List D) : Prop := RowOk row ∧ ∃ m : Int, ds = [.int m] ∧ 0 < m ∧ m < 1000000
def RTaken (_row ds : List D) (out : D) (row' : List D) : Prop := RowOk row' ∧ ∃ m j : Int, ds = [.int m] ∧ out = .int j ∧ 0 ≤ j ∧ j < m
theorem sc50 : FnScope ["_law_row", "_law_many", "_law_found", "_law_cell"] ["_law_row", "_law_many"] (defScope (topS 50)) := ⟨rfl, rfl, rfl, by decide +kernel, rfl, by decide +kernel, by decide +kernel⟩
theorem fn_taken (Dd : Df K mg "_law_taken" (topS 50) ["_law_row", "_law_many"]) (B : Nb mg) : FnS P w K mg base 1 "_law_taken" (spRow T PTaken RTaken) := by
  refine fnS_row _ Dd sc50 (by rintro row ds ⟨_, m, rfl, _⟩; rfl) (fun f cdv A outer s H E q row ds hr hp => ?_)
  obtain ⟨⟨ns, a, b, c, rfl, ha, hb0, hb1⟩, m, rfl, hm0, hm1⟩ := hp
  have md : ∀ i : Int, 0 ≤ i % m ∧ i % m < m := fun i => ⟨Int.emod_nonneg _ (by omega), Int.emod_lt_of_pos _ hm0⟩
  have md2 : ∀ i : Int, 0 ≤ i % 2147483647 ∧ i % 2147483647 < 2147483647 := fun i => ⟨Int.emod_nonneg _ (by omega), Int.emod_lt_of_pos _ (by omega)⟩
  have cm : ∀ b : Int, 0 ≤ b → b < 2147483647 → CMul b 48271 := fun b h1 h2 => .inr ⟨by decide, by decide⟩
  refine xs_ifL (x := decide (0 < c)) (et_gt (ed_ix (x := .int c) (ed_var 0) (.o _ _) ed_int (by decide) rfl) ed_int) (fun hc => ?_) (fun hc => ?_)
  · refine xs_then (xt_asg 2 (ed_mod hm0 (ed_intof B.int (ed_ix (x := .int c) (ed_var 0) (.o _ _) ed_int (by decide) rfl)) (ed_var 1)) rfl sc50.nd) ?_
    refine xs_then (xt_lset (j := 3) 0 (ed_fdiv ⟨hm0, by omega⟩ (ed_ix (x := .int c) (ed_var 0) (.o _ _) ed_int (by decide) rfl) (ed_var 1)) ed_int trivial rfl ?_) ?_
    · simp
    exact xs_one (xt_retS (ed_var 2) ⟨_, rfl, ⟨ns, a, b, c / m, rfl, ha, hb0, hb1⟩, m, c % m, rfl, rfl, md c⟩)
  · refine xs_then (xt_lset (j := 1) 0 (ed_add (ed_ix (x := .int a) (ed_var 0) (.o _ _) ed_int (by decide) rfl) ed_int) ed_int trivial rfl ?_) ?_
    · simp
    refine xs_ifL (x := decide ((ns.length : Int) < a + 1)) (et_gt (ed_ix (x := .int (a + 1)) (ed_var 0) (.o _ _) ed_int (by decide) rfl) ((ed_len B.len (ed_ix (x := .lst (ns.map D.int)) (ed_var 0) (.o _ _) ed_int (by decide) rfl) (.l _)).to (by rw [List.length_map]))) (fun h1 => ?_) (fun h1 => ?_)
    · refine xs_then (xt_lset (j := 2) 0 (ed_mod (by decide) (ed_intof B.int (ed_add (ed_mul (cm b hb0 hb1) (ed_ix (x := .int b) (ed_var 0) (.o _ _) ed_int (by decide) rfl) ed_int) ed_int)) ed_int) ed_int trivial rfl ?_) ?_
      · simp
      exact xs_one (xt_retS (ed_mod hm0 (ed_intof B.int (ed_fdiv ⟨by decide, by decide⟩ (ed_ix (x := .int ((b * 48271 + 11) % 2147483647)) (ed_var 0) (.o _ _) ed_int (by decide) rfl) ed_int)) (ed_var 1)) ⟨_, rfl, ⟨ns, a + 1, _, c, rfl, by omega, md2 _⟩, m, _, rfl, rfl, md _⟩)
    · have hle : a + 1 ≤ ns.length := by
        have : ¬ ((ns.length : Int) < a + 1) := by simpa using h1
        omega
      have hal : a.toNat < ns.length := by omega
      have hcell : (ns.map D.int)[(a + 1 - 1).toNat]? = some (.int ns[a.toNat]) := by
        rw [List.getElem?_map, show (a + 1 - 1).toNat = a.toNat from by omega, List.getElem?_eq_getElem hal]; rfl
      generalize ns[a.toNat] = cell at hcell
      refine xs_then (xt_asg 3 (ed_ix (x := .int cell) (ed_ix (x := .lst (ns.map D.int)) (ed_var 0) (.o _ _) ed_int (by decide) rfl) (.l _) (ed_sub (ed_ix (x := .int (a + 1)) (ed_var 0) (.o _ _) ed_int (by decide) rfl) ed_int) (by omega) hcell) rfl sc50.nd) ?_
      refine xs_then (xt_lset (j := 2) 0 (ed_mod (by decide) (ed_intof B.int (ed_add (ed_add (ed_mul (cm b hb0 hb1) (ed_ix (x := .int b) (ed_var 0) (.o _ _) ed_int (by decide) rfl) ed_int) (ed_var 3)) ed_int)) ed_int) ed_int trivial rfl ?_) ?_
      · simp
      refine xs_cons (fun r => ∃ c', r = [.ol q [.lst (ns.map D.int), .int (a + 1), .int ((b * 48271 + cell + 11) % 2147483647), .int c'], .d (.int m), .any, .d (.int cell)])
        (xt_if (x := decide ((10 : Int) ^ (18 : Int).toNat ≤ cell)) (et_ge (ed_var 3) (ed_pow ⟨by decide, by decide, by decide⟩ ed_int ed_int)) (fun _ => xs_one (xt_lset (j := 3) 0 (ed_fdiv ⟨hm0, by omega⟩ (ed_var 3) (ed_var 1)) ed_int trivial ⟨_, rfl⟩ ?_)) (fun _ => xs_nil ⟨c, rfl⟩)) ?_
      · simp
      rintro _ ⟨c', rfl⟩
      exact xs_one (xt_retS (ed_mod hm0 (ed_intof B.int (ed_var 3)) (ed_var 1)) ⟨_, rfl, ⟨ns, a + 1, _, c', rfl, by omega, md2 _⟩, m, _, rfl, rfl, md _⟩)
end Fl

/-! FloZa -/
namespace Fl
open PySem L2 PyProof.Rows
variable {T : Tbs}
section
variable {X : Cx} {ρ : List Sl} {M : Ow} {e : Expr} {pos p np : Pos} {P : D → List Sl → Prop}
theorem em_taken {k : Nat} {y : Str} {q : Addr} {row : List D} {m : Int} (F : FnS X.prog X.w X.K X.mg X.base k "_law_taken" (spRow T PTaken RTaken)) (hr : Room k X.A) (i : Nat) (hMq : M q) (hM : MIn T ρ M) (hrow : RowOk row) (hno : NoOwn q (ρ.set i .any)) (hm0 : 0 < m) (hm1 : m < 1000000) (he : ED T X ρ e (.d (.int m)))
    (kk : ∀ (j : Int) row', 0 ≤ j → j < m → RowOk row' → P (.int j) (ρ.set i (.ol q row'))) (hρ : ρ[i]? = some (.ol q row) := by rfl)
    (hN : X.N[i]? = some y := by rfl) (hv : Vis X.env.scope y := by first | exact Or.inl rfl | exact Or.inr (Or.inl rfl) | exact Or.inr (Or.inr rfl))
    (hdx : (y == ("__debug__" : Str)) = false := by decide) (hcd : (y == ("__classdict__" : Str)) = false := by decide) (hg : Gl X "_law_taken" := by rfl)
    (hs1 : starEach (.Name y np :: [e]) X.env = (false, eval (.Name y np) X.env) :: starEach [e] X.env := by rfl) (hs2 : starEach [e] X.env = (false, eval e X.env) :: starEach [] X.env := by rfl) (hpl : (backTo pos (starEach [e] X.env)).any (·.1) = false := by rfl) : EM T X ρ M (.Call (.Name "_law_taken" p) (.Name y np :: [e]) [] pos) P :=
  em_row F hr i hMq (ema_pure (PA := fun ds r => ds = [.int m] ∧ r = ρ) (ea_cons he ea_nil hs2) hM ⟨rfl, rfl⟩) (fun ds r ⟨e1, e2⟩ => by
    subst e1 e2
    refine ⟨row, hρ, hno, ⟨hrow, m, rfl, hm0, hm1⟩, fun d row' h => ?_⟩
    obtain ⟨h1, m', j, h2, rfl, h4, h5⟩ := h
    cases h2
    exact kk j row' h4 h5 h1) hρ hN hv hdx hcd hg (by decide) hs1 hpl
end
variable {P : Program} {w : World} {K : PySem.W.Frag} {mg : Str → Option Value} {base : Heap}
def Few (most : Int) (zs : List Sz) : Prop := ∀ z ∈ zs, 1 ≤ z.1 ∧ z.1 ≤ most ∧ 1 ≤ z.2 ∧ z.2 ≤ most
def PSizes (row ds : List D) : Prop := RowOk row ∧ ∃ (n : Nat) (most : Int), ds = [dN n, .int most] ∧ n ≤ 8 ∧ 0 < most ∧ most ≤ 99
def RSizes (_row ds : List D) (out : D) (row' : List D) : Prop := RowOk row' ∧ ∃ (n : Nat) (most : Int) (zs : List Sz), ds = [dN n, .int most] ∧ out = dSizes zs ∧ zs.length = n ∧ Few most zs
theorem sc51 : FnScope ["_law_row", "_law_many", "_law_most", "_law_block"] ["_law_row", "_law_many", "_law_most"] (defScope (topS 51)) := ⟨rfl, rfl, rfl, by decide +kernel, rfl, by decide +kernel, by decide +kernel⟩
theorem fn_law_sizes (Dd : Df K mg "_law_sizes" (topS 51) ["_law_row", "_law_many", "_law_most"]) (B : Nb mg) (F50 : FnS P w K mg base 1 "_law_taken" (spRow T PTaken RTaken)) : FnS P w K mg base 2 "_law_sizes" (spRow T PSizes RSizes) := by
  refine fnS_row _ Dd sc51 (by rintro row ds ⟨_, n, m, rfl, _⟩; rfl) (fun f cdv A outer s H E q row ds hr hp => ?_)
  obtain ⟨hrow, n, most, rfl, hn, hm0, hm1⟩ := hp
  have hmin : ∀ (row : List D) (x y z : Sl), MIn T [.ol q row, x, y, z] (fun a => a = q) := fun row x y z => min_ol 0 rfl
  let I : Nat → List D → List Sl → Prop := fun i acc r => ∃ row' zs, RowOk row' ∧ r = [.ol q row', .d (dN n), .d (.int most), .any] ∧ acc = List.map dSize zs ∧ zs.length = i ∧ Few most zs
  have hI : I 0 [] (([.ol q row, .d (dN n), .d (.int most), .any] : List Sl).set 3 .any) := ⟨row, [], hrow, rfl, rfl, rfl, fun z hz => by simp at hz⟩
  have hlen : (rgD (n : Int)).length = n := by rw [rg_nat]; simp
  refine xs_one (xt_retM (M := fun a => a = q) (P1 := fun d r => ∃ row', r[0]? = some (.ol q row') ∧ RSizes row [dN n, .int most] d row') (em_tupleL (P1 := fun d r => ∃ row' zs, RowOk row' ∧ r[0]? = some (.ol q row') ∧ d = .lst (List.map dSize zs) ∧ zs.length = n ∧ Few most zs) B.tuple
    (em_lcM ["_law_row", "_law_many", "_law_most", "_law_block"] (defScope (topS 51)) 3 sc51.nd (ei_range B.range (ed_var 1) (by omega) (by omega)) (by rw [hlen]; omega) (hmin _ _ _ _) I hI ?_ ?_ ?_) ?_) ?_)
  · rintro i acc r ⟨row', zs, _, rfl, _⟩ l h
    exact ⟨h.1, trivial⟩
  · rintro i acc r d hd ⟨row', zs, h1, rfl, rfl, h3, h4⟩
    intro s' H' C cl fp
    refine em_tup (PA1 := fun ds r => ∃ j1 j2 row2, ds = [.int (1 + j1), .int (1 + j2)] ∧ 0 ≤ j1 ∧ j1 < most ∧ 0 ≤ j2 ∧ j2 < most ∧ RowOk row2 ∧ r = [.ol q row2, .d (dN n), .d (.int most), .d d]) (ema_cons (P1 := fun d1 r => ∃ j1 row1, d1 = .int (1 + j1) ∧ 0 ≤ j1 ∧ j1 < most ∧ RowOk row1 ∧ r = [.ol q row1, .d (dN n), .d (.int most), .d d])
      (em_add (P1 := fun d1 r => ∃ j1 row1, d1 = .int j1 ∧ 0 ≤ j1 ∧ j1 < most ∧ RowOk row1 ∧ r = [.ol q row1, .d (dN n), .d (.int most), .d d]) ed_int (em_taken F50 hr 0 rfl (hmin _ _ _ _) h1 trivial hm0 (by omega) (ed_var 2) fun j row2 g1 g2 g3 => ⟨j, row2, rfl, g1, g2, g3, rfl⟩) fun d r ⟨j1, row1, e1, e2, e3, e4, e5⟩ => ⟨j1, e1, j1, row1, rfl, e2, e3, e4, e5⟩)
      fun d1 r ⟨j1, row1, e1, e2, e3, e4, e5⟩ => ?_) ?_
    · subst e1 e5
      refine ema_cons (P1 := fun d2 r => ∃ j2 row2, d2 = .int (1 + j2) ∧ 0 ≤ j2 ∧ j2 < most ∧ RowOk row2 ∧ r = [.ol q row2, .d (dN n), .d (.int most), .d d])
        (em_add (P1 := fun d1 r => ∃ j1 row1, d1 = .int j1 ∧ 0 ≤ j1 ∧ j1 < most ∧ RowOk row1 ∧ r = [.ol q row1, .d (dN n), .d (.int most), .d d]) ed_int (em_taken F50 hr 0 rfl (hmin _ _ _ _) e4 trivial hm0 (by omega) (ed_var 2) fun j row2 g1 g2 g3 => ⟨j, row2, rfl, g1, g2, g3, rfl⟩) fun d r ⟨j1, row1, e1, e2, e3, e4, e5⟩ => ⟨j1, e1, j1, row1, rfl, e2, e3, e4, e5⟩)
        fun d2 r ⟨j2, row2, f1, f2, f3, f4, f5⟩ => ?_
      subst f1 f5
      exact ema_nil (hmin _ _ _ _) ⟨j1, j2, row2, rfl, e2, e3, f2, f3, f4, rfl⟩
    · rintro ds r ⟨j1, j2, row2, rfl, g1, g2, g3, g4, g5, rfl⟩
      refine ⟨by simp, row2, zs ++ [(1 + j1, 1 + j2)], g5, rfl, by simp, by simp [h3], fun z hz => ?_⟩
      rcases List.mem_append.mp hz with hz | hz
      · exact h4 z hz
      · simp at hz; subst hz; exact ⟨by omega, by omega, by omega, by omega⟩
  · rintro acc r ⟨row', zs, h1, rfl, rfl, h3, h4⟩
    exact ⟨row', zs, h1, rfl, rfl, by rw [h3, hlen], h4⟩
  · rintro d r ⟨row', zs, h1, h2, rfl, h3, h4⟩
    exact ⟨_, rfl, row', h2, h1, n, most, zs, rfl, rfl, h3, h4⟩
  · rintro d r h; exact h
/-! _law_order -/
def POrder (row ds : List D) : Prop := RowOk row ∧ ∃ n : Nat, ds = [dN n] ∧ n ≤ 8
def ROrder (_row ds : List D) (out : D) (row' : List D) : Prop := RowOk row' ∧ ∃ (n : Nat) (o : List Nat), ds = [dN n] ∧ out = dOrd o ∧ IsOrd n o
theorem sc52 : FnScope ["_law_row", "_law_many", "_law_left", "_law_found", "_law_turn"] ["_law_row", "_law_many"] (defScope (topS 52)) := ⟨rfl, rfl, rfl, by decide +kernel, rfl, by decide +kernel, by decide +kernel⟩
theorem erase_perm {α : Type} : ∀ (xs : List α) (j : Nat) (hj : j < xs.length), (xs[j] :: xs.eraseIdx j).Perm xs
  | [], j, h => by simp at h
  | x :: xs, 0, _ => List.Perm.refl _
  | x :: xs, j + 1, h => by
    have ih := erase_perm xs j (by simpa using h)
    show ((x :: xs)[j + 1] :: x :: xs.eraseIdx j).Perm (x :: xs)
    exact (List.Perm.swap _ _ _).trans (ih.cons x)
theorem erase_map {α β : Type} (f : α → β) : ∀ (xs : List α) (j : Nat), (xs.map f).eraseIdx j = (xs.eraseIdx j).map f
  | [], j => by simp
  | x :: xs, 0 => rfl
  | x :: xs, j + 1 => by
    show f x :: (xs.map f).eraseIdx j = f x :: (xs.eraseIdx j).map f
    rw [erase_map f xs j]
theorem perm_pop {xs ys zs : List Nat} {j x : Nat} (h : (xs ++ ys).Perm zs) (hx : xs[j]? = some x) : (xs.eraseIdx j ++ (ys ++ [x])).Perm zs := by
  obtain ⟨hj, rfl⟩ := List.getElem?_eq_some_iff.mp hx
  have h1 : (xs[j] :: xs.eraseIdx j).Perm xs := erase_perm xs j hj
  refine List.Perm.trans ?_ h
  rw [← List.append_assoc]
  refine (List.perm_append_singleton _ _).trans ?_
  rw [← List.cons_append]
  exact h1.append_right ys
theorem fn_law_order (Dd : Df K mg "_law_order" (topS 52) ["_law_row", "_law_many"]) (B : Nb mg) (F50 : FnS P w K mg base 1 "_law_taken" (spRow T PTaken RTaken)) : FnS P w K mg base 2 "_law_order" (spRow T POrder ROrder) := by
  refine fnS_row _ Dd sc52 (by rintro row ds ⟨_, n, rfl, _⟩; rfl) (fun f cdv A outer s H E q row ds hr hp => ?_)
  obtain ⟨hrow, n, rfl, hn⟩ := hp
  refine xs_cons (fun r => ∃ l m, r = [.ol q row, .d (dN n), .ol l ((List.range n).map dN), .ol m [], .any] ∧ l ≠ m ∧ q ≠ l ∧ q ≠ m) (xt_parL 2 3 ((ef_listRg rfl B.list B.range (ed_var 1) ⟨by omega, by omega⟩).to (rg_nat n)) (ef_lst ea_nil (by simp)) (fun l m h1 h2 h3 => ⟨l, m, rfl, h1, h2.1, h3.1⟩) rfl sc52.nd) ?_
  rintro _ ⟨l, m, rfl, hlm, hql, hqm⟩
  refine xs_cons (fun r => ∃ row' fnd a b, r = [.ol q row', .d (dN n), a, .ol m (fnd.map dN), b] ∧ RowOk row' ∧ IsOrd n fnd) (xt_for1 4 (fun i r => ∃ row' lft fnd a, r = [.ol q row', .d (dN n), .ol l (lft.map dN), .ol m (fnd.map dN), a] ∧ RowOk row' ∧ (lft ++ fnd).Perm (List.range n) ∧ fnd.length = i ∧ Pl [a]) (ei_range B.range (ed_var 1) (by omega) (by omega)) sc52.nd ⟨row, List.range n, [], .any, rfl, hrow, by simp, rfl, fun _ => trivial⟩ ?_ ?_) ?_
  · rintro i d ρ' hd ⟨row', lft, fnd, a, rfl, h1, h2, h3, h4⟩
    obtain ⟨hi, rfl⟩ := rg_at hd
    have hi : i < n := by simpa using hi
    have hlen := h2.length_eq
    rw [List.length_append, List.length_range] at hlen
    refine xs_one (xt_appM (M := fun a => a = q ∨ a = l) (P1 := fun d r => ∃ (j x : Nat) (row2 : List D), d = dN x ∧ lft[j]? = some x ∧ RowOk row2 ∧ r = [.ol q row2, .d (dN n), .ol l ((lft.eraseIdx j).map dN), .ol m (fnd.map dN), .d (dN i)]) 3 rfl
      (em_pop (ds := lft.map dN) (P1 := fun d r => ∃ (j : Nat) (row2 : List D), d = .int (j : Nat) ∧ j < lft.length ∧ RowOk row2 ∧ r = [.ol q row2, .d (dN n), .ol l (lft.map dN), .ol m (fnd.map dN), .d (dN i)]) 2 rfl (Or.inr rfl) (em_taken (m := lft.length) F50 hr 0 (Or.inl rfl) (min_ol2 0 2 rfl rfl) h1 ⟨fun e => hql e.symm, fun e => hqm e.symm, trivial⟩ (by omega) (by omega) ((ed_len B.len (ed_var 2) (.o _ _)).to (by simp)) ?_) ?_) ?_)
    · rintro j row2 g1 g2 g3
      refine ⟨j.toNat, row2, ?_, by omega, g3, rfl⟩
      rw [show ((j.toNat : Nat) : Int) = j from by omega]
    · rintro d r ⟨j, row2, rfl, g1, g2, rfl⟩
      have hx : lft[j]? = some lft[j] := by simp [g1]
      refine ⟨lft.map dN, j, dN lft[j], rfl, rfl, by rw [List.getElem?_map, hx]; rfl, by simp; omega, ⟨hql, fun e => hlm e.symm, trivial⟩, j, lft[j], row2, rfl, hx, g2, ?_⟩
      rw [erase_map]; rfl
    · rintro d r ⟨j, x, row2, rfl, g1, g2, rfl⟩
      refine ⟨fnd.map dN, rfl, by simp; omega, ⟨hqm, hlm, trivial⟩, row2, lft.eraseIdx j, fnd ++ [x], .d (dN i), ?_, g2, perm_pop h2 g1, by simp [h3], fun _ => trivial⟩
      rw [List.map_append]; rfl
  · rintro ρ' ⟨row', lft, fnd, a, rfl, h1, h2, h3, h4⟩
    have hlen : (rgD (n : Int)).length = n := by rw [rg_nat]; simp
    rw [hlen] at h3
    have hl2 := h2.length_eq
    rw [List.length_append, List.length_range] at hl2
    obtain rfl : lft = [] := List.eq_nil_of_length_eq_zero (by omega)
    have h2 : fnd.Perm (List.range n) := by simpa using h2
    exact ⟨row', fnd, _, a, rfl, h1, h3, fun i hi => List.mem_range.mp (h2.mem_iff.mp hi), h2.nodup_iff.mpr List.nodup_range⟩
  · rintro ρ' ⟨row', fnd, a, b, rfl, h1, h2⟩
    exact xs_one (xt_retS (ed_tupleL B.tuple (ed_var 3) (.inr ⟨m, rfl⟩)) ⟨row', rfl, h1, n, fnd, rfl, rfl, h2⟩)
/-! _law_bush -/
def PBush (d : Nat) (row ds : List D) : Prop := RowOk row ∧ ∃ bs : List Nat, ds = [.lst (bs.map dN)] ∧ bs.length ≤ d ∧ bs.length ≤ 8
def RBush (_row ds : List D) (out : D) (row' : List D) : Prop := RowOk row' ∧ ∃ (bs : List Nat) (b : Bu), ds = [.lst (bs.map dN)] ∧ out = dBu b ∧ b.ns = bs
theorem sc54 : FnScope ["_law_row", "_law_blocks", "_law_left"] ["_law_row", "_law_blocks"] (defScope (topS 54)) := ⟨rfl, rfl, rfl, by decide +kernel, rfl, by decide +kernel, by decide +kernel⟩
theorem fn_law_bush (Dd : Df K mg "_law_bush" (topS 54) ["_law_row", "_law_blocks"]) (B : Nb mg) (F50 : FnS P w K mg base 1 "_law_taken" (spRow T PTaken RTaken)) : ∀ d, FnS P w K mg base (d + 2) "_law_bush" (spRow T (PBush d) RBush)
  | 0 => by
    refine fnS_row _ Dd sc54 (by rintro row ds ⟨_, n, rfl, _⟩; rfl) (fun f cdv A outer s H E q row ds hr hp => ?_)
    obtain ⟨hrow, bs, rfl, hb, _⟩ := hp
    obtain rfl : bs = [] := List.eq_nil_of_length_eq_zero (by omega)
    exact xs_ifL ((et_eqD hr.units (ed_var 1) (ef_lst ea_nil (by simp)).ed (nb_lst _) rfl (by have := depth_nats []; omega) (by decide)).to (nats_eq_nil [])) (fun _ => xs_one (xt_retS ed_non ⟨row, rfl, hrow, [], .nil, rfl, rfl, rfl⟩)) fun z => by simp at z
  | d + 1 => by
    have F := fn_law_bush Dd B F50 d
    refine fnS_row _ Dd sc54 (by rintro row ds ⟨_, n, rfl, _⟩; rfl) (fun f cdv A outer s H E q row ds hr hp => ?_)
    obtain ⟨hrow, bs, rfl, hb, hb8⟩ := hp
    refine xs_ifL ((et_eqD hr.units (ed_var 1) (ef_lst ea_nil (by simp)).ed (nb_lst _) rfl (by have := depth_nats bs; omega) (by decide)).to (nats_eq_nil bs)) (fun h => xs_one (xt_retS ed_non ⟨row, rfl, hrow, bs, .nil, rfl, rfl, ?_⟩)) fun h => ?_
    · have : bs = [] := by simpa using h
      rw [this]; rfl
    · obtain ⟨x, xs, rfl⟩ := List.exists_cons_of_ne_nil (show bs ≠ [] by simpa using h)
      have hxd : xs.length ≤ d := by simpa using hb
      have hx8 : xs.length + 1 ≤ 8 := by simpa using hb8
      refine xs_cons (fun r => ∃ (i : Nat) (row' : List D), r = [.ol q row', .d (.lst ((x :: xs).map dN)), .d (dN i)] ∧ i ≤ xs.length ∧ RowOk row') (xt_asgM (M := fun a => a = q) (P1 := fun d r => ∃ (i : Nat) (row' : List D), d = dN i ∧ r = [.ol q row', .d (.lst ((x :: xs).map dN)), .any] ∧ i ≤ xs.length ∧ RowOk row') 2
        (em_taken (m := (x :: xs).length) F50 (hr.mono (by omega)) 0 rfl (min_ol 0 rfl) hrow trivial (by simp) (by simp; omega) ((ed_len B.len (ed_var 1) (.l _)).to (by simp)) ?_) ?_ sc54.nd) ?_
      · rintro j row2 g1 g2 g3
        refine ⟨j.toNat, row2, ?_, rfl, ?_, g3⟩
        · show D.int j = .int _
          rw [show ((j.toNat : Nat) : Int) = j from by omega]
        · simp at g2; omega
      · rintro d r ⟨i, row', rfl, rfl, h1, h2⟩
        exact ⟨i, row', rfl, h1, h2⟩
      · rintro ρ' ⟨i, row1, rfl, hi, hrow1⟩
        let SS : List D → List Sl := fun row => [.ol q row, .d (.lst ((x :: xs).map dN)), .d (dN i)]
        refine xs_one (xt_retM (M := fun a => a = q) (P1 := fun d r => ∃ row', r[0]? = some (.ol q row') ∧ RBush row [.lst ((x :: xs).map dN)] d row')
          (em_tup (PA1 := fun ds r => ∃ row3 b1 b2, RowOk row3 ∧ r = SS row3 ∧ ds = [dN x, dBu b1, dBu b2] ∧ b1.ns = xs.take i ∧ b2.ns = xs.drop i)
            (ema_cons (P1 := fun d r => d = dN x ∧ r = SS row1) (em_pure (ed_ix (x := dN x) (ed_var 1) (.l _) ed_int (by decide) rfl) (min_ol 0 rfl) ⟨rfl, rfl⟩) ?_) ?_) fun d r h => h)
        · rintro d0 r ⟨rfl, rfl⟩
          refine ema_cons (P1 := fun d r => ∃ row2 b1, RowOk row2 ∧ r = SS row2 ∧ d = dBu b1 ∧ b1.ns = xs.take i)
            (em_row (PA1 := fun ds r => ds = [.lst ((xs.take i).map dN)] ∧ r = SS row1) F hr 0 rfl (ema_pure (ea_cons ((ef_slL (ed_var 1) (.inl rfl) (eo_some ed_int) (eo_some (ed_add (ed_var 2) ed_int))).ed.to (r' := .d (.lst ((xs.take i).map dN))) ?_) ea_nil) (min_ol 0 rfl) ⟨rfl, rfl⟩) ?_) ?_
          · have := cut_mid (ds := (x :: xs).map dN) 1 (i + 1) (by omega)
            rw [show (((i + 1 : Nat) : Int)) = (i : Int) + 1 from rfl] at this
            show Sl.d (.lst (cutD ((x :: xs).map dN) (some ((1 : Nat) : Int)) (some ((i : Int) + 1)))) = _
            rw [this]; simp [List.map_take]
          · rintro ds r ⟨rfl, rfl⟩
            refine ⟨row1, rfl, trivial, ⟨hrow1, xs.take i, rfl, by rw [List.length_take]; omega, by rw [List.length_take]; omega⟩, ?_⟩
            rintro d row' ⟨g1, bs, b, g2, rfl, g3⟩
            have hinj : bs = xs.take i := by
              have g2' : bs.map dN = (xs.take i).map dN := by simpa using g2.symm
              exact (List.map_inj_right (f := dN) (fun a b h => Int.ofNat.inj (by simpa [dN] using h))).mp g2'
            exact ⟨row', b, g1, rfl, rfl, by rw [g3, hinj]⟩
          · rintro d1 r ⟨row2, b1, g1, rfl, rfl, g2⟩
            refine ema_cons (P1 := fun d r => ∃ row3 b2, RowOk row3 ∧ r = SS row3 ∧ d = dBu b2 ∧ b2.ns = xs.drop i)
              (em_row (PA1 := fun ds r => ds = [.lst ((xs.drop i).map dN)] ∧ r = SS row2) F hr 0 rfl (ema_pure (ea_cons ((ef_slL (ed_var 1) (.inl rfl) (eo_some (ed_add (ed_var 2) ed_int)) eo_none).ed.to (r' := .d (.lst ((xs.drop i).map dN))) ?_) ea_nil) (min_ol 0 rfl) ⟨rfl, rfl⟩) ?_) ?_
            · have := cut_from (ds := (x :: xs).map dN) (i + 1)
              rw [show (((i + 1 : Nat) : Int)) = (i : Int) + 1 from rfl] at this
              show Sl.d (.lst (cutD ((x :: xs).map dN) (some ((i : Int) + 1)) none)) = _
              rw [this]; simp [List.map_drop]
            · rintro ds r ⟨rfl, rfl⟩
              refine ⟨row2, rfl, trivial, ⟨g1, xs.drop i, rfl, by rw [List.length_drop]; omega, by rw [List.length_drop]; omega⟩, ?_⟩
              rintro d row' ⟨g1, bs, b, g2, rfl, g3⟩
              have hinj : bs = xs.drop i := by
                have g2' : bs.map dN = (xs.drop i).map dN := by simpa using g2.symm
                exact (List.map_inj_right (f := dN) (fun a b h => Int.ofNat.inj (by simpa [dN] using h))).mp g2'
              exact ⟨row', b, g1, rfl, rfl, by rw [g3, hinj]⟩
            · rintro d2 r ⟨row3, b2, f1, rfl, rfl, f2⟩
              exact ema_nil (min_ol 0 rfl) ⟨row3, b1, b2, f1, rfl, rfl, g2, f2⟩
        · rintro ds r ⟨row3, b1, b2, f1, rfl, rfl, f2, f3⟩
          exact ⟨by simp, row3, rfl, f1, x :: xs, .node x b1 b2, rfl, rfl, by rw [Bu.ns, f2, f3, List.take_append_drop]⟩
end Fl

/-! FloZb -/
namespace Fl
open PySem L2 PyProof.Rows
variable {T : Tbs}
section
variable {X : Cx} {ρ : List Sl} {a b c e : Expr} {pos p : Pos}
theorem ROk.dpL {Ob O : Ow} {H : Hp} {K : PySem.W.Frag} {v : V} {r : Sl} {ds : List D} (h : ROk Ob O H v r) (q : SeqL r ds) (nb : nbs ds = true) : Dp K H v (D.lst ds).py := by
  obtain ⟨a, vs, rfl, h2, hd⟩ := h.seqL (K := K) q
  exact .lst h2 (hd.dp (nbs_pls ds nb).1)
theorem et_eqL {r1 r2 : Sl} {xs ys : List D} (hu : X.A.units + 64 < cLine) (ha : ED T X ρ a r1) (q1 : SeqL r1 xs) (hb : ED T X ρ b r2) (q2 : SeqL r2 ys) (nx : nbs xs = true) (ny : nbs ys = true) (dx : (D.lst xs).py.depth ≤ 64) (dy : (D.lst ys).py.depth ≤ 64) : ET T X ρ (.Compare a [.Eq] [b] pos) (eqD (.lst xs) (.lst ys)) :=
  et_bin (op_eqD hu) ha hb (nomark _) fun Ob O H v u Q _ rv ru k => ⟨(D.lst xs).py, (D.lst ys).py, rv.dpL q1 nx, ru.dpL q2 ny, shaped_nb (d := .lst xs) nx dx, shaped_nb (d := .lst ys) ny dy, k H (Ex.refl H)⟩
theorem et_neB {i j : Bool} (ha : ED T X ρ a (.d (.bl i))) (hb : ED T X ρ b (.d (.bl j))) : ET T X ρ (.Compare a [.NotEq] [b] pos) (!decide (i = j)) :=
  et_bin op_ne ha hb (nomark _) fun Ob O H v u Q _ rv ru k => by
    cases Den.bl_inv rv; cases Den.bl_inv ru
    exact ⟨by cases i <;> cases j <;> rfl, by rw [show decide (V.bl i = V.bl j) = decide (i = j) from by simp]; exact k H (Ex.refl H)⟩
end
variable {P : Program} {w : World} {K : PySem.W.Frag} {mg : Str → Option Value} {base : Heap}
theorem sc53 : FnScope ["_law_one", "_law_other", "_law_across"] ["_law_one", "_law_other"] (defScope (topS 53)) := ⟨rfl, rfl, rfl, by decide +kernel, rfl, by decide +kernel, by decide +kernel⟩
theorem fn_law_overlap (Dd : Df K mg "_law_overlap" (topS 53) ["_law_one", "_law_other"]) : Fn T P w K mg base 1 "_law_overlap" ROvl := by
  refine fn_df _ Dd sc53 (by rintro ds out ⟨s, t, rfl, rfl⟩; rfl) (fun f cdv A outer s H E ds out hr ⟨s, t, h1, h2⟩ => ?_)
  subst h1 h2
  refine xs_then (xt_asg 2 (ed_and (ed_lt (ed_part (ed_var 0) 0) (ed_add (ed_part (ed_var 1) 0) (ed_part (ed_var 1) 2))) fun _ => ed_one (ed_lt (ed_part (ed_var 1) 0) (ed_add (ed_part (ed_var 0) 0) (ed_part (ed_var 0) 2)))) rfl sc53.nd) ?_
  exact xs_one (xt_ret (ed_and (ed_var 2) fun _ => ed_and (ed_lt (ed_part (ed_var 0) 1) (ed_add (ed_part (ed_var 1) 1) (ed_part (ed_var 1) 3))) fun _ => ed_one (ed_lt (ed_part (ed_var 1) 1) (ed_add (ed_part (ed_var 0) 1) (ed_part (ed_var 0) 3)))) rfl)
def mvd (s : Spot) (st : Sz) : Spot := ⟨s.l - st.1, s.b - st.2, s.w, s.h⟩
def hits (Q : List Spot) (a : Nat) (st : Sz) : List Nat := (List.range Q.length).filter fun k => !decide (k = a) && ovl (mvd (spAt Q a) st) (spAt Q k)
def movable (Q : List Spot) (a : Nat) (st : Sz) : Bool := decide (0 ≤ min (mvd (spAt Q a) st).l (mvd (spAt Q a) st).b) && decide (hits Q a st = [])
def steps : List Sz := [(1, 0), (0, 1)]
def lawCompact (Q : List Spot) : Bool := (List.range Q.length).all fun a => steps.all fun st => !movable Q a st
abbrev RLawCompact : Rel := fun ds out => ∃ Q : List Spot, ds = [dSpots Q] ∧ Q.length ≤ 8 ∧ out = .bl (lawCompact Q)
theorem sc55 : FnScope ["_law_spots", "_law_at", "_law_step", "_law_moved", "_law_k"] ["_law_spots"] (defScope (topS 55)) := ⟨rfl, rfl, rfl, by decide +kernel, rfl, by decide +kernel, by decide +kernel⟩
theorem fn_law_compact (Dd : Df K mg "_law_compact" (topS 55) ["_law_spots"]) (B : Nb mg) (F53 : Fn T P w K mg base 1 "_law_overlap" ROvl) : Fn T P w K mg base 2 "_law_compact" RLawCompact := by
  refine fn_df _ Dd sc55 (by rintro ds out ⟨s, rfl, _, rfl⟩; rfl) (fun f cdv A outer s H E ds out hr ⟨Q, h1, hl, h2⟩ => ?_)
  subst h1 h2
  have hu := hr.units
  refine xs_cons (fun r => ∃ a b c, r = [.d (dSpots Q), a, b, c, .any] ∧ lawCompact Q = true) (xt_for1 1 (fun i r => ∃ a b c, r = [.d (dSpots Q), a, b, c, .any] ∧ ((List.range i).all fun a => steps.all fun st => !movable Q a st) = true) (ei_range B.range (ed_lenN B.len (ed_var 0) (.t _) (List.length_map _)) (by omega) (by omega)) sc55.nd ⟨_, _, _, rfl, rfl⟩ ?_ ?_) ?_
  · rintro i d ρ' hd ⟨a, b, c, rfl, hall⟩
    obtain ⟨hi, rfl⟩ := rg_at hd
    have hi : i < Q.length := by simpa using hi
    refine xs_one (xt_for1 2 (fun j r => ∃ b c, r = [.d (dSpots Q), .d (dN i), b, c, .any] ∧ ((steps.take j).all fun st => !movable Q i st) = true) (ei_list (ef_lst (ea_cons (ed_tup (ea_cons ed_int (ea_cons ed_int ea_nil)) (by simp)) (ea_cons (ed_tup (ea_cons ed_int (ea_cons ed_int ea_nil)) (by simp)) ea_nil)) (by simp)).ed) sc55.nd ⟨_, _, rfl, rfl⟩ ?_ ?_)
    · rintro j d ρ2 hd2 ⟨b, c, rfl, hst⟩
      have hd2 : (steps.map dSize)[j]? = some d := hd2
      obtain ⟨st, hs1, rfl⟩ := map_at' hd2
      have hm : (D.tup ([.int ((spAt Q i).l - st.1), .int ((spAt Q i).b - st.2)] ++ cutD [.int (spAt Q i).l, .int (spAt Q i).b, .int (spAt Q i).w, .int (spAt Q i).h] (some 2) none)) = dSpot (mvd (spAt Q i) st) := by rw [cut2e]; rfl
      refine xs_then (xt_asg 3 ((ed_catT (ed_tup (ea_cons (ed_sub (ed_part (ed_ixN (ed_var 0) (.t _) (ed_var 1) (spots_at hi)) 0) (ed_ix (x := .int st.1) (ed_var 2) (.t _) ed_int (by decide) rfl)) (ea_cons (ed_sub (ed_part (ed_ixN (ed_var 0) (.t _) (ed_var 1) (spots_at hi)) 1) (ed_ix (x := .int st.2) (ed_var 2) (.t _) ed_int (by decide) rfl)) ea_nil)) (by simp))
        (ed_slT (ed_ixN (ed_var 0) (.t _) (ed_var 1) (spots_at hi)) (eo_some ed_int) eo_none) (by rw [cut2e]; simp)).to (by rw [hm])) rfl sc55.nd) ?_
      have hhl : (hits Q i st).length ≤ 8 := by
        unfold hits
        have := List.length_filter_le (fun k => !decide (k = i) && ovl (mvd (spAt Q i) st) (spAt Q k)) (List.range Q.length)
        rw [List.length_range] at this; omega
      refine xs_one (xt_if (x := movable Q i st) (EW.et (ew_and (et_ge (ed_min2 rfl B.min ((ed_slT (ed_var 3) eo_none (eo_some ed_int)).to (by rw [cut02])) hu) ed_int) fun _ => ew_and1 ((et_eqD hu (x := .lst ((hits Q i st).map dN)) (y := .lst [])
        (ef_lcIf1 ["_law_spots", "_law_at", "_law_step", "_law_moved", "_law_k"] (defScope (topS 55)) 4 sc55.nd (List.range Q.length) dN (fun k => !decide (k = i) && ovl (mvd (spAt Q i) st) (spAt Q k)) dN (ei_range B.range (ed_lenN B.len (ed_var 0) (.t _) (List.length_map _)) (by omega) (by omega))
          (fun k hk _ _ _ _ _ => EW.et (ew_and ((et_neI (ed_var 4) (ed_var 1)).to ?_) fun _ => ew_and1 (et_val (ed_call F53 hr (ea_cons (ed_var 3) (ea_cons (ed_ixN (ed_var 0) (.t _) (ed_var 4) (spots_at (List.mem_range.mp hk))) ea_nil)) ⟨_, _, rfl, rfl⟩)))) (fun k _ _ _ _ _ _ _ => ed_var 4) (rg_nat _) (by simp; omega)).ed
        (ef_lst ea_nil (by simp)).ed (nb_lst _) rfl (by have := depth_nats (hits Q i st); omega) (by decide)).to (nats_eq_nil _)))) (fun hx => xs_one (xt_ret ed_bl ?_)) (fun hx => xs_nil ⟨_, _, rfl, ?_⟩))
      · rw [show decide ((k : Int) = (i : Int)) = decide (k = i) from by congr 1; exact propext ⟨Int.ofNat.inj, fun h => by rw [h]⟩]
      · show D.bl false = D.bl (lawCompact Q)
        have : lawCompact Q = false := by
          unfold lawCompact
          rw [List.all_eq_false]
          refine ⟨i, List.mem_range.mpr hi, ?_⟩
          rw [Bool.not_eq_true, List.all_eq_false]
          exact ⟨st, List.mem_of_getElem? hs1, by rw [hx]; simp⟩
        rw [this]
      · rw [take_at hs1, List.all_append, hst]
        simp [hx]
    · rintro ρ2 ⟨b, c, rfl, hst⟩
      refine ⟨_, b, c, rfl, ?_⟩
      rw [List.range_succ, List.all_append, hall]
      have : steps.take 2 = steps := rfl
      have hst : (steps.all fun st => !movable Q i st) = true := hst
      simp [hst]
  · rintro ρ' ⟨a, b, c, rfl, hall⟩
    refine ⟨a, b, c, rfl, ?_⟩
    have hlen : (rgD (Q.length : Int)).length = Q.length := by rw [rg_nat]; simp
    rw [hlen] at hall
    exact hall
  · rintro ρ' ⟨a, b, c, rfl, hall⟩
    exact xs_one (xt_ret ed_bl (by rw [hall]))
end Fl

/-! FloZc -/
namespace Fl
open PySem L2 PyProof.Rows
variable {T : Tbs}
variable {P : Program} {w : World} {K : PySem.W.Frag} {mg : Str → Option Value} {base : Heap}
theorem pgn {X : Cx} {x : Str} {pos : Pos} (i : Nat) (hN : X.N.Nodup) (hi : X.N[i]? = some x := by rfl) (hx : Loc X.env.scope x := by first | exact .inl rfl | exact .inr rfl) (hf : X.fn x = true ∨ X.env.scope.names.lookup x = some .local := by first | exact .inl rfl | exact .inr rfl) : PG X (.Name x pos) (gName i) := pg_name hN hi hx hf
/-! the slides -/
def edge (z : Bool) (s : Spot) : Int := if z then s.l + s.w else s.b + s.h
def lowc (z : Bool) (s : Spot) : Int := if z then s.l else s.b
def meets (z : Bool) (o s : Spot) : Bool := if z then decide (o.b < s.b + s.h) && decide (s.b < o.b + o.h) else decide (o.l < s.l + s.w) && decide (s.l < o.l + o.w)
def reachL (z : Bool) (s : Spot) (rest : List Spot) : List Int := 0 :: (rest.filter fun o => meets z o s && decide (edge z o ≤ lowc z s)).map (edge z)
def slideS (z : Bool) (s : Spot) (rest : List Spot) : Spot := if z then ⟨maxL (reachL z s rest), s.b, s.w, s.h⟩ else ⟨s.l, maxL (reachL z s rest), s.w, s.h⟩
def others (Q : List Spot) (a : Nat) : List Spot := ((List.range Q.length).filter fun k => !decide (k = a)).map (spAt Q)
def slideP (Q : List Spot) (a : Nat) (z : Bool) : List Spot := Q.set a (slideS z (spAt Q a) (others Q a))
def slideA (Q : List Spot) (a : Nat) : List Spot := slideP (slideP Q a true) a false
def turnK (Q : List Spot) (k : Nat) : List Spot := (List.range k).foldl slideA Q
def turnP (Q : List Spot) : List Spot := turnK Q Q.length
def iterT (Q : List Spot) : Nat → List Spot
  | 0 => Q
  | k + 1 => turnP (iterT Q k)
theorem slideP_len (Q : List Spot) (a : Nat) (z : Bool) : (slideP Q a z).length = Q.length := by unfold slideP; simp
theorem slideA_len (Q : List Spot) (a : Nat) : (slideA Q a).length = Q.length := by unfold slideA; rw [slideP_len, slideP_len]
theorem turnK_succ (Q : List Spot) (k : Nat) : turnK Q (k + 1) = slideA (turnK Q k) k := by unfold turnK; rw [List.range_succ, List.foldl_append]; rfl
theorem turnK_len (Q : List Spot) (k : Nat) : (turnK Q k).length = Q.length := by
  induction k with
  | zero => rfl
  | succ k ih => rw [turnK_succ, slideA_len, ih]
theorem iterT_len (Q : List Spot) (k : Nat) : (iterT Q k).length = Q.length := by
  induction k with
  | zero => rfl
  | succ k ih => show (turnP (iterT Q k)).length = _; rw [turnP, turnK_len, ih]
/-- what the mathematics brings -/
structure Mth : Prop where
  cmb : ∀ zs b, Few 9 zs → 1 ≤ zs.length → zs.length ≤ 8 → BushOk zs b → CMul (wid ((growF zs b 0 []).map (·.2))) (hei ((growF zs b 0 []).map (·.2)))
  cmp : ∀ zs f s, Few 9 zs → 1 ≤ zs.length → zs.length ≤ 8 → IsOrd zs.length f → IsOrd zs.length s → CMul (wid (packedIn zs f s)) (hei (packedIn zs f s))
  best : ∀ zs, Few 9 zs → 1 ≤ zs.length → zs.length ≤ 3 → ∃ (A : Int) (b : Bu), bestBush zs = some (A, b) ∧ BushOk zs b ∧ wid (bushSpots zs b) * hei (bushSpots zs b) = A ∧ ∃ x y, minRow (rowsD zs) = .tup [.int A, x, y]
  cms : ∀ Q, PackOk Q → CMul (wid Q) (hei Q)
  bush : ∀ zs b, Few 9 zs → 1 ≤ zs.length → zs.length ≤ 8 → BushOk zs b → PackOk (bushSpots zs b)
  sortable : ∀ Q, PackOk Q → ∀ z, Sortable Q z
  sorted : ∀ Q, PackOk Q → ∀ z, IsOrd Q.length (sortBy Q z)
  under : ∀ zs b, Few 9 zs → 1 ≤ zs.length → zs.length ≤ 8 → BushOk zs b → ∀ i, i < zs.length → (spAt (packedIn zs (sortBy (bushSpots zs b) true) (sortBy (bushSpots zs b) false)) i).l ≤ (spAt (bushSpots zs b) i).l ∧ (spAt (packedIn zs (sortBy (bushSpots zs b) true) (sortBy (bushSpots zs b) false)) i).b ≤ (spAt (bushSpots zs b) i).b
  loop : ∀ zs f s, Few 9 zs → 1 ≤ zs.length → zs.length ≤ 7 → IsOrd zs.length f → IsOrd zs.length s → ∃ m, m < 200 ∧ turnP (iterT (packedIn zs f s) m) = iterT (packedIn zs f s) m
  fin : ∀ zs f s m, Few 9 zs → 1 ≤ zs.length → zs.length ≤ 7 → IsOrd zs.length f → IsOrd zs.length s → turnP (iterT (packedIn zs f s) m) = iterT (packedIn zs f s) m →
    let Q := iterT (packedIn zs f s) m
    PackOk Q ∧ isCompact Q = true ∧ rok Q (parL Q Q.length) 20 (columnOf Q (parL Q Q.length) none) ∧ BushOk zs (rootedK Q (parL Q Q.length) 20 (columnOf Q (parL Q Q.length) none)) ∧ bushSpots zs (rootedK Q (parL Q Q.length) 20 (columnOf Q (parL Q Q.length) none)) = Q
  compact : ∀ Q, PackOk Q → isCompact Q = lawCompact Q
/-- less is known, place by place -/
def WeakL : List Sl → List Sl → Prop
  | [], [] => True
  | a :: r, b :: s => (b = .any ∨ a = b) ∧ WeakL r s
  | _, _ => False
theorem weak_of : ∀ {r s : List Sl}, WeakL r s → Weak r s
  | [], [], _ => Weak.refl []
  | a :: r, b :: s, h => by
    obtain ⟨h1, h2⟩ := h
    obtain ⟨w1, w2⟩ := weak_of h2
    refine ⟨by simp [w1], fun i x hx => ?_⟩
    cases i with
    | zero =>
      have hx : some b = some x := hx
      cases hx
      rcases h1 with e | e
      · exact .inl e
      · rw [e]; exact .inr rfl
    | succ i => exact w2 i x (by simpa using hx)
  | [], _ :: _, h => h.elim
  | _ :: _, [], h => h.elim
theorem weakL_refl : ∀ r : List Sl, WeakL r r
  | [] => trivial
  | _ :: r => ⟨.inr rfl, weakL_refl r⟩
theorem Weak.trans {a b c : List Sl} (h : Weak a b) (g : Weak b c) : Weak a c := ⟨h.1.trans g.1, fun i r e => by
  rcases g.2 i r e with z | z
  · exact .inl z
  · exact h.2 i r z⟩
theorem Weak.set {a b : List Sl} (h : Weak a b) (i : Nat) (r : Sl) : Weak (a.set i r) (b.set i r) := by
  refine ⟨by simp [h.1], fun j x e => ?_⟩
  by_cases z : i = j
  · subst z
    have hl : i < b.length := by have := at_lt e; simpa using this
    rw [List.getElem?_set_self hl] at e
    rw [List.getElem?_set_self (by rw [h.1]; exact hl)]
    exact .inr e
  · rw [List.getElem?_set_ne z] at e ⊢
    exact h.2 j x e
theorem few_ok {zs : List Sz} (h : Few 9 zs) (h1 : 1 ≤ zs.length) (h8 : zs.length ≤ 8) : SizesOk zs := ⟨h1, h8, fun z hz => by
  obtain ⟨a, b, c, d⟩ := h z hz
  simp [sizeOk, sideOk]; omega⟩
abbrev RLaw : Rel := fun ds out => ∃ ns : List Int, ds = [.lst (ns.map D.int)] ∧ out = .bl true
abbrev NLaw : List Str := ["_law_script", "_law_row", "_law_many", "_law_sizes_here", "_law_area", "_law_bush_here", "_law_spots", "_law_big", "_law_more", "_law_floor", "_law_first", "_law_second", "_law_low", "_law_at", "_law_here", "_law_turn", "_law_before", "_law_part", "_law_rest", "_law_k", "_law_reach", "_law_other", "_law_meets", "_law_told"]
theorem sc56 : FnScope NLaw ["_law_script"] (defScope (topS 56)) := ⟨rfl, rfl, rfl, by decide +kernel, rfl, by decide +kernel, by decide +kernel⟩
/-- the slots in the loops -/
def can (big : Nat) (more : List Sz) (floor : List Spot) (h : Addr) (here : List Spot) : List Sl :=
  [.any, .any, .any, .any, .any, .any, .any, .d (dN big), .d (dSizes more), .d (dSpots floor), .any, .any, .any, .any, .ol h (here.map dSpot), .any, .any, .any, .any, .any, .any, .any, .any, .any]
structure Fns (T : Tbs) (P : Program) (w : World) (K : PySem.W.Frag) (mg : Str → Option Value) (base : Heap) : Prop where
  need_packing : Fn T P w K mg base 5 "need_packing" RNeedPack
  is_packing : Fn T P w K mg base 6 "is_packing" RIsPack
  bounds : Fn T P w K mg base 6 "bounds" RBounds
  best_packing : Fn T P w K mg base 5 "best_packing" RBestPack
  best_bush : Fn T P w K mg base 11 "best_bush" RBestBush
  packed_bush : Fn T P w K mg base 13 "packed_bush" RPackedBush
  orders_of : Fn T P w K mg base 6 "orders_of" ROrdersOf
  packed : Fn T P w K mg base 6 "packed" RPacked
  is_compact : Fn T P w K mg base 6 "is_compact" RCompact
  bush_of : Fn T P w K mg base 24 "bush_of" RBushOf
  taken : FnS P w K mg base 1 "_law_taken" (spRow T PTaken RTaken)
  sizes : FnS P w K mg base 2 "_law_sizes" (spRow T PSizes RSizes)
  order : FnS P w K mg base 2 "_law_order" (spRow T POrder ROrder)
  bush : FnS P w K mg base 10 "_law_bush" (spRow T (PBush 8) RBush)
  compact : Fn T P w K mg base 2 "_law_compact" RLawCompact
end Fl

/-! FloZd -/
namespace Fl
open PySem L2 PyProof.Rows
variable {T : Tbs}
variable {P : Program} {w : World} {K : PySem.W.Frag} {mg : Str → Option Value} {base : Heap}
/-- the law's body from its statement j on -/
def lawFrom (j : Nat) : List Stmt := (defBody (topS 56)).drop j
abbrev CxL (P : Program) (w : World) (K : PySem.W.Frag) (mg : Str → Option Value) (base : Heap) (f : Addr) (cdv : Value) (A : Around) (outer : List Env) (s : Shared) (H : Hp) (E : XK) : Cx := (cxOf CX0 P w K mg base NLaw "law" (defScope (topS 56)) f cdv A outer s H E).nox
abbrev PoL : Po := { nx := fun _ => False, rt := fun d => d = .bl true }
section
variable {f : Addr} {cdv : Value} {A : Around} {outer : List Env} {s : Shared} {H : Hp} {E : XK}
theorem law_a (B : Nb mg) (Mt : Mth) (F : Fns T P w K mg base) (hr : Room 30 (CxL P w K mg base f cdv A outer s H E).A) (ns : List Int)
    (k : ∀ (q : Addr) (row : List D) (m big : Nat) (zs more : List Sz) (A' : Int) (b bb : Bu), 4 ≤ big → big ≤ 7 → more.length = big → Few 9 more → BushOk more bb → XS T (CxL P w K mg base f cdv A outer s H E) [.d (.lst (ns.map D.int)), .ol q row, .d (dN m), .d (dSizes zs), .d (.int A'), .d (dBu b), .d (dSpots (bushSpots zs b)), .d (dN big), .d (dSizes more), .d (dSpots (bushSpots more bb)), .any, .any, .any, .any, .any, .any, .any, .any, .any, .any, .any, .any, .any, .any] (lawFrom 9) PoL) :
    XS T (CxL P w K mg base f cdv A outer s H E) [.d (.lst (ns.map D.int)), .any, .any, .any, .any, .any, .any, .any, .any, .any, .any, .any, .any, .any, .any, .any, .any, .any, .any, .any, .any, .any, .any, .any] (defBody (topS 56)) PoL := by
  have hmin : ∀ {r : List Sl} {q : Addr} {row : List D}, r[1]? = some (.ol q row) → MIn T r (fun a => a = q) := fun h => min_ol 1 h
  refine xs_cons (fun r => ∃ q row, r = [.d (.lst (ns.map D.int)), .ol q row, .any, .any, .any, .any, .any, .any, .any, .any, .any, .any, .any, .any, .any, .any, .any, .any, .any, .any, .any, .any, .any, .any] ∧ RowOk row) (xt_asgF 1 (ef_lst (ea_cons (ed_var 0) (ea_cons ed_int (ea_cons ed_int (ea_cons ed_int ea_nil)))) (by simp)) (fun q _ => ⟨q, _, rfl, ns, 0, 3896, 0, rfl, by decide, by decide, by decide⟩) sc56.nd) ?_
  rintro _ ⟨q, row, rfl, hrow⟩
  refine xs_cons (fun r => ∃ (m : Nat) (row : List D), r = [.d (.lst (ns.map D.int)), .ol q row, .d (dN m), .any, .any, .any, .any, .any, .any, .any, .any, .any, .any, .any, .any, .any, .any, .any, .any, .any, .any, .any, .any, .any] ∧ RowOk row ∧ 1 ≤ m ∧ m ≤ 3) (xt_asgM (M := fun a => a = q) (P1 := fun d r => ∃ (m : Nat) (row : List D), d = dN m ∧ r = [.d (.lst (ns.map D.int)), .ol q row, .any, .any, .any, .any, .any, .any, .any, .any, .any, .any, .any, .any, .any, .any, .any, .any, .any, .any, .any, .any, .any, .any] ∧ RowOk row ∧ 1 ≤ m ∧ m ≤ 3) 2
    (em_add (P1 := fun d r => ∃ (j : Int) (row : List D), d = .int j ∧ 0 ≤ j ∧ j < 3 ∧ r = [.d (.lst (ns.map D.int)), .ol q row, .any, .any, .any, .any, .any, .any, .any, .any, .any, .any, .any, .any, .any, .any, .any, .any, .any, .any, .any, .any, .any, .any] ∧ RowOk row) ed_int (em_taken F.taken (hr.mono (by decide)) 1 rfl (hmin rfl) hrow trivial (by decide) (by decide) ed_int fun j row' g1 g2 g3 => ⟨j, row', rfl, g1, g2, rfl, g3⟩) ?_) ?_ sc56.nd) ?_
  · rintro d r ⟨j, row', rfl, g1, g2, rfl, g3⟩
    refine ⟨j, rfl, (1 + j).toNat, row', ?_, rfl, g3, by omega, by omega⟩
    show D.int (1 + j) = .int _
    rw [show (((1 + j).toNat : Nat) : Int) = 1 + j from by omega]
  · rintro d r ⟨m, row', rfl, rfl, g1, g2, g3⟩
    exact ⟨m, row', rfl, g1, g2, g3⟩
  clear hrow row
  rintro _ ⟨m, row, rfl, hrow, hm1, hm3⟩
  refine xs_cons (fun r => ∃ (zs : List Sz) (row : List D), r = [.d (.lst (ns.map D.int)), .ol q row, .d (dN m), .d (dSizes zs), .any, .any, .any, .any, .any, .any, .any, .any, .any, .any, .any, .any, .any, .any, .any, .any, .any, .any, .any, .any] ∧ RowOk row ∧ zs.length = m ∧ Few 9 zs) (xt_asgM (M := fun a => a = q) (P1 := fun d r => ∃ (zs : List Sz) (row : List D), d = dSizes zs ∧ r = [.d (.lst (ns.map D.int)), .ol q row, .d (dN m), .any, .any, .any, .any, .any, .any, .any, .any, .any, .any, .any, .any, .any, .any, .any, .any, .any, .any, .any, .any, .any] ∧ RowOk row ∧ zs.length = m ∧ Few 9 zs) 3
    (em_row (PA1 := fun ds r => ds = [dN m, .int 9] ∧ r = [.d (.lst (ns.map D.int)), .ol q row, .d (dN m), .any, .any, .any, .any, .any, .any, .any, .any, .any, .any, .any, .any, .any, .any, .any, .any, .any, .any, .any, .any, .any]) F.sizes (hr.mono (by decide)) 1 rfl (ema_pure (ea_cons (ed_var 2) (ea_cons ed_int ea_nil)) (hmin rfl) ⟨rfl, rfl⟩) ?_) ?_ sc56.nd) ?_
  · rintro ds r ⟨rfl, rfl⟩
    refine ⟨row, rfl, trivial, ⟨hrow, m, 9, rfl, by omega, by decide, by decide⟩, ?_⟩
    rintro d row' ⟨g1, n, most, zs, g2, rfl, g3, g4⟩
    have e1 : n = m := by
      have : ((m : Nat) : Int) = n := by simpa [dN] using (List.cons.inj g2).1
      exact (Int.ofNat.inj this).symm
    have e2 : most = 9 := by
      have := (List.cons.inj (List.cons.inj g2).2).1
      simpa using this.symm
    subst e2
    exact ⟨zs, row', rfl, rfl, g1, by omega, g4⟩
  · rintro d r ⟨zs, row', rfl, rfl, g1, g2, g3⟩
    exact ⟨zs, row', rfl, g1, g2, g3⟩
  clear hrow row
  rintro _ ⟨zs, row, rfl, hrow, hzl, hfew⟩
  have hz := few_ok hfew (by omega) (by omega)
  obtain ⟨A', b, hbest, hbok, harea, mx, my, hmin2⟩ := Mt.best zs hfew (by omega) (by omega)
  have hpk := Mt.bush zs b hfew (by omega) (by omega) hbok
  have hcms := Mt.cms _ hpk
  refine xs_then (ρ' := [.d (.lst (ns.map D.int)), .ol q row, .d (dN m), .d (dSizes zs), .d (.int A'), .d (dBu b), .any, .any, .any, .any, .any, .any, .any, .any, .any, .any, .any, .any, .any, .any, .any, .any, .any, .any]) (xt_unpack (n := 2) (ds := [.int A', dBu b]) [4, 5] ((ed_call F.best_bush (hr.mono (by decide)) (ea_cons (ed_var 3) ea_nil) ⟨zs, rfl, hz, by omega, fun b hb => Mt.cmb zs b hfew (by omega) (by omega) hb, rfl⟩).to (by rw [hbest]; rfl)) rfl rfl (pg_tup rfl (pgs_cons (pgn 4 sc56.nd) (pgs_cons (pgn 5 sc56.nd) pgs_nil)))) ?_
  refine xs_then (ρ' := [.d (.lst (ns.map D.int)), .ol q row, .d (dN m), .d (dSizes zs), .d (.int A'), .d (dBu b), .d (dSpots (bushSpots zs b)), .any, .any, .any, .any, .any, .any, .any, .any, .any, .any, .any, .any, .any, .any, .any, .any, .any]) (xt_asg 6 (ed_call F.packed_bush (hr.mono (by decide)) (ea_cons (ed_var 3) (ea_cons (ed_var 5) ea_nil)) ⟨zs, b, rfl, hz, hbok, rfl⟩) rfl sc56.nd) ?_
  refine xs_ifF (EW.et (EW.to' (ew_or (et_not (et_val (ed_call F.is_packing (hr.mono (by decide)) (ea_cons (ed_var 6) ea_nil) ⟨_, rfl, hpk, rfl⟩))) fun _ => ew_or (et_neI (ed_mul hcms (ed_ix (x := .int (wid (bushSpots zs b))) (ed_call F.bounds (hr.mono (by decide)) (ea_cons (ed_var 6) ea_nil) ⟨_, rfl, hpk, rfl⟩) (.t _) ed_int (by decide) rfl) (ed_ix (x := .int (hei (bushSpots zs b))) (ed_call F.bounds (hr.mono (by decide)) (ea_cons (ed_var 6) ea_nil) ⟨_, rfl, hpk, rfl⟩) (.t _) ed_int (by decide) rfl)) (ed_var 4)) fun _ =>
    ew_or1 (et_neI (ed_ix (x := .int A') ((ed_call F.best_packing (hr.mono (by decide)) (ea_cons (ed_var 3) ea_nil) ⟨zs, rfl, hz, by omega, fun f s h1 h2 => Mt.cmp zs f s hfew (by omega) (by omega) h1 h2, rfl⟩).to (r' := .d (.tup [.int A', mx, my])) (by rw [hmin2])) (.t _) ed_int (by decide) rfl) (ed_var 4))) (by rw [harea]; simp))) ?_
  refine xs_cons (fun r => ∃ (big : Nat) (row : List D), r = [.d (.lst (ns.map D.int)), .ol q row, .d (dN m), .d (dSizes zs), .d (.int A'), .d (dBu b), .d (dSpots (bushSpots zs b)), .d (dN big), .any, .any, .any, .any, .any, .any, .any, .any, .any, .any, .any, .any, .any, .any, .any, .any] ∧ RowOk row ∧ 4 ≤ big ∧ big ≤ 7) (xt_asgM (M := fun a => a = q) (P1 := fun d r => ∃ (big : Nat) (row : List D), d = dN big ∧ r = [.d (.lst (ns.map D.int)), .ol q row, .d (dN m), .d (dSizes zs), .d (.int A'), .d (dBu b), .d (dSpots (bushSpots zs b)), .any, .any, .any, .any, .any, .any, .any, .any, .any, .any, .any, .any, .any, .any, .any, .any, .any] ∧ RowOk row ∧ 4 ≤ big ∧ big ≤ 7) 7
    (em_add (P1 := fun d r => ∃ (j : Int) (row : List D), d = .int j ∧ 0 ≤ j ∧ j < 4 ∧ r = [.d (.lst (ns.map D.int)), .ol q row, .d (dN m), .d (dSizes zs), .d (.int A'), .d (dBu b), .d (dSpots (bushSpots zs b)), .any, .any, .any, .any, .any, .any, .any, .any, .any, .any, .any, .any, .any, .any, .any, .any, .any] ∧ RowOk row) ed_int (em_taken F.taken (hr.mono (by decide)) 1 rfl (hmin rfl) hrow trivial (by decide) (by decide) ed_int fun j row' g1 g2 g3 => ⟨j, row', rfl, g1, g2, rfl, g3⟩) ?_) ?_ sc56.nd) ?_
  · rintro d r ⟨j, row', rfl, g1, g2, rfl, g3⟩
    refine ⟨j, rfl, (4 + j).toNat, row', ?_, rfl, g3, by omega, by omega⟩
    show D.int (4 + j) = .int _
    rw [show (((4 + j).toNat : Nat) : Int) = 4 + j from by omega]
  · rintro d r ⟨big, row', rfl, rfl, g1, g2, g3⟩
    exact ⟨big, row', rfl, g1, g2, g3⟩
  clear hrow row
  rintro _ ⟨big, row, rfl, hrow, hb4, hb7⟩
  refine xs_cons (fun r => ∃ (more : List Sz) (row : List D), r = [.d (.lst (ns.map D.int)), .ol q row, .d (dN m), .d (dSizes zs), .d (.int A'), .d (dBu b), .d (dSpots (bushSpots zs b)), .d (dN big), .d (dSizes more), .any, .any, .any, .any, .any, .any, .any, .any, .any, .any, .any, .any, .any, .any, .any] ∧ RowOk row ∧ more.length = big ∧ Few 9 more) (xt_asgM (M := fun a => a = q) (P1 := fun d r => ∃ (more : List Sz) (row : List D), d = dSizes more ∧ r = [.d (.lst (ns.map D.int)), .ol q row, .d (dN m), .d (dSizes zs), .d (.int A'), .d (dBu b), .d (dSpots (bushSpots zs b)), .d (dN big), .any, .any, .any, .any, .any, .any, .any, .any, .any, .any, .any, .any, .any, .any, .any, .any] ∧ RowOk row ∧ more.length = big ∧ Few 9 more) 8
    (em_row (PA1 := fun ds r => ds = [dN big, .int 9] ∧ r = [.d (.lst (ns.map D.int)), .ol q row, .d (dN m), .d (dSizes zs), .d (.int A'), .d (dBu b), .d (dSpots (bushSpots zs b)), .d (dN big), .any, .any, .any, .any, .any, .any, .any, .any, .any, .any, .any, .any, .any, .any, .any, .any]) F.sizes (hr.mono (by decide)) 1 rfl (ema_pure (ea_cons (ed_var 7) (ea_cons ed_int ea_nil)) (hmin rfl) ⟨rfl, rfl⟩) ?_) ?_ sc56.nd) ?_
  · rintro ds r ⟨rfl, rfl⟩
    refine ⟨row, rfl, trivial, ⟨hrow, big, 9, rfl, by omega, by decide, by decide⟩, ?_⟩
    rintro d row' ⟨g1, n, most, more, g2, rfl, g3, g4⟩
    have e1 : n = big := by
      have : ((big : Nat) : Int) = n := by simpa [dN] using (List.cons.inj g2).1
      exact (Int.ofNat.inj this).symm
    have e2 : most = 9 := by
      have := (List.cons.inj (List.cons.inj g2).2).1
      simpa using this.symm
    subst e2
    exact ⟨more, row', rfl, rfl, g1, by omega, g4⟩
  · rintro d r ⟨more, row', rfl, rfl, g1, g2, g3⟩
    exact ⟨more, row', rfl, g1, g2, g3⟩
  clear hrow row
  rintro _ ⟨more, row, rfl, hrow, hml, hmf⟩
  have hmz := few_ok hmf (by omega) (by omega)
  refine xs_cons (fun r => ∃ (bb : Bu) (row : List D), r = [.d (.lst (ns.map D.int)), .ol q row, .d (dN m), .d (dSizes zs), .d (.int A'), .d (dBu b), .d (dSpots (bushSpots zs b)), .d (dN big), .d (dSizes more), .d (dSpots (bushSpots more bb)), .any, .any, .any, .any, .any, .any, .any, .any, .any, .any, .any, .any, .any, .any] ∧ BushOk more bb) (xt_asgM (M := fun a => a = q) (P1 := fun d r => ∃ (bb : Bu) (row : List D), d = dSpots (bushSpots more bb) ∧ r = [.d (.lst (ns.map D.int)), .ol q row, .d (dN m), .d (dSizes zs), .d (.int A'), .d (dBu b), .d (dSpots (bushSpots zs b)), .d (dN big), .d (dSizes more), .any, .any, .any, .any, .any, .any, .any, .any, .any, .any, .any, .any, .any, .any, .any] ∧ BushOk more bb) 9
    (em_call (PA1 := fun ds r => ∃ (bb : Bu) (row : List D), ds = [dSizes more, dBu bb] ∧ r = [.d (.lst (ns.map D.int)), .ol q row, .d (dN m), .d (dSizes zs), .d (.int A'), .d (dBu b), .d (dSpots (bushSpots zs b)), .d (dN big), .d (dSizes more), .any, .any, .any, .any, .any, .any, .any, .any, .any, .any, .any, .any, .any, .any, .any] ∧ BushOk more bb) F.packed_bush (hr.mono (by decide))
      (ema_cons (P1 := fun d r => d = dSizes more ∧ r = [.d (.lst (ns.map D.int)), .ol q row, .d (dN m), .d (dSizes zs), .d (.int A'), .d (dBu b), .d (dSpots (bushSpots zs b)), .d (dN big), .d (dSizes more), .any, .any, .any, .any, .any, .any, .any, .any, .any, .any, .any, .any, .any, .any, .any]) (em_pure (ed_var 8) (hmin rfl) ⟨rfl, rfl⟩) ?_) ?_) ?_ sc56.nd) ?_
  · rintro d r ⟨rfl, rfl⟩
    refine ema_cons (P1 := fun d r => ∃ (bb : Bu) (row : List D), d = dBu bb ∧ r = [.d (.lst (ns.map D.int)), .ol q row, .d (dN m), .d (dSizes zs), .d (.int A'), .d (dBu b), .d (dSpots (bushSpots zs b)), .d (dN big), .d (dSizes more), .any, .any, .any, .any, .any, .any, .any, .any, .any, .any, .any, .any, .any, .any, .any] ∧ BushOk more bb)
      (em_row (PA1 := fun ds r => ∃ (o : List Nat) (row : List D), ds = [.lst (o.map dN)] ∧ r = [.d (.lst (ns.map D.int)), .ol q row, .d (dN m), .d (dSizes zs), .d (.int A'), .d (dBu b), .d (dSpots (bushSpots zs b)), .d (dN big), .d (dSizes more), .any, .any, .any, .any, .any, .any, .any, .any, .any, .any, .any, .any, .any, .any, .any] ∧ RowOk row ∧ IsOrd big o) F.bush (hr.mono (by decide)) 1 rfl
        (ema_cons (P1 := fun d r => ∃ (o : List Nat) (row : List D), d = .lst (o.map dN) ∧ r = [.d (.lst (ns.map D.int)), .ol q row, .d (dN m), .d (dSizes zs), .d (.int A'), .d (dBu b), .d (dSpots (bushSpots zs b)), .d (dN big), .d (dSizes more), .any, .any, .any, .any, .any, .any, .any, .any, .any, .any, .any, .any, .any, .any, .any] ∧ RowOk row ∧ IsOrd big o)
          (em_list (P1 := fun d r => ∃ (o : List Nat) (row : List D), d = dOrd o ∧ r = [.d (.lst (ns.map D.int)), .ol q row, .d (dN m), .d (dSizes zs), .d (.int A'), .d (dBu b), .d (dSpots (bushSpots zs b)), .d (dN big), .d (dSizes more), .any, .any, .any, .any, .any, .any, .any, .any, .any, .any, .any, .any, .any, .any, .any] ∧ RowOk row ∧ IsOrd big o) B.list
            (em_row (PA1 := fun ds r => ds = [dN big] ∧ r = [.d (.lst (ns.map D.int)), .ol q row, .d (dN m), .d (dSizes zs), .d (.int A'), .d (dBu b), .d (dSpots (bushSpots zs b)), .d (dN big), .d (dSizes more), .any, .any, .any, .any, .any, .any, .any, .any, .any, .any, .any, .any, .any, .any, .any]) F.order (hr.mono (by decide)) 1 rfl (ema_pure (ea_cons (ed_var 7) ea_nil) (hmin rfl) ⟨rfl, rfl⟩) ?_) ?_) ?_) ?_) ?_
    · rintro ds r ⟨rfl, rfl⟩
      refine ⟨row, rfl, trivial, ⟨hrow, big, rfl, by omega⟩, ?_⟩
      rintro d row' ⟨g1, n, o, g2, rfl, g3⟩
      have e1 : n = big := by
        have : ((big : Nat) : Int) = n := by simpa [dN] using g2
        exact (Int.ofNat.inj this).symm
      subst e1
      exact ⟨o, row', rfl, rfl, g1, g3⟩
    · rintro d r ⟨o, row', rfl, rfl, g1, g2⟩
      exact ⟨_, .t _, o, row', rfl, rfl, g1, g2⟩
    · rintro d r ⟨o, row', rfl, rfl, g1, g2⟩
      exact ema_nil (hmin rfl) ⟨o, row', rfl, rfl, g1, g2⟩
    · rintro ds r ⟨o, row', rfl, rfl, g1, g2⟩
      refine ⟨row', rfl, trivial, ⟨g1, o, rfl, by rw [g2.1]; omega, by rw [g2.1]; omega⟩, ?_⟩
      rintro d row2 ⟨h1, bs, bb, h2, rfl, h3⟩
      have hinj : bs = o := by
        have g2' : bs.map dN = o.map dN := by simpa using h2.symm
        exact (List.map_inj_right (f := dN) (fun a b h => Int.ofNat.inj (by simpa [dN] using h))).mp g2'
      refine ⟨bb, row2, rfl, rfl, ?_⟩
      unfold BushOk
      rw [h3, hinj, hml]
      exact ord_perm g2
    · rintro d r ⟨bb, row', rfl, rfl, g1⟩
      exact ema_nil (hmin rfl) ⟨bb, row', rfl, rfl, g1⟩
  · rintro ds r ⟨bb, row', rfl, rfl, g1⟩
    exact ⟨_, ⟨more, bb, rfl, hmz, g1, rfl⟩, bb, row', rfl, rfl, g1⟩
  · rintro d r ⟨bb, row', rfl, rfl, g1⟩
    exact ⟨bb, row', rfl, g1⟩
  rintro _ ⟨bb, row', rfl, hbb⟩
  exact k q row' m big zs more A' b bb hb4 hb7 hml hmf hbb
end
end Fl

/-! FloZe -/
namespace Fl
open PySem L2 PyProof.Rows
variable {T : Tbs}
variable {P : Program} {w : World} {K : PySem.W.Frag} {mg : Str → Option Value} {base : Heap}
theorem noOwn_any {l : Addr} : ∀ {r : List Sl}, NoOwn l r → NoOwn l (r ++ [.any])
  | [], _ => trivial
  | .any :: r, h => noOwn_any (r := r) h
  | .d _ :: r, h => noOwn_any (r := r) h
  | .ol _ _ :: r, h => ⟨h.1, noOwn_any (r := r) h.2⟩
  | .od _ _ :: r, h => ⟨h.1, noOwn_any (r := r) h.2⟩
def forBody (s : Stmt) : List Stmt := match s with
  | .For _ _ b _ _ => b
  | _ => []
/-- the bodies of the law's loops -/
def turnB : List Stmt := forBody ((lawFrom 13).getD 0 (.Pass ⟨0, 0, 0, 0⟩))
def atB : List Stmt := forBody (turnB.getD 1 (.Pass ⟨0, 0, 0, 0⟩))
def partB : List Stmt := forBody (atB.getD 0 (.Pass ⟨0, 0, 0, 0⟩))
section
variable {f : Addr} {cdv : Value} {A : Around} {outer : List Env} {s : Shared} {H : Hp} {E : XK}
theorem law_part (B : Nb mg) (h : Addr) (big : Nat) (more : List Sz) (fl Q : List Spot) (bf : D) (at_ : Nat) (z : Bool) (hbig : Q.length = big) (h8 : big ≤ 8) (hat : at_ < Q.length) :
    XS T (CxL P w K mg base f cdv A outer s H E) [.any, .any, .any, .any, .any, .any, .any, .d (dN big), .d (dSizes more), .d (dSpots fl), .any, .any, .any, .d (dN at_), .ol h (Q.map dSpot), .any, .d bf, .d (dZ z), .any, .any, .any, .any, .any, .any] partB { nx := fun r => Weak r [.any, .any, .any, .any, .any, .any, .any, .d (dN big), .d (dSizes more), .d (dSpots fl), .any, .any, .any, .d (dN at_), .ol h ((slideP Q at_ z).map dSpot), .any, .d bf, .any, .any, .any, .any, .any, .any, .any] } := by
  have hb8 : Q.length ≤ 8 := by omega
  cases z
  · show XS T (CxL P w K mg base f cdv A outer s H E) [.any, .any, .any, .any, .any, .any, .any, .d (dN big), .d (dSizes more), .d (dSpots fl), .any, .any, .any, .d (dN at_), .ol h (Q.map dSpot), .any, .d bf, .d (.int 1), .any, .any, .any, .any, .any, .any] _ _
    refine xs_then (ρ' := [.any, .any, .any, .any, .any, .any, .any, .d (dN big), .d (dSizes more), .d (dSpots fl), .any, .any, .any, .d (dN at_), .ol h (Q.map dSpot), .any, .d bf, .d (.int 1), .d (.lst ((others Q at_).map dSpot)), .any, .any, .any, .any, .any]) (xt_setLcIf1 NLaw (defScope (topS 56)) 18 19 sc56.nd (List.range Q.length) dN (fun k => !decide (k = at_)) (fun k => dSpot (spAt Q k)) (ei_range B.range (ed_var 7) (by omega) (by omega))
      (fun k _ _ _ _ _ _ => (et_neI (ed_var 19) (ed_var 13)).to ?_) (fun k hk _ _ _ _ _ _ => ed_ixN (ed_var 14) (.o _ _) (ed_var 19) (spots_at (List.mem_range.mp hk))) ?_ (by rw [hbig]; exact rg_nat _) (by simp; omega)) ?_
    · rw [show decide ((k : Int) = (at_ : Int)) = decide (k = at_) from by congr 1; exact propext ⟨Int.ofNat.inj, fun h => by rw [h]⟩]
    · unfold others; rw [List.map_map]; rfl
    refine xs_cons (fun r => ∃ rr, r = [.any, .any, .any, .any, .any, .any, .any, .d (dN big), .d (dSizes more), .d (dSpots fl), .any, .any, .any, .d (dN at_), .ol h (Q.map dSpot), .any, .d bf, .d (.int 1), .d (.lst ((others Q at_).map dSpot)), .any, .ol rr [.int 0], .any, .any, .any] ∧ h ≠ rr) (xt_asgF 20 (ef_lst (ea_cons ed_int ea_nil) (by simp)) (fun rr hrr => ⟨rr, rfl, hrr.1⟩) sc56.nd) ?_
    rintro _ ⟨rr, rfl, hrr⟩
    have hol : (others Q at_).length ≤ 8 := by
      unfold others
      rw [List.length_map]
      have := List.length_filter_le (fun k => !decide (k = at_)) (List.range Q.length)
      rw [List.length_range] at this; omega
    refine xs_cons (fun r => ∃ a b, r = [.any, .any, .any, .any, .any, .any, .any, .d (dN big), .d (dSizes more), .d (dSpots fl), .any, .any, .any, .d (dN at_), .ol h (Q.map dSpot), .any, .d bf, .d (.int 1), .d (.lst ((others Q at_).map dSpot)), .any, .ol rr ((reachL false (spAt Q at_) (others Q at_)).map D.int), a, b, .any] ∧ Pl [a, b]) (xt_for1 21 (fun m r => ∃ a b, r = [.any, .any, .any, .any, .any, .any, .any, .d (dN big), .d (dSizes more), .d (dSpots fl), .any, .any, .any, .d (dN at_), .ol h (Q.map dSpot), .any, .d bf, .d (.int 1), .d (.lst ((others Q at_).map dSpot)), .any, .ol rr ((0 :: ((((others Q at_).take m).filter fun o => meets false o (spAt Q at_) && decide (edge false o ≤ lowc false (spAt Q at_))).map (edge false))).map D.int), a, b, .any] ∧ Pl [a, b]) (ei_list (ed_var 18)) sc56.nd ⟨.any, .any, rfl, fun _ => trivial⟩ ?_ ?_) ?_
    · rintro m d ρ' hd ⟨a, b, rfl, hpl⟩
      obtain ⟨o, ho, rfl⟩ := map_at' hd
      have hmL := at_lt ho
      have nxt : (meets false o (spAt Q at_) && decide (edge false o ≤ lowc false (spAt Q at_))) = false → (((others Q at_).take (m + 1)).filter fun o => meets false o (spAt Q at_) && decide (edge false o ≤ lowc false (spAt Q at_))) = ((others Q at_).take m).filter fun o => meets false o (spAt Q at_) && decide (edge false o ≤ lowc false (spAt Q at_)) := fun hc => by
        rw [take_at ho, List.filter_append, List.filter_cons_of_neg (by rw [hc]; simp)]; simp
      refine xs_then (xt_asg 22 (ed_lt (ed_ix (x := .int o.l) (ed_var 21) (.t _) (ed_sub ed_int (ed_var 17)) (by decide) rfl) (ed_add (ed_ix (x := .int (spAt Q at_).l) (ed_ixN (ed_var 14) (.o _ _) (ed_var 13) (spots_at hat)) (.t _) (ed_sub ed_int (ed_var 17)) (by decide) rfl) (ed_ix (x := .int (spAt Q at_).w) (ed_ixN (ed_var 14) (.o _ _) (ed_var 13) (spots_at hat)) (.t _) (ed_sub ed_int (ed_var 17)) (by decide) rfl))) rfl sc56.nd) ?_
      refine xs_one (xt_if (x := meets false o (spAt Q at_)) (EW.et (EW.to' (ew_and (et_val (ed_var 22)) fun _ => ew_and1 (et_lt (ed_ix (x := .int (spAt Q at_).l) (ed_ixN (ed_var 14) (.o _ _) (ed_var 13) (spots_at hat)) (.t _) (ed_sub ed_int (ed_var 17)) (by decide) rfl) (ed_add (ed_ix (x := .int o.l) (ed_var 21) (.t _) (ed_sub ed_int (ed_var 17)) (by decide) rfl) (ed_ix (x := .int o.w) (ed_var 21) (.t _) (ed_sub ed_int (ed_var 17)) (by decide) rfl)))) rfl)) (fun hx => xs_one (xt_if (x := decide (edge false o ≤ lowc false (spAt Q at_))) (et_le (ed_add (ed_ix (x := .int o.b) (ed_var 21) (.t _) (ed_var 17) (by decide) rfl) (ed_ix (x := .int o.h) (ed_var 21) (.t _) (ed_add ed_int (ed_var 17)) (by decide) rfl)) (ed_ix (x := .int (spAt Q at_).b) (ed_ixN (ed_var 14) (.o _ _) (ed_var 13) (spots_at hat)) (.t _) (ed_var 17) (by decide) rfl)) (fun hy => ?_) (fun hy => xs_nil ⟨.d (dSpot o), .d (.bl (decide (o.l < (spAt Q at_).l + (spAt Q at_).w))), ?_, fun _ => trivial⟩))) (fun hx => xs_nil ⟨.d (dSpot o), .d (.bl (decide (o.l < (spAt Q at_).l + (spAt Q at_).w))), ?_, fun _ => trivial⟩))
      · refine xs_one (xt_appN (ds := (0 :: ((((others Q at_).take m).filter fun o => meets false o (spAt Q at_) && decide (edge false o ≤ lowc false (spAt Q at_))).map (edge false))).map D.int) 20 (ed_add (ed_ix (x := .int o.b) (ed_var 21) (.t _) (ed_var 17) (by decide) rfl) (ed_ix (x := .int o.h) (ed_var 21) (.t _) (ed_add ed_int (ed_var 17)) (by decide) rfl)) ?_ ⟨hrr, trivial⟩ ⟨.d (dSpot o), .d (.bl (decide (o.l < (spAt Q at_).l + (spAt Q at_).w))), ?_, fun _ => trivial⟩)
        · have := List.length_filter_le (fun o => meets false o (spAt Q at_) && decide (edge false o ≤ lowc false (spAt Q at_))) ((others Q at_).take m)
          rw [List.length_take] at this
          simp only [List.length_map, List.length_cons]
          omega
        · rw [take_at ho, List.filter_append, List.filter_cons_of_pos (by rw [hx, hy]; rfl), List.map_append, ← List.cons_append, List.map_append]; rfl
      · rw [nxt (by rw [hy, Bool.and_false])]; rfl
      · rw [nxt (by rw [hx, Bool.false_and])]; rfl
    · rintro ρ' ⟨a, b, rfl, hpl⟩
      refine ⟨a, b, ?_, hpl⟩
      rw [List.length_map, List.take_length]; rfl
    · rintro ρ' ⟨a, b, rfl, hpl⟩
      have hmx : ((reachL false (spAt Q at_) (others Q at_)) : List Int) ≠ [] := by unfold reachL; simp
      refine xs_one (xt_lset (ds := Q.map dSpot) (j := at_) (d := dSpot (slideS false (spAt Q at_) (others Q at_))) 14 ((ed_catT (xs := [.int (slideS false (spAt Q at_) (others Q at_)).l, .int (slideS false (spAt Q at_) (others Q at_)).b]) (ys := [.int (spAt Q at_).w, .int (spAt Q at_).h]) (ed_if (x := false) ((et_eqI (ed_var 17) ed_int).to (by decide)) (fun hz => Bool.noConfusion hz) (fun hz => ed_tup (ea_cons (ed_part (ed_ixN (ed_var 14) (.o _ _) (ed_var 13) (spots_at hat)) 0) (ea_cons (ed_max rfl B.max (ed_var 20) (.inr ⟨rr, rfl⟩) hmx) ea_nil)) (by simp)))
        ((ed_slT (ed_ixN (ed_var 14) (.o _ _) (ed_var 13) (spots_at hat)) (eo_some ed_int) eo_none).to (by rw [cut2e])) (by simp)).to rfl) (ed_var 13) ⟨fun e => hrr e.symm, noOwn_any (hpl h)⟩ ?_ (by simp; exact hat))
      refine weak_of ?_
      have e : (Q.map dSpot).set at_ (dSpot (slideS false (spAt Q at_) (others Q at_))) = (slideP Q at_ false).map dSpot := by unfold slideP; rw [List.map_set]
      show WeakL [.any, .any, .any, .any, .any, .any, .any, .d (dN big), .d (dSizes more), .d (dSpots fl), .any, .any, .any, .d (dN at_), .ol h ((Q.map dSpot).set at_ (dSpot (slideS false (spAt Q at_) (others Q at_)))), .any, .d bf, .d (.int 1), .d (.lst ((others Q at_).map dSpot)), .any, .ol rr ((reachL false (spAt Q at_) (others Q at_)).map D.int), a, b, .any] [.any, .any, .any, .any, .any, .any, .any, .d (dN big), .d (dSizes more), .d (dSpots fl), .any, .any, .any, .d (dN at_), .ol h ((slideP Q at_ false).map dSpot), .any, .d bf, .any, .any, .any, .any, .any, .any, .any]
      rw [e]
      exact ⟨.inl rfl, .inl rfl, .inl rfl, .inl rfl, .inl rfl, .inl rfl, .inl rfl, .inr rfl, .inr rfl, .inr rfl, .inl rfl, .inl rfl, .inl rfl, .inr rfl, .inr rfl, .inl rfl, .inr rfl, .inl rfl, .inl rfl, .inl rfl, .inl rfl, .inl rfl, .inl rfl, .inl rfl, trivial⟩
  · show XS T (CxL P w K mg base f cdv A outer s H E) [.any, .any, .any, .any, .any, .any, .any, .d (dN big), .d (dSizes more), .d (dSpots fl), .any, .any, .any, .d (dN at_), .ol h (Q.map dSpot), .any, .d bf, .d (.int 0), .any, .any, .any, .any, .any, .any] _ _
    refine xs_then (ρ' := [.any, .any, .any, .any, .any, .any, .any, .d (dN big), .d (dSizes more), .d (dSpots fl), .any, .any, .any, .d (dN at_), .ol h (Q.map dSpot), .any, .d bf, .d (.int 0), .d (.lst ((others Q at_).map dSpot)), .any, .any, .any, .any, .any]) (xt_setLcIf1 NLaw (defScope (topS 56)) 18 19 sc56.nd (List.range Q.length) dN (fun k => !decide (k = at_)) (fun k => dSpot (spAt Q k)) (ei_range B.range (ed_var 7) (by omega) (by omega))
      (fun k _ _ _ _ _ _ => (et_neI (ed_var 19) (ed_var 13)).to ?_) (fun k hk _ _ _ _ _ _ => ed_ixN (ed_var 14) (.o _ _) (ed_var 19) (spots_at (List.mem_range.mp hk))) ?_ (by rw [hbig]; exact rg_nat _) (by simp; omega)) ?_
    · rw [show decide ((k : Int) = (at_ : Int)) = decide (k = at_) from by congr 1; exact propext ⟨Int.ofNat.inj, fun h => by rw [h]⟩]
    · unfold others; rw [List.map_map]; rfl
    refine xs_cons (fun r => ∃ rr, r = [.any, .any, .any, .any, .any, .any, .any, .d (dN big), .d (dSizes more), .d (dSpots fl), .any, .any, .any, .d (dN at_), .ol h (Q.map dSpot), .any, .d bf, .d (.int 0), .d (.lst ((others Q at_).map dSpot)), .any, .ol rr [.int 0], .any, .any, .any] ∧ h ≠ rr) (xt_asgF 20 (ef_lst (ea_cons ed_int ea_nil) (by simp)) (fun rr hrr => ⟨rr, rfl, hrr.1⟩) sc56.nd) ?_
    rintro _ ⟨rr, rfl, hrr⟩
    have hol : (others Q at_).length ≤ 8 := by
      unfold others
      rw [List.length_map]
      have := List.length_filter_le (fun k => !decide (k = at_)) (List.range Q.length)
      rw [List.length_range] at this; omega
    refine xs_cons (fun r => ∃ a b, r = [.any, .any, .any, .any, .any, .any, .any, .d (dN big), .d (dSizes more), .d (dSpots fl), .any, .any, .any, .d (dN at_), .ol h (Q.map dSpot), .any, .d bf, .d (.int 0), .d (.lst ((others Q at_).map dSpot)), .any, .ol rr ((reachL true (spAt Q at_) (others Q at_)).map D.int), a, b, .any] ∧ Pl [a, b]) (xt_for1 21 (fun m r => ∃ a b, r = [.any, .any, .any, .any, .any, .any, .any, .d (dN big), .d (dSizes more), .d (dSpots fl), .any, .any, .any, .d (dN at_), .ol h (Q.map dSpot), .any, .d bf, .d (.int 0), .d (.lst ((others Q at_).map dSpot)), .any, .ol rr ((0 :: ((((others Q at_).take m).filter fun o => meets true o (spAt Q at_) && decide (edge true o ≤ lowc true (spAt Q at_))).map (edge true))).map D.int), a, b, .any] ∧ Pl [a, b]) (ei_list (ed_var 18)) sc56.nd ⟨.any, .any, rfl, fun _ => trivial⟩ ?_ ?_) ?_
    · rintro m d ρ' hd ⟨a, b, rfl, hpl⟩
      obtain ⟨o, ho, rfl⟩ := map_at' hd
      have hmL := at_lt ho
      have nxt : (meets true o (spAt Q at_) && decide (edge true o ≤ lowc true (spAt Q at_))) = false → (((others Q at_).take (m + 1)).filter fun o => meets true o (spAt Q at_) && decide (edge true o ≤ lowc true (spAt Q at_))) = ((others Q at_).take m).filter fun o => meets true o (spAt Q at_) && decide (edge true o ≤ lowc true (spAt Q at_)) := fun hc => by
        rw [take_at ho, List.filter_append, List.filter_cons_of_neg (by rw [hc]; simp)]; simp
      refine xs_then (xt_asg 22 (ed_lt (ed_ix (x := .int o.b) (ed_var 21) (.t _) (ed_sub ed_int (ed_var 17)) (by decide) rfl) (ed_add (ed_ix (x := .int (spAt Q at_).b) (ed_ixN (ed_var 14) (.o _ _) (ed_var 13) (spots_at hat)) (.t _) (ed_sub ed_int (ed_var 17)) (by decide) rfl) (ed_ix (x := .int (spAt Q at_).h) (ed_ixN (ed_var 14) (.o _ _) (ed_var 13) (spots_at hat)) (.t _) (ed_sub ed_int (ed_var 17)) (by decide) rfl))) rfl sc56.nd) ?_
      refine xs_one (xt_if (x := meets true o (spAt Q at_)) (EW.et (EW.to' (ew_and (et_val (ed_var 22)) fun _ => ew_and1 (et_lt (ed_ix (x := .int (spAt Q at_).b) (ed_ixN (ed_var 14) (.o _ _) (ed_var 13) (spots_at hat)) (.t _) (ed_sub ed_int (ed_var 17)) (by decide) rfl) (ed_add (ed_ix (x := .int o.b) (ed_var 21) (.t _) (ed_sub ed_int (ed_var 17)) (by decide) rfl) (ed_ix (x := .int o.h) (ed_var 21) (.t _) (ed_sub ed_int (ed_var 17)) (by decide) rfl)))) rfl)) (fun hx => xs_one (xt_if (x := decide (edge true o ≤ lowc true (spAt Q at_))) (et_le (ed_add (ed_ix (x := .int o.l) (ed_var 21) (.t _) (ed_var 17) (by decide) rfl) (ed_ix (x := .int o.w) (ed_var 21) (.t _) (ed_add ed_int (ed_var 17)) (by decide) rfl)) (ed_ix (x := .int (spAt Q at_).l) (ed_ixN (ed_var 14) (.o _ _) (ed_var 13) (spots_at hat)) (.t _) (ed_var 17) (by decide) rfl)) (fun hy => ?_) (fun hy => xs_nil ⟨.d (dSpot o), .d (.bl (decide (o.b < (spAt Q at_).b + (spAt Q at_).h))), ?_, fun _ => trivial⟩))) (fun hx => xs_nil ⟨.d (dSpot o), .d (.bl (decide (o.b < (spAt Q at_).b + (spAt Q at_).h))), ?_, fun _ => trivial⟩))
      · refine xs_one (xt_appN (ds := (0 :: ((((others Q at_).take m).filter fun o => meets true o (spAt Q at_) && decide (edge true o ≤ lowc true (spAt Q at_))).map (edge true))).map D.int) 20 (ed_add (ed_ix (x := .int o.l) (ed_var 21) (.t _) (ed_var 17) (by decide) rfl) (ed_ix (x := .int o.w) (ed_var 21) (.t _) (ed_add ed_int (ed_var 17)) (by decide) rfl)) ?_ ⟨hrr, trivial⟩ ⟨.d (dSpot o), .d (.bl (decide (o.b < (spAt Q at_).b + (spAt Q at_).h))), ?_, fun _ => trivial⟩)
        · have := List.length_filter_le (fun o => meets true o (spAt Q at_) && decide (edge true o ≤ lowc true (spAt Q at_))) ((others Q at_).take m)
          rw [List.length_take] at this
          simp only [List.length_map, List.length_cons]
          omega
        · rw [take_at ho, List.filter_append, List.filter_cons_of_pos (by rw [hx, hy]; rfl), List.map_append, ← List.cons_append, List.map_append]; rfl
      · rw [nxt (by rw [hy, Bool.and_false])]; rfl
      · rw [nxt (by rw [hx, Bool.false_and])]; rfl
    · rintro ρ' ⟨a, b, rfl, hpl⟩
      refine ⟨a, b, ?_, hpl⟩
      rw [List.length_map, List.take_length]; rfl
    · rintro ρ' ⟨a, b, rfl, hpl⟩
      have hmx : ((reachL true (spAt Q at_) (others Q at_)) : List Int) ≠ [] := by unfold reachL; simp
      refine xs_one (xt_lset (ds := Q.map dSpot) (j := at_) (d := dSpot (slideS true (spAt Q at_) (others Q at_))) 14 ((ed_catT (xs := [.int (slideS true (spAt Q at_) (others Q at_)).l, .int (slideS true (spAt Q at_) (others Q at_)).b]) (ys := [.int (spAt Q at_).w, .int (spAt Q at_).h]) (ed_if (x := true) ((et_eqI (ed_var 17) ed_int).to (by decide)) (fun hz => ed_tup (ea_cons (ed_max rfl B.max (ed_var 20) (.inr ⟨rr, rfl⟩) hmx) (ea_cons (ed_part (ed_ixN (ed_var 14) (.o _ _) (ed_var 13) (spots_at hat)) 1) ea_nil)) (by simp)) (fun hz => Bool.noConfusion hz))
        ((ed_slT (ed_ixN (ed_var 14) (.o _ _) (ed_var 13) (spots_at hat)) (eo_some ed_int) eo_none).to (by rw [cut2e])) (by simp)).to rfl) (ed_var 13) ⟨fun e => hrr e.symm, noOwn_any (hpl h)⟩ ?_ (by simp; exact hat))
      refine weak_of ?_
      have e : (Q.map dSpot).set at_ (dSpot (slideS true (spAt Q at_) (others Q at_))) = (slideP Q at_ true).map dSpot := by unfold slideP; rw [List.map_set]
      show WeakL [.any, .any, .any, .any, .any, .any, .any, .d (dN big), .d (dSizes more), .d (dSpots fl), .any, .any, .any, .d (dN at_), .ol h ((Q.map dSpot).set at_ (dSpot (slideS true (spAt Q at_) (others Q at_)))), .any, .d bf, .d (.int 0), .d (.lst ((others Q at_).map dSpot)), .any, .ol rr ((reachL true (spAt Q at_) (others Q at_)).map D.int), a, b, .any] [.any, .any, .any, .any, .any, .any, .any, .d (dN big), .d (dSizes more), .d (dSpots fl), .any, .any, .any, .d (dN at_), .ol h ((slideP Q at_ true).map dSpot), .any, .d bf, .any, .any, .any, .any, .any, .any, .any]
      rw [e]
      exact ⟨.inl rfl, .inl rfl, .inl rfl, .inl rfl, .inl rfl, .inl rfl, .inl rfl, .inr rfl, .inr rfl, .inr rfl, .inl rfl, .inl rfl, .inl rfl, .inr rfl, .inr rfl, .inl rfl, .inr rfl, .inl rfl, .inl rfl, .inl rfl, .inl rfl, .inl rfl, .inl rfl, .inl rfl, trivial⟩
end
end Fl

/-! FloZf -/
namespace Fl
open PySem L2 PyProof.Rows
variable {T : Tbs}
variable {P : Program} {w : World} {K : PySem.W.Frag} {mg : Str → Option Value} {base : Heap}
theorem weak_drop {a : List Sl} (i : Nat) (x : Sl) : Weak (a.set i x) (a.set i .any) := by
  refine ⟨by simp, fun j r e => ?_⟩
  by_cases z : i = j
  · subst z
    have hl : i < a.length := by have := at_lt e; simpa using this
    rw [List.getElem?_set_self hl] at e
    cases e; exact .inl rfl
  · rw [List.getElem?_set_ne z] at e ⊢
    exact .inr e
theorem nbs_spots (Q : List Spot) : nbs (Q.map dSpot) = true := nbs_of fun d hd => by obtain ⟨n, _, rfl⟩ := List.mem_map.mp hd; rfl
theorem nb_tspots (Q : List Spot) : (dSpots Q).nb = true := nbs_spots Q
theorem depth_spots (Q : List Spot) : PyData.depthAll (pys (Q.map dSpot)) ≤ 2 := depthAll_le fun x hx => by
  rw [pys_map] at hx
  obtain ⟨d, hd, rfl⟩ := List.mem_map.mp hx
  obtain ⟨n, _, rfl⟩ := List.mem_map.mp hd
  simp [D.py, pys, PyData.depth, PyData.depthAll]
theorem depth_lspots (Q : List Spot) : (D.lst (Q.map dSpot)).py.depth ≤ 64 := by
  show (PyData.list (pys (Q.map dSpot))).depth ≤ 64
  rw [PyData.depth]; have := depth_spots Q; omega
theorem depth_tspots (Q : List Spot) : (dSpots Q).py.depth ≤ 64 := by
  show (PyData.tuple (pys (Q.map dSpot))).depth ≤ 64
  rw [PyData.depth]; have := depth_spots Q; omega
theorem dSpot_inj {s t : Spot} (h : dSpot s = dSpot t) : s = t := by
  cases s; cases t
  simp [dSpot] at h
  simp [h]
theorem spots_inj {Q R : List Spot} (h : Q.map dSpot = R.map dSpot) : Q = R := (List.map_inj_right (f := dSpot) (fun a b h => dSpot_inj h)).mp h
theorem eqD_lspots (Q R : List Spot) : eqD (.lst (Q.map dSpot)) (.lst (R.map dSpot)) = decide (Q = R) := by
  by_cases h : Q = R
  · subst h; rw [eqD_refl (x := .lst (Q.map dSpot)) (nbs_spots Q)]; simp
  · rw [decide_eq_false h]
    cases e : eqD (.lst (Q.map dSpot)) (.lst (R.map dSpot)) with
    | false => rfl
    | true =>
      have := (eqD_iff _ _ (show (D.lst (Q.map dSpot)).nb = true from nbs_spots Q) (show (D.lst (R.map dSpot)).nb = true from nbs_spots R)).mp e
      injection this with this
      exact absurd (spots_inj this) h
section
variable {f : Addr} {cdv : Value} {A : Around} {outer : List Env} {s : Shared} {H : Hp} {E : XK}
theorem law_at (B : Nb mg) (h : Addr) (big : Nat) (more : List Sz) (fl Q : List Spot) (bf : D) (at_ : Nat) (hbig : Q.length = big) (h8 : big ≤ 8) (hat : at_ < Q.length) :
    XS T (CxL P w K mg base f cdv A outer s H E) [.any, .any, .any, .any, .any, .any, .any, .d (dN big), .d (dSizes more), .d (dSpots fl), .any, .any, .any, .d (dN at_), .ol h (Q.map dSpot), .any, .d bf, .any, .any, .any, .any, .any, .any, .any] atB { nx := fun r => Weak r [.any, .any, .any, .any, .any, .any, .any, .d (dN big), .d (dSizes more), .d (dSpots fl), .any, .any, .any, .any, .ol h ((slideA Q at_).map dSpot), .any, .d bf, .any, .any, .any, .any, .any, .any, .any] } := by
  let Qp : Nat → List Spot := fun p => if p = 0 then Q else if p = 1 then slideP Q at_ true else slideA Q at_
  have hlen : ∀ p, (Qp p).length = Q.length := fun p => by
    show (if p = 0 then Q else if p = 1 then slideP Q at_ true else slideA Q at_).length = _
    split
    · rfl
    · split
      · exact slideP_len _ _ _
      · exact slideA_len _ _
  refine xs_one (xt_for1 17 (fun p r => Weak r [.any, .any, .any, .any, .any, .any, .any, .d (dN big), .d (dSizes more), .d (dSpots fl), .any, .any, .any, .d (dN at_), .ol h ((Qp p).map dSpot), .any, .d bf, .any, .any, .any, .any, .any, .any, .any]) (ei_list (ef_lst (ea_cons ed_int (ea_cons ed_int ea_nil)) (by simp)).ed) sc56.nd (Weak.refl _) ?_ ?_)
  · rintro p d ρ' hd hw
    have hz : ∃ z : Bool, d = dZ z ∧ Qp (p + 1) = slideP (Qp p) at_ z := by
      match p, hd with
      | 0, hd => cases hd; exact ⟨true, rfl, rfl⟩
      | 1, hd => cases hd; exact ⟨false, rfl, rfl⟩
      | n + 2, hd => simp at hd
    obtain ⟨z, rfl, e⟩ := hz
    refine XS.weak ?_ (hw.set 17 (.d (dZ z)))
    have := law_part (T := T) (P := P) (w := w) (K := K) (mg := mg) (base := base) (f := f) (cdv := cdv) (A := A) (outer := outer) (s := s) (H := H) (E := E) B h big more fl (Qp p) bf at_ z (by rw [hlen, hbig]) h8 (by rw [hlen]; exact hat)
    refine fun Hb Ob O σ H' st Dn kk => this Hb Ob O σ H' st Dn ⟨fun O2 σ2 H2 ρ2 hn s2 => kk.nx O2 σ2 H2 ρ2 (by rw [e]; exact hn) s2, fun _ _ _ _ z => z.elim, fun _ _ _ _ z => z.elim, fun _ _ _ z => z.elim, fun _ _ _ _ _ _ z => z.elim⟩
  · rintro ρ' hw
    exact hw.trans (weak_drop (a := [.any, .any, .any, .any, .any, .any, .any, .d (dN big), .d (dSizes more), .d (dSpots fl), .any, .any, .any, .d (dN at_), .ol h ((slideA Q at_).map dSpot), .any, .d bf, .any, .any, .any, .any, .any, .any, .any]) 13 (.d (dN at_)))
/-- one turn -/
theorem law_turn (B : Nb mg) (hu : (CxL P w K mg base f cdv A outer s H E).A.units + 64 < cLine) (h : Addr) (big : Nat) (more : List Sz) (fl Q : List Spot) (hbig : Q.length = big) (h8 : big ≤ 8) :
    XS T (CxL P w K mg base f cdv A outer s H E) [.any, .any, .any, .any, .any, .any, .any, .d (dN big), .d (dSizes more), .d (dSpots fl), .any, .any, .any, .any, .ol h (Q.map dSpot), .any, .any, .any, .any, .any, .any, .any, .any, .any] turnB { nx := fun r => Weak r [.any, .any, .any, .any, .any, .any, .any, .d (dN big), .d (dSizes more), .d (dSpots fl), .any, .any, .any, .any, .ol h ((turnP Q).map dSpot), .any, .any, .any, .any, .any, .any, .any, .any, .any] ∧ turnP Q ≠ Q, bk := fun r => Weak r [.any, .any, .any, .any, .any, .any, .any, .d (dN big), .d (dSizes more), .d (dSpots fl), .any, .any, .any, .any, .ol h (Q.map dSpot), .any, .any, .any, .any, .any, .any, .any, .any, .any] ∧ turnP Q = Q } := by
  refine xs_then (ρ' := [.any, .any, .any, .any, .any, .any, .any, .d (dN big), .d (dSizes more), .d (dSpots fl), .any, .any, .any, .any, .ol h (Q.map dSpot), .any, .d (.lst (Q.map dSpot)), .any, .any, .any, .any, .any, .any, .any]) (xt_asg 16 (ef_list B.list (ed_var 14) (.o _ _)).ed rfl sc56.nd) ?_
  refine xs_cons (fun r => Weak r [.any, .any, .any, .any, .any, .any, .any, .d (dN big), .d (dSizes more), .d (dSpots fl), .any, .any, .any, .any, .ol h ((turnP Q).map dSpot), .any, .d (.lst (Q.map dSpot)), .any, .any, .any, .any, .any, .any, .any]) (xt_for1 13 (fun j r => Weak r [.any, .any, .any, .any, .any, .any, .any, .d (dN big), .d (dSizes more), .d (dSpots fl), .any, .any, .any, .any, .ol h ((turnK Q j).map dSpot), .any, .d (.lst (Q.map dSpot)), .any, .any, .any, .any, .any, .any, .any]) (ei_range B.range (ed_var 7) (by omega) (by omega)) sc56.nd (Weak.refl _) ?_ ?_) ?_
  · rintro j d ρ' hd hw
    obtain ⟨hj, rfl⟩ := rg_at hd
    have hj : j < big := by simpa using hj
    refine XS.weak ?_ (hw.set 13 (.d (dN j)))
    have := law_at (T := T) (P := P) (w := w) (K := K) (mg := mg) (base := base) (f := f) (cdv := cdv) (A := A) (outer := outer) (s := s) (H := H) (E := E) B h big more fl (turnK Q j) (.lst (Q.map dSpot)) j (by rw [turnK_len, hbig]) h8 (by rw [turnK_len, hbig]; exact hj)
    refine fun Hb Ob O σ H' st Dn kk => this Hb Ob O σ H' st Dn ⟨fun O2 σ2 H2 ρ2 hn s2 => kk.nx O2 σ2 H2 ρ2 (by rw [turnK_succ]; exact hn) s2, fun _ _ _ _ z => z.elim, fun _ _ _ _ z => z.elim, fun _ _ _ z => z.elim, fun _ _ _ _ _ _ z => z.elim⟩
  · rintro ρ' hw
    have hlen : (rgD (big : Int)).length = big := by rw [rg_nat]; simp
    rw [hlen] at hw
    unfold turnP
    rw [hbig]; exact hw
  · rintro ρ' hw
    refine XS.weak ?_ hw
    have hwd := weak_drop (a := [.any, .any, .any, .any, .any, .any, .any, .d (dN big), .d (dSizes more), .d (dSpots fl), .any, .any, .any, .any, .ol h ((turnP Q).map dSpot), .any, .d (.lst (Q.map dSpot)), .any, .any, .any, .any, .any, .any, .any]) 16 (.d (.lst (Q.map dSpot)))
    refine xs_one (xt_if (x := decide (Q = turnP Q)) ((et_eqL hu (ed_var 16) (.inl rfl) (ed_var 14) (.inr ⟨h, rfl⟩) (nbs_spots _) (nbs_spots _) (depth_lspots _) (depth_lspots _)).to (eqD_lspots _ _)) (fun hx => xs_one (xt_break ⟨?_, ?_⟩)) (fun hx => xs_nil ⟨hwd, ?_⟩))
    · have e : Q = turnP Q := by simpa using hx
      have := hwd
      rw [← e] at this
      rw [← e]
      exact this
    · exact (by simpa using hx : Q = turnP Q).symm
    · exact fun e => by simp [e] at hx
/-- the loop and what follows -/
theorem law_c (B : Nb mg) (Mt : Mth) (F : Fns T P w K mg base) (hr : Room 30 (CxL P w K mg base f cdv A outer s H E).A) (h : Addr) (big : Nat) (more : List Sz) (bb : Bu) (hb4 : 4 ≤ big) (hb7 : big ≤ 7) (hml : more.length = big) (hmf : Few 9 more) (hbb : BushOk more bb) (o1 o2 : List Nat) (g1 : IsOrd more.length o1) (g2 : IsOrd more.length o2) :
    XS T (CxL P w K mg base f cdv A outer s H E) [.any, .any, .any, .any, .any, .any, .any, .d (dN big), .d (dSizes more), .d (dSpots (bushSpots more bb)), .any, .any, .any, .any, .ol h ((packedIn more o1 o2).map dSpot), .any, .any, .any, .any, .any, .any, .any, .any, .any] (lawFrom 13) PoL := by
  have hmz := few_ok hmf (by omega) (by omega)
  have hpk := Mt.bush more bb hmf (by omega) (by omega) hbb
  have hu := hr.units
  let It := iterT (packedIn more o1 o2)
  have itl : ∀ i, (It i).length = big := fun i => by
    show (iterT (packedIn more o1 o2) i).length = _
    rw [iterT_len, packedIn_len, hml]
  obtain ⟨m0, hm0, hm1⟩ := Mt.loop more o1 o2 hmf (by omega) (by omega) g1 g2
  refine xs_cons (fun r => ∃ i, Weak r [.any, .any, .any, .any, .any, .any, .any, .d (dN big), .d (dSizes more), .d (dSpots (bushSpots more bb)), .any, .any, .any, .any, .ol h ((It i).map dSpot), .any, .any, .any, .any, .any, .any, .any, .any, .any] ∧ turnP (It i) = It i) (xt_for1 15 (fun i r => Weak r [.any, .any, .any, .any, .any, .any, .any, .d (dN big), .d (dSizes more), .d (dSpots (bushSpots more bb)), .any, .any, .any, .any, .ol h ((It i).map dSpot), .any, .any, .any, .any, .any, .any, .any, .any, .any] ∧ ∀ j, j < i → turnP (It j) ≠ It j) (ei_range B.range ed_int (by decide) (by decide)) sc56.nd ⟨Weak.refl _, fun j hj => by omega⟩ ?_ ?_) ?_
  · rintro i d ρ' hd ⟨hw, hne⟩
    refine XS.weak ?_ ((hw.set 15 (.d d)).trans (weak_drop (a := [.any, .any, .any, .any, .any, .any, .any, .d (dN big), .d (dSizes more), .d (dSpots (bushSpots more bb)), .any, .any, .any, .any, .ol h ((It i).map dSpot), .any, .any, .any, .any, .any, .any, .any, .any, .any]) 15 (.d d)))
    have := law_turn (T := T) (P := P) (w := w) (K := K) (mg := mg) (base := base) (f := f) (cdv := cdv) (A := A) (outer := outer) (s := s) (H := H) (E := E) B hu h big more (bushSpots more bb) (It i) (itl i) (by omega)
    refine fun Hb Ob O σ H' st Dn kk => this Hb Ob O σ H' st Dn ⟨fun O2 σ2 H2 ρ2 hn s2 => kk.nx O2 σ2 H2 ρ2 ⟨hn.1, fun j hj => ?_⟩ s2, fun O2 σ2 H2 ρ2 hn s2 => kk.bk O2 σ2 H2 ρ2 ⟨i, hn⟩ s2, fun _ _ _ _ z => z.elim, fun _ _ _ z => z.elim, fun _ _ _ _ _ _ z => z.elim⟩
    rcases Nat.lt_succ_iff_lt_or_eq.mp hj with hj | hj
    · exact hne j hj
    · rw [hj]; exact hn.2
  · rintro ρ' ⟨hw, hne⟩
    have hlen : (rgD 200).length = 200 := rfl
    rw [hlen] at hne
    exact absurd hm1 (hne m0 hm0)
  · rintro ρ' ⟨i, hw, hfix⟩
    refine XS.weak ?_ hw
    obtain ⟨f1, f2, f3, f4, f5⟩ := Mt.fin more o1 o2 i hmf (by omega) (by omega) g1 g2 hfix
    refine xs_then (ρ' := [.any, .any, .any, .any, .any, .any, .any, .d (dN big), .d (dSizes more), .d (dSpots (bushSpots more bb)), .any, .any, .any, .any, .ol h ((It i).map dSpot), .any, .any, .any, .any, .any, .any, .any, .any, .d (dSpots (It i))]) (xt_asg 23 (ed_tupleL B.tuple (ed_var 14) (.inr ⟨h, rfl⟩)) rfl sc56.nd) ?_
    refine xs_ifF (EW.et (EW.to' (ew_or (et_not (et_val (ed_call F.is_compact (hr.mono (by decide)) (ea_cons (ed_var 23) ea_nil) ⟨It i, rfl, f1, rfl⟩))) fun _ => ew_or1 (et_neB (ed_call F.is_compact (hr.mono (by decide)) (ea_cons (ed_var 9) ea_nil) ⟨_, rfl, hpk, rfl⟩) (ed_call F.compact (hr.mono (by decide)) (ea_cons (ed_var 9) ea_nil) ⟨_, rfl, hpk.hi, rfl⟩))) ?_)) ?_
    · rw [show isCompact (It i) = true from f2, Mt.compact _ hpk]; simp
    · refine xs_one (xt_ret (ed_eqD hu (ed_call F.packed_bush (hr.mono (by decide)) (ea_cons (ed_var 8) (ea_cons (ed_call F.bush_of (hr.mono (by decide)) (ea_cons (ed_var 23) ea_nil) ⟨It i, rfl, f1, f2, f3, rfl⟩) ea_nil)) ⟨more, _, rfl, hmz, f4, rfl⟩) (ed_var 23) (nb_tspots _) (nb_tspots _) (depth_tspots _) (depth_tspots _)) ?_)
      show D.bl _ = D.bl true
      rw [show bushSpots more (rootedK (It i) (parL (It i) (It i).length) 20 (columnOf (It i) (parL (It i) (It i).length) none)) = It i from f5]
      rw [eqD_refl (x := dSpots (It i)) (nbs_spots _)]
theorem law_b (B : Nb mg) (Mt : Mth) (F : Fns T P w K mg base) (hr : Room 30 (CxL P w K mg base f cdv A outer s H E).A) (ns : List Int) (q : Addr) (row : List D) (m big : Nat) (zs more : List Sz) (A' : Int) (b bb : Bu) (hb4 : 4 ≤ big) (hb7 : big ≤ 7) (hml : more.length = big) (hmf : Few 9 more) (hbb : BushOk more bb) :
    XS T (CxL P w K mg base f cdv A outer s H E) [.d (.lst (ns.map D.int)), .ol q row, .d (dN m), .d (dSizes zs), .d (.int A'), .d (dBu b), .d (dSpots (bushSpots zs b)), .d (dN big), .d (dSizes more), .d (dSpots (bushSpots more bb)), .any, .any, .any, .any, .any, .any, .any, .any, .any, .any, .any, .any, .any, .any] (lawFrom 9) PoL := by
  have hmz := few_ok hmf (by omega) (by omega)
  have hpk := Mt.bush more bb hmf (by omega) (by omega) hbb
  have hbl : (bushSpots more bb).length = more.length := by unfold bushSpots; simp
  have g1 : IsOrd more.length (sortBy (bushSpots more bb) true) := by rw [← hbl]; exact Mt.sorted _ hpk true
  have g2 : IsOrd more.length (sortBy (bushSpots more bb) false) := by rw [← hbl]; exact Mt.sorted _ hpk false
  have hun := Mt.under more bb hmf (by omega) (by omega) hbb
  refine xs_then (ρ' := [.d (.lst (ns.map D.int)), .ol q row, .d (dN m), .d (dSizes zs), .d (.int A'), .d (dBu b), .d (dSpots (bushSpots zs b)), .d (dN big), .d (dSizes more), .d (dSpots (bushSpots more bb)), .d (dOrd (sortBy (bushSpots more bb) true)), .d (dOrd (sortBy (bushSpots more bb) false)), .any, .any, .any, .any, .any, .any, .any, .any, .any, .any, .any, .any]) (xt_unpack (n := 2) [10, 11] (ed_call F.orders_of (hr.mono (by decide)) (ea_cons (ed_var 9) ea_nil) ⟨_, rfl, hpk, Mt.sortable _ hpk, rfl⟩) rfl rfl (pg_tup rfl (pgs_cons (pgn 10 sc56.nd) (pgs_cons (pgn 11 sc56.nd) pgs_nil)))) ?_
  refine xs_then (xt_asg 12 (ed_call F.packed (hr.mono (by decide)) (ea_cons (ed_var 8) (ea_cons (ed_var 10) (ea_cons (ed_var 11) ea_nil))) ⟨_, _, _, rfl, hmz, g1, g2, rfl⟩) rfl sc56.nd) ?_
  generalize hlow : packedIn more (sortBy (bushSpots more bb) true) (sortBy (bushSpots more bb) false) = low at hun
  have hll : low.length = more.length := by rw [← hlow, packedIn_len]
  show XS T (CxL P w K mg base f cdv A outer s H E) [.d (.lst (ns.map D.int)), .ol q row, .d (dN m), .d (dSizes zs), .d (.int A'), .d (dBu b), .d (dSpots (bushSpots zs b)), .d (dN big), .d (dSizes more), .d (dSpots (bushSpots more bb)), .d (dOrd (sortBy (bushSpots more bb) true)), .d (dOrd (sortBy (bushSpots more bb) false)), .d (dSpots low), .any, .any, .any, .any, .any, .any, .any, .any, .any, .any, .any] _ _
  refine xs_ifF ((et_neD hr.units (x := .lst []) (y := .lst []) ((ef_lcIf1 NLaw (defScope (topS 56)) 13 sc56.nd (List.range big) dN (fun i => decide ((spAt (bushSpots more bb) i).l < (spAt low i).l) || decide ((spAt (bushSpots more bb) i).b < (spAt low i).b)) dN (ei_range B.range (ed_var 7) (by omega) (by omega))
    (fun i hi _ _ _ _ _ => EW.et (ew_or (et_gt (ed_part (ed_ixN (ed_var 12) (.t _) (ed_var 13) (spots_at (by have := List.mem_range.mp hi; omega))) 0) (ed_part (ed_ixN (ed_var 9) (.t _) (ed_var 13) (spots_at (by have := List.mem_range.mp hi; omega))) 0)) fun _ => ew_or1 (et_gt (ed_part (ed_ixN (ed_var 12) (.t _) (ed_var 13) (spots_at (by have := List.mem_range.mp hi; omega))) 1) (ed_part (ed_ixN (ed_var 9) (.t _) (ed_var 13) (spots_at (by have := List.mem_range.mp hi; omega))) 1))))
    (fun i _ _ _ _ _ _ _ => ed_var 13) (rg_nat _) (by simp; omega)).ed.to ?_) (ef_lst ea_nil (by simp)).ed rfl rfl (by decide) (by decide)).to rfl) ?_
  · have : ((List.range big).filter fun i => decide ((spAt (bushSpots more bb) i).l < (spAt low i).l) || decide ((spAt (bushSpots more bb) i).b < (spAt low i).b)) = [] := by
      rw [List.filter_eq_nil_iff]
      intro i hi
      have := hun i (by have := List.mem_range.mp hi; omega)
      simp
      omega
    rw [this]; rfl
  · refine xs_cons (fun r => ∃ h, r = [.d (.lst (ns.map D.int)), .ol q row, .d (dN m), .d (dSizes zs), .d (.int A'), .d (dBu b), .d (dSpots (bushSpots zs b)), .d (dN big), .d (dSizes more), .d (dSpots (bushSpots more bb)), .d (dOrd (sortBy (bushSpots more bb) true)), .d (dOrd (sortBy (bushSpots more bb) false)), .d (dSpots low), .any, .ol h (low.map dSpot), .any, .any, .any, .any, .any, .any, .any, .any, .any] ∧ q ≠ h) (xt_asgF 14 (ef_list B.list (ed_var 12) (.t _)) (fun h hh => ⟨h, rfl, hh.1⟩) sc56.nd) ?_
    rintro _ ⟨h, rfl, hq⟩
    subst hlow
    have := law_c (T := T) (P := P) (w := w) (K := K) (mg := mg) (base := base) (f := f) (cdv := cdv) (A := A) (outer := outer) (s := s) (H := H) (E := E) B Mt F hr h big more bb hb4 hb7 hml hmf hbb _ _ g1 g2
    refine XS.weak this (weak_of ?_)
    exact ⟨.inl rfl, .inl rfl, .inl rfl, .inl rfl, .inl rfl, .inl rfl, .inl rfl, .inr rfl, .inr rfl, .inr rfl, .inl rfl, .inl rfl, .inl rfl, .inl rfl, .inr rfl, .inl rfl, .inl rfl, .inl rfl, .inl rfl, .inl rfl, .inl rfl, .inl rfl, .inl rfl, .inl rfl, trivial⟩
end
theorem fn_law (Dd : Df K mg "law" (topS 56) ["_law_script"]) (B : Nb mg) (Mt : Mth) (F : Fns T P w K mg base) : Fn T P w K mg base 31 "law" RLaw := by
  refine fn_df NLaw Dd sc56 (by rintro ds out ⟨s, rfl, rfl⟩; rfl) (fun f cdv A outer s H E ds out hr ⟨ns, h1, h2⟩ => ?_)
  subst h1 h2
  have := law_a (T := T) (f := f) (cdv := cdv) (A := A) (outer := outer) (s := s) (H := H) (E := E) B Mt F hr ns fun q row m big zs more A' b bb hb4 hb7 hml hmf hbb => law_b B Mt F hr ns q row m big zs more A' b bb hb4 hb7 hml hmf hbb
  exact fun Hb Ob O σ H' st Dn kk => this Hb Ob O σ H' st Dn ⟨fun _ _ _ _ z => z.elim, fun _ _ _ _ z => z.elim, fun _ _ _ _ z => z.elim, fun v d H3 e => kk.rt v d H3 e, fun _ _ _ _ _ _ z => z.elim⟩
end Fl

/-! FloZg -/
namespace Fl
open PySem L2 PyProof.Rows
section
variable {K : PySem.W.Frag} {h : Heap} {mg : Str → Option Value}
theorem df_mk {x : Str} {st : Stmt} {ps : List Str} {f : Addr} {oc : Value} {od an : Option Addr} {sl : Array (Option Value)} {kV dc pm cd ct : Value} (X : K.In h) (G : h.Ns mainGlobals mg)
    (hb : ∀ (kV doc pm : Value) (an : Option Addr) (cdv ct : Value) (us : List Value), us.length = ps.length → bindArgs (PySem.W.fnOf x x (defArgs st) (defBody st) (defScope st) .none kV doc pm an cdv ct) ⟨us, []⟩ = pure (ps.zip us))
    (a : PySem.W.nsIn K mainGlobals x = some (some (.ref f))) (l : K.lookup f = some ⟨oc, od, .func (PySem.W.fnOf x x (defArgs st) (defBody st) (defScope st) .none kV dc pm an cd ct), sl⟩) (c : PySem.W.codeIn K cd x = true) (k : PySem.W.keepIn K (.ref f) = true) : Df K mg x st ps :=
  ⟨f, _, fun_mk l c k, PySem.W.mg_of X G a, (fun_mk l c k).binds hb⟩
theorem dfL_mk {x : Str} {st : Stmt} {ps : List Str} {f cc : Addr} {oc : Value} {od an : Option Addr} {sl : Array (Option Value)} {kV dc pm ct : Value} (X : K.In h) (G : h.Ns mainGlobals mg)
    (hb : ∀ (kV doc pm : Value) (an : Option Addr) (cdv ct : Value) (us : List Value), us.length = ps.length → bindArgs (PySem.W.fnOf x x (defArgs st) (defBody st) (defScope st) .none kV doc pm an cdv ct) ⟨us, []⟩ = pure (ps.zip us))
    (a : PySem.W.nsIn K mainGlobals x = some (some (.ref f))) (l : K.lookup f = some ⟨oc, od, .func (PySem.W.fnOf x x (defArgs st) (defBody st) (defScope st) .none kV dc pm an (.ref cc) ct), sl⟩) (c : PySem.W.codeIn K (.ref cc) x = true) (k : PySem.W.keepIn K (.ref f) = true) : DfL K mg x st ps cc :=
  ⟨f, _, ⟨⟨oc, od, kV, dc, pm, an, ct, sl, rfl, l, c⟩, k⟩, PySem.W.mg_of X G a, (fun_mk l c k).binds hb⟩
end
/-- what the head tells of the defs -/
structure Defs (K : PySem.W.Frag) (mg : Str → Option Value) : Prop where
  d1 : Df K mg "is_integer" (topS 1) ["value"]
  d2 : Df K mg "is_in" (topS 2) ["value", "least", "most"]
  d3 : Df K mg "is_list" (topS 3) ["value", "least", "most"]
  d14 : Df K mg "is_size" (topS 14) ["value"]
  d17 : Df K mg "need_sizes" (topS 17) ["sizes"]
  d18 : Df K mg "is_spot" (topS 18) ["value"]
  d19 : Df K mg "do_overlap" (topS 19) ["one", "other"]
  d20 : Df K mg "need_packing" (topS 20) ["spots"]
  d21 : Df K mg "is_packing" (topS 21) ["spots"]
  d22 : Df K mg "bounds" (topS 22) ["spots"]
  d23 : Df K mg "bounds_in" (topS 23) ["spots"]
  d24 : Df K mg "is_order" (topS 24) ["value", "many"]
  d25 : Df K mg "need_orders" (topS 25) ["sizes", "first", "second"]
  d26 : Df K mg "packed_in" (topS 26) ["sizes", "first", "second"]
  d27 : Df K mg "packed" (topS 27) ["sizes", "first", "second"]
  d28 : Df K mg "relation" (topS 28) ["one", "other"]
  d29 : Df K mg "is_ahead" (topS 29) ["one", "other", "number"]
  d30 : Df K mg "sorted_by" (topS 30) ["spots", "number"]
  d31 : Df K mg "orders_of" (topS 31) ["spots"]
  d32 : Df K mg "permutations" (topS 32) ["many"]
  d33 : Df K mg "best_packing" (topS 33) ["sizes"]
  d35 : Df K mg "blocks_of" (topS 35) ["bush"]
  d36 : Df K mg "need_bush" (topS 36) ["sizes", "bush"]
  d37 : Df K mg "rest_on" (topS 37) ["spots", "left", "width"]
  d38 : Df K mg "grow" (topS 38) ["sizes", "bush", "left", "found"]
  d39 : Df K mg "packed_bush" (topS 39) ["sizes", "bush"]
  d40 : Df K mg "shapes_of" (topS 40) ["blocks"]
  d41 : Df K mg "orders" (topS 41) ["many"]
  d42 : Df K mg "best_bush" (topS 42) ["sizes"]
  d43 : Df K mg "is_held" (topS 43) ["spot", "spots", "part"]
  d44 : Df K mg "is_compact" (topS 44) ["spots"]
  d46 : Df K mg "faces" (topS 46) ["one", "other"]
  d48 : Df K mg "rooted" (topS 48) ["spots", "parents", "column"]
  d50 : Df K mg "_law_taken" (topS 50) ["_law_row", "_law_many"]
  d51 : Df K mg "_law_sizes" (topS 51) ["_law_row", "_law_many", "_law_most"]
  d52 : Df K mg "_law_order" (topS 52) ["_law_row", "_law_many"]
  d53 : Df K mg "_law_overlap" (topS 53) ["_law_one", "_law_other"]
  d54 : Df K mg "_law_bush" (topS 54) ["_law_row", "_law_blocks"]
  d55 : Df K mg "_law_compact" (topS 55) ["_law_spots"]
structure Consts (mg : Str → Option Value) : Prop where
  blocks : ∃ t, mg "MOST_BLOCKS" = some (.int 8 t)
  side : ∃ t, mg "MOST_SIDE" = some (.int 100 t)
  place : ∃ t, mg "MOST_PLACE" = some (.int 1000 t)
theorem consts_mk {K : PySem.W.Frag} {h : Heap} {mg : Str → Option Value} {t1 t2 t3 : Tok} (X : K.In h) (G : h.Ns mainGlobals mg) (c1 : PySem.W.nsIn K mainGlobals "MOST_BLOCKS" = some (some (.int 8 t1))) (c2 : PySem.W.nsIn K mainGlobals "MOST_SIDE" = some (some (.int 100 t2))) (c3 : PySem.W.nsIn K mainGlobals "MOST_PLACE" = some (some (.int 1000 t3))) : Consts mg :=
  ⟨⟨_, PySem.W.mg_of X G c1⟩, ⟨_, PySem.W.mg_of X G c2⟩, ⟨_, PySem.W.mg_of X G c3⟩⟩
section
variable {T : Tbs} {P : Program} {w : World} {K : PySem.W.Frag} {mg : Str → Option Value} {base : Heap}
theorem fns_all {cb Pb cc Pc : Addr} (D : Defs K mg) (B : Nb mg) (C : Consts mg) (Db : DfL K mg "bush_of" (topS 45) ["spots"] cb) (Dc : DfL K mg "column_of" (topS 47) ["spots", "parents", "parent"] cc) (LTb : LamT T base mg cb Pb "bush_of.<locals>.<lambda>") (LTc : LamT T base mg cc Pc "column_of.<locals>.<lambda>") : Fns T P w K mg base := by
  obtain ⟨tb, hMB⟩ := C.blocks
  obtain ⟨ts, hMS⟩ := C.side
  obtain ⟨tp, hMP⟩ := C.place
  have F1 : Fn T P w K mg base 1 "is_integer" RIsInteger := fn_is_integer D.d1 B
  have F2 : Fn T P w K mg base 2 "is_in" RIsIn := fn_is_in D.d2 F1
  have F3 : Fn T P w K mg base 1 "is_list" RIsList := fn_is_list D.d3 B
  have F14 : Fn T P w K mg base 3 "is_size" RIsSize := fn_is_size D.d14 B hMS F3 F2
  have F17 : Fn T P w K mg base 4 "need_sizes" RNeedSizes := fn_need_sizes D.d17 B hMB F3 F14
  have F18 : Fn T P w K mg base 4 "is_spot" RIsSpot := fn_is_spot D.d18 B hMP F3 F2 F14
  have F19 : Fn T P w K mg base 1 "do_overlap" ROvl := fn_do_overlap D.d19
  have F20 : Fn T P w K mg base 5 "need_packing" RNeedPack := fn_need_packing D.d20 B hMB F3 F18 F19
  have F21 : Fn T P w K mg base 6 "is_packing" RIsPack := fn_is_packing D.d21 F20
  have F23 : Fn T P w K mg base 1 "bounds_in" RBoundsIn := fn_bounds_in D.d23 B
  have F22 : Fn T P w K mg base 6 "bounds" RBounds := fn_bounds D.d22 F20 F23
  have F24 : Fn T P w K mg base 3 "is_order" RIsOrder := fn_is_order D.d24 B F3 F2
  have F25 : Fn T P w K mg base 5 "need_orders" RNeedOrders := fn_need_orders D.d25 B F17 F24
  have F26 : Fn T P w K mg base 1 "packed_in" RPackedIn := fn_packed_in D.d26 B
  have F27 : Fn T P w K mg base 6 "packed" RPacked := fn_packed D.d27 F25 F26
  have F28 : Fn T P w K mg base 1 "relation" RRelation := fn_relation D.d28
  have F29 : Fn T P w K mg base 2 "is_ahead" RIsAhead := fn_is_ahead D.d29 F28
  have F30 : Fn T P w K mg base 3 "sorted_by" RSortBy := fn_sorted_by D.d30 B F29
  have F31 : Fn T P w K mg base 6 "orders_of" ROrdersOf := fn_orders_of D.d31 F20 F30
  have F32 : Fn T P w K mg base 1 "permutations" RPerms := fn_permutations D.d32 B
  have F33 : Fn T P w K mg base 5 "best_packing" RBestPack := fn_best_packing D.d33 B F17 F32 F26 F23
  have F35 : Fn T P w K mg base 11 "blocks_of" (RBlocksOf 8) := fn_blocks_of D.d35 B F3 F2 8
  have F36 : Fn T P w K mg base 12 "need_bush" RNeedBush := fn_need_bush D.d36 B F17 F35
  have F37 : Fn T P w K mg base 1 "rest_on" RRestOn := fn_rest_on D.d37 B
  have G38 : FnS P w K mg base 10 "grow" (spGrow T 8) := fn_grow D.d38 B F37 8
  have F39 : Fn T P w K mg base 13 "packed_bush" RPackedBush := fn_packed_bush D.d39 B F36 G38
  have F40 : Fn T P w K mg base 5 "shapes_of" (RShapes 4) := fn_shapes_of D.d40 B 4
  have F41 : Fn T P w K mg base 1 "orders" RPerms := fn_orders D.d41 B
  have F42 : Fn T P w K mg base 11 "best_bush" RBestBush := fn_best_bush D.d42 B F17 F41 F40 F23 G38
  have F43 : Fn T P w K mg base 1 "is_held" RHeld := fn_is_held D.d43
  have F44 : Fn T P w K mg base 6 "is_compact" RCompact := fn_is_compact D.d44 B F20 F43
  have F46 : Fn T P w K mg base 1 "faces" RFaces := fn_faces D.d46
  have F47 : Fn T P w K mg base 2 "column_of" RColumnOf := fn_column_of Dc B LTc
  have F48 : Fn T P w K mg base 23 "rooted" (RRooted 20) := fn_rooted D.d48 B F47 20
  have F45 : Fn T P w K mg base 24 "bush_of" RBushOf := fn_bush_of Db B LTb F20 F44 F46 F47 F48
  have F50 := fn_taken (T := T) (P := P) (w := w) (base := base) D.d50 B
  have F51 := fn_law_sizes D.d51 B F50
  have F52 := fn_law_order D.d52 B F50
  have F53 : Fn T P w K mg base 1 "_law_overlap" ROvl := fn_law_overlap D.d53
  have F54 := fn_law_bush D.d54 B F50 8
  have F55 : Fn T P w K mg base 2 "_law_compact" RLawCompact := fn_law_compact D.d55 B F53
  exact ⟨F20, F21, F22, F33, F42, F39, F31, F27, F44, F45, F50, F51, F52, F54, F55⟩
/-- the law's own promise -/
theorem fnok_law {f : Addr} {fd : FuncData} (F : Fun K "law" "law" (topS 56) f fd) (B : Nb mg) (Mt : Mth) (Fs : Fns T P w K mg base) : FnOk P w K mg base CX0 31 f fd ["_law_script"] (spR T RLaw) := by
  refine F.ok sc56 (fun vs H Q E h => ?_) (fun cdv A outer s H vs Q E hr h => ?_)
  · obtain ⟨O, ds, out, _, _, hd, ⟨ns, rfl, _⟩, _⟩ := h
    rw [hd.length]; rfl
  · obtain ⟨O, ds, out, hO, hT, hd, ⟨ns, rfl, rfl⟩, q⟩ := h
    refine ⟨_, wpSs_ps _ _, ?_⟩
    have := law_a (T := T) (P := P) (w := w) (K := K) (mg := mg) (base := base) (f := f) (cdv := cdv) (A := A) (outer := outer) (s := s) (H := H) (E := E) B Mt Fs hr ns fun q row m big zs more A' b bb hb4 hb7 hml hmf hbb => law_b B Mt Fs hr ns q row m big zs more A' b bb hb4 hb7 hml hmf hbb
    exact this H O O _ H (start_S hO hT hd (by simp)) _ ⟨fun _ _ _ _ z => z.elim, fun _ _ _ _ z => z.elim, fun _ _ _ _ z => z.elim, fun v d H' h e hv => by subst h; exact q v H' e hv, fun _ _ _ _ _ _ z => z.elim⟩
end
/-- no list stands in K -/
def noListB (K : PySem.W.Frag) : Bool := K.all fun p => match p.2.cls with | .type t => t != "list" | _ => true
theorem mem_lookup' {K : PySem.W.Frag} {a : Addr} {o : Obj} (l : K.lookup a = some o) : (a, o) ∈ K := by
  induction K with
  | nil => cases l
  | cons p K ih =>
    obtain ⟨b, u⟩ := p
    rw [List.lookup_cons] at l
    split at l
    · rename_i e
      have e : a = b := by simpa using e
      cases l; subst e; simp
    · exact List.mem_cons_of_mem _ (ih l)
theorem noList {K : PySem.W.Frag} (h : noListB K = true) {a : Addr} {o : Obj} (l : K.lookup a = some o) : o.cls ≠ .type "list" := by
  have hm : (a, o) ∈ K := mem_lookup' l
  unfold noListB at h
  rw [List.all_eq_true] at h
  have := h _ hm
  intro e
  rw [e] at this
  simp at this
theorem law_end {l : PySem.W.OpenLaw} {w : World} {K : PySem.W.Frag} {h : Heap} {mg : Str → Option Value} {fa f : Addr} {n : Nat} {oc : Value} {od an : Option Addr} {sl : Array (Option Value)} {kV dc pm cd ct : Value} (Mt : Mth) (X : K.In h) (G : h.Ns mainGlobals mg) (hfa : mg "law" = some (.ref fa)) {cb cc : Addr} (Pb Pc : Addr)
    (tabs : ∀ P ∈ [Pb, Pc], h.get? P = some { cls := .none, data := .fields #[] }) (De : Defs K mg) (B : Nb mg) (C : Consts mg) (Db : DfL K mg "bush_of" (topS 45) ["spots"] cb) (Dc : DfL K mg "column_of" (topS 47) ["spots", "parents", "parent"] cc)
    (hb : PySem.W.codeHdIn K cb Pb = true) (hc : PySem.W.codeHdIn K cc Pc = true) (nb : K.lookup Pb = none) (nc : K.lookup Pc = none) (hne : Pb ≠ Pc) (hnl : noListB K = true)
    (a : PySem.W.nsIn K mainGlobals "law" = some (some (.ref f))) (lk : K.lookup f = some ⟨oc, od, .func (PySem.W.fnOf "law" "law" (defArgs (topS 56)) (defBody (topS 56)) (defScope (topS 56)) .none kV dc pm an cd ct), sl⟩) (hcd : PySem.W.codeIn K cd "law" = true) (kp : PySem.W.keepIn K (.ref f) = true) :
    LamX.LawAtS l w K CX0 31 n "_law_script" mg fa h := by
  have e := hfa.symm.trans (PySem.W.mg_of X G a)
  cases e
  have F := fun_mk (st := topS 56) lk hcd kp
  have mem : ∀ p ∈ [(cb, Pb), (cc, Pc)], p = (cb, Pb) ∨ p = (cc, Pc) := fun p hp => by simpa using hp
  let T : Tbs := [(Pb, "bush_of.<locals>.<lambda>"), (Pc, "column_of.<locals>.<lambda>")]
  refine ⟨PySem.W.fnOf "law" "law" (defArgs (topS 56)) (defBody (topS 56)) (defScope (topS 56)) .none kV dc pm an cd ct, [(cb, Pb), (cc, Pc)], spR T RLaw, fun p hp => ?_, fun p hp => ?_, fun p hp => ?_, fun s u => .of_eq rfl, fun H a ns _ _ hT hS => ?_, fun base KX bG TB => ?_⟩
  · rcases mem p hp with rfl | rfl
    · exact tabs Pb (by simp)
    · exact tabs Pc (by simp)
  · rcases mem p hp with rfl | rfl
    · exact nb
    · exact nc
  · rcases mem p hp with rfl | rfl
    · exact PySem.W.codeHd_of_K X hb
    · exact PySem.W.codeHd_of_K X hc
  · rcases hS with hS | ⟨o, its, n, h1, h2, _⟩
    · refine ⟨fun _ => False, [.lst (ns.map Fl.D.int)], .bl true, fun a h => h.elim, fun p hp => ?_, .cons (.lst hS (fun z => z) (Dens.of_ints ns)) .nil, ⟨ns, rfl, rfl⟩, fun v H' _ hv => Den.bl_inv hv⟩
      have hp : p = (Pb, ("bush_of.<locals>.<lambda>" : Str)) ∨ p = (Pc, ("column_of.<locals>.<lambda>" : Str)) := by simpa [T] using hp
      rcases hp with rfl | rfl
      · exact LamX.TabS.nil (hT (cb, Pb) (by simp))
      · exact LamX.TabS.nil (hT (cc, Pc) (by simp))
    · exact absurd h2 (noList hnl h1)
  · have LTb : LamT T base mg cb Pb "bush_of.<locals>.<lambda>" := ⟨TB (cb, Pb) (by simp), by simp [T], fun p hp e => by
      have hp : p = (Pb, ("bush_of.<locals>.<lambda>" : Str)) ∨ p = (Pc, ("column_of.<locals>.<lambda>" : Str)) := by simpa [T] using hp
      rcases hp with rfl | rfl
      · rfl
      · exact absurd e.symm hne⟩
    have LTc : LamT T base mg cc Pc "column_of.<locals>.<lambda>" := ⟨TB (cc, Pc) (by simp), by simp [T], fun p hp e => by
      have hp : p = (Pb, ("bush_of.<locals>.<lambda>" : Str)) ∨ p = (Pc, ("column_of.<locals>.<lambda>" : Str)) := by simpa [T] using hp
      rcases hp with rfl | rfl
      · exact absurd e hne
      · rfl⟩
    exact fnok_law F B Mt (fns_all De B C Db Dc LTb LTc)
end Fl

/-! FloMa -/
/-! The mathematics: packings, orders. -/
namespace Fl
def Disj (s t : Spot) : Prop := s.l + s.w ≤ t.l ∨ t.l + t.w ≤ s.l ∨ s.b + s.h ≤ t.b ∨ t.b + t.h ≤ s.b
theorem Disj.symm {s t : Spot} (h : Disj s t) : Disj t s := by unfold Disj at *; omega
theorem ovl_false {s t : Spot} : ovl s t = false ↔ Disj s t := by
  unfold ovl Disj
  simp only [Bool.and_eq_false_iff, decide_eq_false_iff_not]
  omega
theorem ovl_true {s t : Spot} : ovl s t = true ↔ ¬ Disj s t := by
  rw [← ovl_false]; simp
/-- a packing -/
structure Pk (n : Nat) (sp : Nat → Spot) : Prop where
  pos : ∀ i, i < n → 1 ≤ (sp i).w ∧ 1 ≤ (sp i).h
  nn : ∀ i, i < n → 0 ≤ (sp i).l ∧ 0 ≤ (sp i).b
  dj : ∀ i j, i < n → j < n → i ≠ j → Disj (sp i) (sp j)
theorem spotOk_iff {s : Spot} : spotOk s = true ↔ (0 ≤ s.l ∧ s.l ≤ 1000) ∧ (0 ≤ s.b ∧ s.b ≤ 1000) ∧ (1 ≤ s.w ∧ s.w ≤ 100) ∧ (1 ≤ s.h ∧ s.h ≤ 100) := by
  unfold spotOk placeOk sizeOk sideOk
  simp only [Bool.and_eq_true, decide_eq_true_eq]
  constructor
  · rintro ⟨⟨⟨a, b⟩, c, d⟩, ⟨e, f⟩, g, h⟩; exact ⟨⟨a, b⟩, ⟨c, d⟩, ⟨e, f⟩, g, h⟩
  · rintro ⟨⟨a, b⟩, ⟨c, d⟩, ⟨e, f⟩, g, h⟩; exact ⟨⟨⟨a, b⟩, c, d⟩, ⟨e, f⟩, g, h⟩
theorem PackOk.pk {Q : List Spot} (h : PackOk Q) : Pk Q.length (spAt Q) := by
  have ok : ∀ i, i < Q.length → _ := fun i hi => spotOk_iff.mp (h.ok _ (spAt_mem hi))
  refine ⟨fun i hi => ?_, fun i hi => ?_, fun i j hi hj hij => ?_⟩
  · have := ok i hi; omega
  · have := ok i hi; omega
  · rcases Nat.lt_or_gt_of_ne hij with h1 | h1
    · exact (ovl_false.mp (h.dj j i h1 hj)).symm
    · exact ovl_false.mp (h.dj i j h1 hi)
theorem packOk_of {Q : List Spot} (h1 : 1 ≤ Q.length) (h8 : Q.length ≤ 8) (p : Pk Q.length (spAt Q)) (hl : ∀ i, i < Q.length → (spAt Q i).l ≤ 1000 ∧ (spAt Q i).b ≤ 1000 ∧ (spAt Q i).w ≤ 100 ∧ (spAt Q i).h ≤ 100) : PackOk Q := by
  refine ⟨h1, h8, fun s hs => ?_, fun i j hij hi => ovl_false.mpr (p.dj i j hi (by omega) (by omega))⟩
  obtain ⟨i, hi, rfl⟩ := List.mem_iff_getElem.mp hs
  have e : spAt Q i = Q[i] := by unfold spAt; simp [hi]
  rw [← e]
  have a := p.pos i hi
  have b := p.nn i hi
  have c := hl i hi
  exact spotOk_iff.mpr (by omega)
/-! ### least elements -/
theorem exists_min (p : Nat → Prop) (f : Nat → Int) : ∀ xs : List Nat, (∃ a ∈ xs, p a) → ∃ a ∈ xs, p a ∧ ∀ b ∈ xs, p b → f a ≤ f b
  | [], h => by obtain ⟨a, ha, _⟩ := h; simp at ha
  | x :: xs, h => by
    by_cases hr : ∃ a ∈ xs, p a
    · obtain ⟨a, ha, hp, hm⟩ := exists_min p f xs hr
      by_cases hx : p x ∧ f x ≤ f a
      · refine ⟨x, by simp, hx.1, fun b hb pb => ?_⟩
        rcases List.mem_cons.mp hb with e | e
        · rw [e]; exact Int.le_refl _
        · have := hm b e pb; omega
      · refine ⟨a, by simp [ha], hp, fun b hb pb => ?_⟩
        rcases List.mem_cons.mp hb with e | e
        · subst e
          by_cases h2 : f b ≤ f a
          · exact absurd ⟨pb, h2⟩ hx
          · omega
        · exact hm b e pb
    · obtain ⟨a, ha, hp⟩ := h
      rcases List.mem_cons.mp ha with e | e
      · subst e
        refine ⟨a, by simp, hp, fun b hb pb => ?_⟩
        rcases List.mem_cons.mp hb with e | e
        · rw [e]; exact Int.le_refl _
        · exact absurd ⟨b, e, pb⟩ hr
      · exact absurd ⟨a, e, hp⟩ hr
theorem exists_max (p : Nat → Prop) (f : Nat → Int) (xs : List Nat) (h : ∃ a ∈ xs, p a) : ∃ a ∈ xs, p a ∧ ∀ b ∈ xs, p b → f b ≤ f a := by
  obtain ⟨a, h1, h2, h3⟩ := exists_min p (fun i => - f i) xs h
  exact ⟨a, h1, h2, fun b hb pb => by have := h3 b hb pb; omega⟩
/-- some block has none ahead of it -/
theorem first_free (sp : Nat → Spot) (left : List Nat) (pos : ∀ a ∈ left, 1 ≤ (sp a).w ∧ 1 ≤ (sp a).h) (dj : ∀ a ∈ left, ∀ b ∈ left, a ≠ b → Disj (sp a) (sp b)) (ne : left ≠ []) :
    ∃ a ∈ left, ∀ o ∈ left, o ≠ a → ¬ ((sp o).l < (sp a).l + (sp a).w ∧ (sp a).b < (sp o).b + (sp o).h) := by
  let vis : Nat → Prop := fun k => ∀ m ∈ left, m ≠ k → (sp m).l < (sp k).l + (sp k).w → (sp k).l < (sp m).l + (sp m).w → ¬ ((sp k).b + (sp k).h ≤ (sp m).b)
  have hv : ∃ a ∈ left, vis a := by
    obtain ⟨x, hx⟩ := List.exists_mem_of_ne_nil _ ne
    obtain ⟨a, h1, _, h3⟩ := exists_max (fun _ => True) (fun i => (sp i).b + (sp i).h) left ⟨x, hx, trivial⟩
    refine ⟨a, h1, fun m hm _ _ _ hab => ?_⟩
    have h4 : (sp m).b + (sp m).h ≤ (sp a).b + (sp a).h := h3 m hm trivial
    have := pos m hm
    omega
  obtain ⟨j, hj, vj, lj⟩ := exists_min vis (fun i => (sp i).l) left hv
  have lj : ∀ b ∈ left, vis b → (sp j).l ≤ (sp b).l := lj
  refine ⟨j, hj, fun i hi hij ⟨h1, h2⟩ => ?_⟩
  have pj := pos j hj
  have pi := pos i hi
  -- i stands left of j
  have hleft : (sp i).l + (sp i).w ≤ (sp j).l := by
    by_cases hx : (sp j).l < (sp i).l + (sp i).w
    · have d := dj i hi j hj hij
      have v := vj i hi hij h1 hx
      unfold Disj at d
      omega
    · omega
  obtain ⟨k, hk, ⟨k1, k2⟩, k3⟩ := exists_max (fun k => (sp k).l + (sp k).w ≤ (sp j).l ∧ (sp j).b < (sp k).b + (sp k).h) (fun i => (sp i).b + (sp i).h) left ⟨i, hi, hleft, h2⟩
  have k3 : ∀ b ∈ left, ((sp b).l + (sp b).w ≤ (sp j).l ∧ (sp j).b < (sp b).b + (sp b).h) → (sp b).b + (sp b).h ≤ (sp k).b + (sp k).h := k3
  have pk := pos k hk
  have nvk : ¬ vis k := fun v => by have := lj k hk v; omega
  have : ∃ m, m ∈ left ∧ m ≠ k ∧ (sp m).l < (sp k).l + (sp k).w ∧ (sp k).l < (sp m).l + (sp m).w ∧ (sp k).b + (sp k).h ≤ (sp m).b := by
    refine Classical.byContradiction fun hn => nvk fun m hm hmk a b c => hn ⟨m, hm, hmk, a, b, c⟩
  obtain ⟨m, hm, hmk, m1, m2, m3⟩ := this
  have pm := pos m hm
  by_cases hmr : (sp m).l + (sp m).w ≤ (sp j).l
  · have := k3 m hm ⟨hmr, by omega⟩
    omega
  · have hmj : m ≠ j := fun e => by subst e; omega
    have v := vj m hm hmj (by omega) (by omega)
    have d := dj m hm j hj hmj
    unfold Disj at d
    omega
def flip (s : Spot) : Spot := ⟨s.l, -(s.b + s.h), s.w, s.h⟩
theorem flip_disj {s t : Spot} (h : Disj s t) : Disj (flip s) (flip t) := by unfold Disj flip at *; simp only; omega
theorem ahead_true {s t : Spot} (h : Disj s t) : ahead true s t = true ↔ s.l < t.l + t.w ∧ t.b < s.b + s.h := by
  unfold ahead Disj at *
  simp only [if_true, Bool.and_eq_true, Bool.or_eq_true, Bool.not_eq_true', decide_eq_true_eq, decide_eq_false_iff_not]
  omega
theorem ahead_false {s t : Spot} (h : Disj s t) : ahead false s t = true ↔ s.l < t.l + t.w ∧ s.b < t.b + t.h := by
  unfold ahead Disj at *
  simp only [Bool.false_eq_true, if_false, Bool.and_eq_true, Bool.or_eq_true, Bool.not_eq_true', decide_eq_true_eq, decide_eq_false_iff_not]
  omega
theorem isFree_of {Q : List Spot} {z : Bool} {left : List Nat} {a : Nat} (h : ∀ o ∈ left, o ≠ a → ahead z (spAt Q o) (spAt Q a) = false) : isFree Q z left a = true := by
  unfold isFree
  rw [Bool.not_eq_true', List.any_eq_false]
  intro o ho
  rw [List.mem_filter] at ho
  rw [h o ho.1 (by simpa using ho.2)]; simp
theorem isFree_at {Q : List Spot} {z : Bool} {left : List Nat} {a : Nat} (h : isFree Q z left a = true) : ∀ o ∈ left, o ≠ a → ahead z (spAt Q o) (spAt Q a) = false := by
  unfold isFree at h
  rw [Bool.not_eq_true', List.any_eq_false] at h
  intro o ho hoa
  have := h o (List.mem_filter.mpr ⟨ho, by simpa using hoa⟩)
  simpa using this
theorem sortable_all {Q : List Spot} (h : PackOk Q) (z : Bool) : Sortable Q z := by
  have p := h.pk
  intro left ne nd hl
  have dj : ∀ a ∈ left, ∀ b ∈ left, a ≠ b → Disj (spAt Q a) (spAt Q b) := fun a ha b hb hab => p.dj a b (hl a ha) (hl b hb) hab
  have pos : ∀ a ∈ left, 1 ≤ (spAt Q a).w ∧ 1 ≤ (spAt Q a).h := fun a ha => p.pos a (hl a ha)
  cases z with
  | true =>
    obtain ⟨a, ha, hf⟩ := first_free (spAt Q) left pos dj ne
    refine ⟨a, ha, isFree_of fun o ho hoa => ?_⟩
    have := hf o ho hoa
    rw [← ahead_true (dj o ho a ha hoa)] at this
    simpa using this
  | false =>
    obtain ⟨a, ha, hf⟩ := first_free (fun i => flip (spAt Q i)) left pos (fun a ha b hb hab => flip_disj (dj a ha b hb hab)) ne
    refine ⟨a, ha, isFree_of fun o ho hoa => ?_⟩
    have h1 := hf o ho hoa
    have : ¬ ((spAt Q o).l < (spAt Q a).l + (spAt Q a).w ∧ (spAt Q o).b < (spAt Q a).b + (spAt Q a).h) := fun ⟨x, y⟩ => h1 ⟨x, by show -((spAt Q a).b + (spAt Q a).h) < -((spAt Q o).b + (spAt Q o).h) + (spAt Q o).h; omega⟩
    rw [← ahead_false (dj o ho a ha hoa)] at this
    simpa using this
/-! ### the sorted orders -/
theorem sortGo_spec {Q : List Spot} {z : Bool} (hs : Sortable Q z) : ∀ (k : Nat) (found : List Nat), found.Nodup → (∀ i ∈ found, i < Q.length) → k + found.length = Q.length →
    ∃ tail, sortGo Q z k found = found ++ tail ∧ (found ++ tail).Nodup ∧ (∀ i ∈ tail, i < Q.length) ∧ tail.length = k ∧ tail.Pairwise (fun i j => ahead z (spAt Q j) (spAt Q i) = false)
  | 0, found, nd, _, _ => ⟨[], by simp [sortGo], by simpa using nd, by simp, rfl, List.Pairwise.nil⟩
  | k + 1, found, nd, hf, hk => by
    have hlt : found.length < Q.length := by omega
    obtain ⟨a0, ha0, hfa0⟩ := hs _ (leftOf_ne hlt) (leftOf_nodup _ _) fun a ha => (leftOf_lt ha).1
    cases hq : (leftOf Q.length found).find? (isFree Q z (leftOf Q.length found)) with
    | none =>
      rw [List.find?_eq_none] at hq
      exact absurd hfa0 (by simpa using hq a0 ha0)
    | some a =>
      have hfree : isFree Q z (leftOf Q.length found) a = true := by have := List.find?_some hq; exact this
      have ha := List.mem_of_find?_eq_some hq
      have hal := leftOf_lt ha
      have nd' : (found ++ [a]).Nodup := List.nodup_append.mpr ⟨nd, by simp, fun x hx y hy => by simp at hy; subst hy; exact fun e => hal.2 (e ▸ hx)⟩
      obtain ⟨tail, e1, e2, e3, e4, e5⟩ := sortGo_spec hs k (found ++ [a]) nd' (fun i hi => by
        rcases List.mem_append.mp hi with h | h
        · exact hf i h
        · simp at h; subst h; exact hal.1) (by simp; omega)
      refine ⟨a :: tail, ?_, ?_, ?_, by simp [e4], ?_⟩
      · simp only [sortGo, hq]
        rw [e1]; simp
      · have : found ++ a :: tail = found ++ [a] ++ tail := by simp
        rw [this]; exact e2
      · intro i hi
        rcases List.mem_cons.mp hi with h | h
        · subst h; exact hal.1
        · exact e3 i h
      · refine List.pairwise_cons.mpr ⟨fun j hj => ?_, e5⟩
        have hja : j ∉ found ++ [a] := fun hm => by
          rw [List.nodup_append] at e2
          exact e2.2.2 j hm j hj rfl
        have hjf : j ∉ found := fun h => hja (by simp [h])
        have hjn : j ≠ a := fun h => hja (by simp [h])
        refine isFree_at hfree j ?_ hjn
        unfold leftOf
        rw [List.mem_filter]
        exact ⟨List.mem_range.mpr (e3 j hj), by simpa using hjf⟩
theorem sortBy_ord {Q : List Spot} (h : PackOk Q) (z : Bool) : IsOrd Q.length (sortBy Q z) ∧ (sortBy Q z).Pairwise (fun i j => ahead z (spAt Q j) (spAt Q i) = false) := by
  obtain ⟨tail, e1, e2, e3, e4, e5⟩ := sortGo_spec (sortable_all h z) Q.length [] List.nodup_nil (by simp) (by simp)
  unfold sortBy
  rw [e1]
  exact ⟨⟨by simpa using e4, by simpa using e3, by simpa using e2⟩, by simpa using e5⟩
theorem idx_lt_rel {R : Nat → Nat → Prop} {o : List Nat} (hp : o.Pairwise R) {i j : Nat} (hi : i ∈ o) (hj : j ∈ o) (hlt : o.idxOf i < o.idxOf j) : R i j := by
  have h1 := List.idxOf_lt_length_of_mem hi
  have h2 := List.idxOf_lt_length_of_mem hj
  have := List.pairwise_iff_getElem.mp hp (o.idxOf i) (o.idxOf j) h1 h2 hlt
  rwa [List.getElem_idxOf h1, List.getElem_idxOf h2] at this
end Fl

/-! FloMb -/
/-! The mathematics: a floor packed by two orders. -/
namespace Fl
theorem lookN_append {α : Type} {L M : List (Nat × α)} {k : Nat} (h : k ∉ L.map (·.1)) : lookN (L ++ M) k = lookN M k := by
  unfold lookN
  rw [List.find?_append]
  have : L.find? (fun p => decide (p.1 = k)) = none := by
    rw [List.find?_eq_none]
    intro p hp
    have : p.1 ≠ k := fun e => h (List.mem_map.mpr ⟨p, hp, e⟩)
    simpa using this
  rw [this]; rfl
theorem lookN_append_l {α : Type} {L M : List (Nat × α)} {k : Nat} (h : k ∈ L.map (·.1)) : lookN (L ++ M) k = lookN L k := by
  unfold lookN
  rw [List.find?_append]
  cases q : L.find? (fun p => decide (p.1 = k)) with
  | some p => rfl
  | none =>
    rw [List.find?_eq_none] at q
    obtain ⟨p, hp, e⟩ := List.mem_map.mp h
    exact absurd e (by simpa using q p hp)
theorem lookN_cons {α : Type} {L : List (Nat × α)} {k : Nat} {v : α} : lookN ((k, v) :: L) k = some v := by simp [lookN]
section
variable {rel : Nat → Nat → Bool} {sz : Nat → Int}
theorem look_prefix {xs ys : List Nat} {k : Nat} (h : k ∈ xs) : lookI (placed rel sz (xs ++ ys)) k = lookI (placed rel sz xs) k := by
  refine snoc_ind (P := fun ys => lookI (placed rel sz (xs ++ ys)) k = lookI (placed rel sz xs) k) (by simp) (fun ys b ih => ?_) ys
  rw [← List.append_assoc, placed_step]
  unfold lookI at ih ⊢
  rw [lookN_append_l (by rw [placed_keys]; exact List.mem_append_left _ h), ih]
/-- where a block stands: on the greatest edge of those before it -/
theorem placed_at {pre post : List Nat} {b : Nat} (nd : (pre ++ b :: post).Nodup) : lookI (placed rel sz (pre ++ b :: post)) b = maxL (0 :: (pre.filter fun o => rel o b).map fun o => lookI (placed rel sz (pre ++ b :: post)) o + sz o) := by
  have hb : b ∉ pre := fun h => by
    rw [List.nodup_append] at nd
    exact nd.2.2 b h b (by simp) rfl
  have e : pre ++ b :: post = (pre ++ [b]) ++ post := by simp
  have h1 : lookI (placed rel sz (pre ++ b :: post)) b = before rel sz (placed rel sz pre) b := by
    rw [e, look_prefix (by simp), placed_step]
    unfold lookI
    rw [lookN_append (by rw [placed_keys]; exact hb), lookN_cons]; rfl
  rw [h1, before, placed_keys]
  congr 2
  refine List.map_congr_left fun o ho => ?_
  have ho' : o ∈ pre := (List.mem_filter.mp ho).1
  rw [show pre ++ b :: post = pre ++ (b :: post) from rfl, look_prefix ho']
theorem split_at {o : List Nat} {b : Nat} (h : b ∈ o) : ∃ pre post, o = pre ++ b :: post := List.append_of_mem h
theorem idx_split {pre post : List Nat} {a b : Nat} (nd : (pre ++ b :: post).Nodup) (ha : a ∈ pre ++ b :: post) : (pre ++ b :: post).idxOf a < (pre ++ b :: post).idxOf b ↔ a ∈ pre := by
  have eb : (pre ++ b :: post).idxOf b = pre.length := idx_of nd (by simp)
  rw [eb]
  constructor
  · intro h
    have e := List.getElem_idxOf (List.idxOf_lt_length_of_mem ha)
    rw [List.getElem_append_left h] at e
    rw [← e]; exact List.getElem_mem h
  · intro h
    obtain ⟨i, hi, e⟩ := List.mem_iff_getElem.mp h
    have : (pre ++ b :: post)[i]? = some a := by rw [List.getElem?_append_left hi, List.getElem?_eq_getElem hi, e]
    rw [idx_of nd this]; exact hi
theorem placed_nn {second : List Nat} (nd : second.Nodup) {b : Nat} (hb : b ∈ second) : 0 ≤ lookI (placed rel sz second) b := by
  obtain ⟨pre, post, rfl⟩ := split_at hb
  rw [placed_at nd]
  exact le_maxL (by simp)
theorem placed_ge {second : List Nat} (nd : second.Nodup) {a b : Nat} (ha : a ∈ second) (hb : b ∈ second) (hlt : second.idxOf a < second.idxOf b) (hr : rel a b = true) : lookI (placed rel sz second) a + sz a ≤ lookI (placed rel sz second) b := by
  obtain ⟨pre, post, rfl⟩ := split_at hb
  rw [placed_at nd (b := b)]
  refine le_maxL (List.mem_cons_of_mem _ (List.mem_map.mpr ⟨a, List.mem_filter.mpr ⟨(idx_split nd ha).mp hlt, hr⟩, rfl⟩))
/-- .. no further than any floor that obeys the relation -/
theorem placed_le {second : List Nat} (nd : second.Nodup) {F : Nat → Int} (h0 : ∀ b ∈ second, 0 ≤ F b) (hF : ∀ a ∈ second, ∀ b ∈ second, second.idxOf a < second.idxOf b → rel a b = true → F a + sz a ≤ F b) : ∀ b ∈ second, lookI (placed rel sz second) b ≤ F b := by
  have : ∀ n, ∀ b ∈ second, second.idxOf b < n → lookI (placed rel sz second) b ≤ F b := by
    intro n
    induction n with
    | zero => intro b _ h; omega
    | succ n ih =>
      intro b hb hn
      obtain ⟨pre, post, e⟩ := split_at hb
      subst e
      rw [placed_at nd]
      have hm := maxL_mem (ns := 0 :: (pre.filter fun o => rel o b).map fun o => lookI (placed rel sz (pre ++ b :: post)) o + sz o) (by simp)
      rcases List.mem_cons.mp hm with e | e
      · rw [e]; exact h0 b hb
      · obtain ⟨o, ho, e⟩ := List.mem_map.mp e
        rw [← e]
        obtain ⟨ho1, ho2⟩ := List.mem_filter.mp ho
        have hom : o ∈ pre ++ b :: post := List.mem_append_left _ ho1
        have hlt := (idx_split nd hom).mpr ho1
        have h1 := ih o hom (by omega)
        have h2 := hF o hom b hb hlt ho2
        omega
  exact fun b hb => this _ b hb (Nat.lt_succ_self _)
/-- .. a bound by the number of those before it -/
theorem placed_bd {second : List Nat} (nd : second.Nodup) {m : Int} (hm : 0 ≤ m) (hs : ∀ b ∈ second, sz b ≤ m) (tr : ∀ a b c, rel a b = true → rel b c = true → rel a c = true) :
    ∀ pre post b, second = pre ++ b :: post → lookI (placed rel sz second) b ≤ m * (pre.filter fun o => rel o b).length := by
  have : ∀ n, ∀ pre post b, second = pre ++ b :: post → pre.length < n → lookI (placed rel sz second) b ≤ m * (pre.filter fun o => rel o b).length := by
    intro n
    induction n with
    | zero => intro pre post b _ h; omega
    | succ n ih =>
      intro pre post b e hn
      have nd' := nd
      rw [e] at nd'
      have hp := placed_at (rel := rel) (sz := sz) nd'
      rw [← e] at hp
      rw [hp]
      have hmm := maxL_mem (ns := 0 :: (pre.filter fun o => rel o b).map fun o => lookI (placed rel sz second) o + sz o) (by simp)
      rcases List.mem_cons.mp hmm with e2 | e2
      · rw [e2]; exact Int.mul_nonneg hm (by omega)
      · obtain ⟨o, ho, e2⟩ := List.mem_map.mp e2
        rw [← e2]
        obtain ⟨ho1, ho2⟩ := List.mem_filter.mp ho
        obtain ⟨pre1, post1, e3⟩ := split_at ho1
        have h1 := ih pre1 (post1 ++ b :: post) o (by rw [e, e3]; simp) (by rw [e3] at hn; simp at hn; omega)
        have h2 := hs o (by rw [e]; exact List.mem_append_left _ ho1)
        have h3 : (pre1.filter fun x => rel x o).length + 1 ≤ (pre.filter fun x => rel x b).length := by
          rw [e3, List.filter_append, List.filter_cons_of_pos (p := fun x => rel x b) ho2, List.length_append, List.length_cons]
          have : (pre1.filter fun x => rel x o).length ≤ (pre1.filter fun x => rel x b).length := by
            rw [← List.countP_eq_length_filter, ← List.countP_eq_length_filter]
            exact List.countP_mono_left fun x _ hx => tr x o b hx ho2
          omega
        have h4 : m * ((pre1.filter fun x => rel x o).length + 1 : Nat) ≤ m * ((pre.filter fun x => rel x b).length : Nat) := Int.mul_le_mul_of_nonneg_left (by omega) hm
        have h5 : m * ((pre1.filter fun x => rel x o).length + 1 : Nat) = m * (pre1.filter fun x => rel x o).length + m := by
          rw [Int.natCast_add, Int.mul_add]; simp
        omega
  exact fun pre post b e => this _ pre post b e (Nat.lt_succ_self _)
end
theorem relX_tr {f : List Nat} : ∀ a b c, relX f a b = true → relX f b c = true → relX f a c = true := fun a b c h g => by
  unfold relX at *; simp at *; omega
theorem relY_tr {f : List Nat} : ∀ a b c, relY f a b = true → relY f b c = true → relY f a c = true := fun a b c h g => by
  unfold relY at *; simp at *; omega
theorem idx_inj {o : List Nat} {a b : Nat} (ha : a ∈ o) (h : o.idxOf a = o.idxOf b) : a = b := by
  have h1 := List.idxOf_lt_length_of_mem ha
  have e1 := List.getElem_idxOf h1
  have h2 : o.idxOf b < o.length := by rw [← h]; exact h1
  have e2 := List.getElem_idxOf h2
  rw [← e1, ← e2]
  congr 1
section
variable {zs : List Sz} {f s : List Nat}
theorem packed_sp {i : Nat} (hi : i < zs.length) : spAt (packedIn zs f s) i = ⟨lookI (placed (relX f) (fun o => (szAt zs o).1) s) i, lookI (placed (relY f) (fun o => (szAt zs o).2) s) i, (szAt zs i).1, (szAt zs i).2⟩ := by
  unfold spAt packedIn; simp [hi]
theorem few_at {m : Int} (h : Few m zs) {i : Nat} (hi : i < zs.length) : 1 ≤ (szAt zs i).1 ∧ (szAt zs i).1 ≤ m ∧ 1 ≤ (szAt zs i).2 ∧ (szAt zs i).2 ≤ m := h _ (szAt_mem hi)
theorem packed_pk (hz : Few 9 zs) (h1 : IsOrd zs.length f) (h2 : IsOrd zs.length s) : Pk zs.length (spAt (packedIn zs f s)) := by
  refine ⟨fun i hi => ?_, fun i hi => ?_, fun i j hi hj hij => ?_⟩
  · rw [packed_sp hi]; have := few_at hz hi; exact ⟨this.1, this.2.2.1⟩
  · rw [packed_sp hi]; exact ⟨placed_nn h2.2.2 (ord_mem h2 hi), placed_nn h2.2.2 (ord_mem h2 hi)⟩
  · have key : ∀ i j, i < zs.length → j < zs.length → s.idxOf i < s.idxOf j → Disj (spAt (packedIn zs f s) i) (spAt (packedIn zs f s) j) := fun i j hi hj hlt => by
      have hne : i ≠ j := fun e => by subst e; omega
      have hf : f.idxOf i ≠ f.idxOf j := fun e => hne (idx_inj (ord_mem h1 hi) e)
      rw [packed_sp hi, packed_sp hj]
      rcases Nat.lt_or_gt_of_ne hf with h | h
      · exact .inl (placed_ge (rel := relX f) h2.2.2 (ord_mem h2 hi) (ord_mem h2 hj) hlt (by simpa [relX] using h))
      · exact .inr (.inr (.inl (placed_ge (rel := relY f) h2.2.2 (ord_mem h2 hi) (ord_mem h2 hj) hlt (by simpa [relY] using h))))
    have hs : s.idxOf i ≠ s.idxOf j := fun e => hij (idx_inj (ord_mem h2 hi) e)
    rcases Nat.lt_or_gt_of_ne hs with h | h
    · exact key i j hi hj h
    · exact (key j i hj hi h).symm
/-- the two places of a block: at most 9 times its place in the second order -/
theorem packed_sum (hz : Few 9 zs) (h1 : IsOrd zs.length f) (h2 : IsOrd zs.length s) {i : Nat} (hi : i < zs.length) : (spAt (packedIn zs f s) i).l + (spAt (packedIn zs f s) i).b ≤ 9 * (s.idxOf i : Nat) := by
  rw [packed_sp hi]
  obtain ⟨pre, post, e⟩ := split_at (ord_mem h2 hi)
  have ei : s.idxOf i = pre.length := by rw [e]; exact idx_of (by rw [← e]; exact h2.2.2) (by simp)
  have b1 := placed_bd (rel := relX f) (sz := fun o => (szAt zs o).1) h2.2.2 (m := 9) (by decide) (fun b hb => (few_at hz (h2.2.1 b hb)).2.1) relX_tr pre post i e
  have b2 := placed_bd (rel := relY f) (sz := fun o => (szAt zs o).2) h2.2.2 (m := 9) (by decide) (fun b hb => (few_at hz (h2.2.1 b hb)).2.2.2) relY_tr pre post i e
  have hc : (pre.filter fun o => relX f o i).length + (pre.filter fun o => relY f o i).length ≤ pre.length := by
    have : ∀ xs : List Nat, (xs.filter fun o => relX f o i).length + (xs.filter fun o => relY f o i).length ≤ xs.length := by
      intro xs
      induction xs with
      | nil => simp
      | cons x xs ih =>
        by_cases hx : relX f x i = true
        · have hy : ¬ relY f x i = true := fun hy => by unfold relX relY at *; simp at *; omega
          rw [List.filter_cons_of_pos (p := fun o => relX f o i) hx, List.filter_cons_of_neg (p := fun o => relY f o i) hy]; simp; omega
        · rw [List.filter_cons_of_neg (p := fun o => relX f o i) hx]
          by_cases hy : relY f x i = true
          · rw [List.filter_cons_of_pos (p := fun o => relY f o i) hy]; simp; omega
          · rw [List.filter_cons_of_neg (p := fun o => relY f o i) hy]; simp; omega
    exact this pre
  rw [ei]
  show lookI _ i + lookI _ i ≤ _
  omega
theorem packed_ok (hz : Few 9 zs) (hl : 1 ≤ zs.length) (h8 : zs.length ≤ 8) (h1 : IsOrd zs.length f) (h2 : IsOrd zs.length s) : PackOk (packedIn zs f s) := by
  have p := packed_pk hz h1 h2
  have el := packedIn_len zs f s
  refine packOk_of (by omega) (by omega) (by rw [el]; exact p) fun i hi => ?_
  rw [el] at hi
  have nn := p.nn i hi
  have sm := packed_sum hz h1 h2 hi
  have hidx : s.idxOf i < 8 := by
    have := List.idxOf_lt_length_of_mem (ord_mem h2 hi)
    have := h2.1
    omega
  have sz := few_at hz hi
  have ew : (spAt (packedIn zs f s) i).w = (szAt zs i).1 := by rw [packed_sp hi]
  have eh : (spAt (packedIn zs f s) i).h = (szAt zs i).2 := by rw [packed_sp hi]
  omega
end
/-- the orders of a floor pack its blocks no further -/
theorem under_all {zs : List Sz} {Q : List Spot} (hQ : PackOk Q) (hlen : Q.length = zs.length) (hsz : ∀ i, i < zs.length → (spAt Q i).w = (szAt zs i).1 ∧ (spAt Q i).h = (szAt zs i).2) :
    ∀ i, i < zs.length → (spAt (packedIn zs (sortBy Q true) (sortBy Q false)) i).l ≤ (spAt Q i).l ∧ (spAt (packedIn zs (sortBy Q true) (sortBy Q false)) i).b ≤ (spAt Q i).b := by
  obtain ⟨o1, p1⟩ := sortBy_ord hQ true
  obtain ⟨o2, p2⟩ := sortBy_ord hQ false
  have pk := hQ.pk
  have lt2 : ∀ b ∈ sortBy Q false, b < zs.length := fun b hb => by rw [← hlen]; exact o2.2.1 b hb
  have mem1 : ∀ b, b < zs.length → b ∈ sortBy Q true := fun b hb => ord_mem o1 (by rw [hlen]; exact hb)
  have ne : ∀ {a b : Nat}, (sortBy Q false).idxOf a < (sortBy Q false).idxOf b → a ≠ b := fun h e => by subst e; omega
  -- a before b in the second order
  have s2 : ∀ a b, a < zs.length → b < zs.length → (sortBy Q false).idxOf a < (sortBy Q false).idxOf b → ¬ ((spAt Q b).l < (spAt Q a).l + (spAt Q a).w ∧ (spAt Q b).b < (spAt Q a).b + (spAt Q a).h) := fun a b ha hb h => by
    have := idx_lt_rel p2 (ord_mem o2 (by rw [hlen]; exact ha)) (ord_mem o2 (by rw [hlen]; exact hb)) h
    rw [← ahead_false (pk.dj b a (by omega) (by omega) (ne h).symm)]
    simpa using this
  have s1 : ∀ a b, a < zs.length → b < zs.length → a ≠ b → (sortBy Q true).idxOf a < (sortBy Q true).idxOf b → ¬ ((spAt Q b).l < (spAt Q a).l + (spAt Q a).w ∧ (spAt Q a).b < (spAt Q b).b + (spAt Q b).h) := fun a b ha hb hab h => by
    have := idx_lt_rel p1 (mem1 a ha) (mem1 b hb) h
    rw [← ahead_true (pk.dj b a (by omega) (by omega) hab.symm)]
    simpa using this
  intro i hi
  rw [packed_sp hi]
  have hi2 := ord_mem o2 (show i < Q.length by rw [hlen]; exact hi)
  refine ⟨placed_le (F := fun i => (spAt Q i).l) o2.2.2 (fun b hb => (pk.nn b (by rw [hlen]; exact lt2 b hb)).1) (fun a ha b hb hab hr => ?_) i hi2, placed_le (F := fun i => (spAt Q i).b) o2.2.2 (fun b hb => (pk.nn b (by rw [hlen]; exact lt2 b hb)).2) (fun a ha b hb hab hr => ?_) i hi2⟩
  · have al := lt2 a ha
    have bl := lt2 b hb
    have h1 := s2 a b al bl hab
    have h2 := s1 a b al bl (ne hab) (by simpa [relX] using hr)
    have pa := pk.pos a (by omega)
    have pb := pk.pos b (by omega)
    have := (hsz a al).1
    show (spAt Q a).l + (szAt zs a).1 ≤ (spAt Q b).l
    omega
  · have al := lt2 a ha
    have bl := lt2 b hb
    have h1 := s2 a b al bl hab
    have h2 := s1 b a bl al (ne hab).symm (by simpa [relY] using hr)
    have pa := pk.pos a (by omega)
    have pb := pk.pos b (by omega)
    have := (hsz a al).2
    show (spAt Q a).b + (szAt zs a).2 ≤ (spAt Q b).b
    omega
end Fl

/-! FloMc -/
/-! The mathematics: slides. -/
namespace Fl
/-- Q' stands nowhere further than Q, the same blocks -/
structure Le (Q' Q : List Spot) : Prop where
  len : Q'.length = Q.length
  le : ∀ i, i < Q.length → (spAt Q' i).l ≤ (spAt Q i).l ∧ (spAt Q' i).b ≤ (spAt Q i).b ∧ (spAt Q' i).w = (spAt Q i).w ∧ (spAt Q' i).h = (spAt Q i).h
theorem Le.refl (Q : List Spot) : Le Q Q := ⟨rfl, fun i _ => ⟨Int.le_refl _, Int.le_refl _, rfl, rfl⟩⟩
theorem Le.trans {A B C : List Spot} (h : Le A B) (g : Le B C) : Le A C := ⟨h.len.trans g.len, fun i hi => by
  have h1 := h.le i (by rw [g.len]; exact hi)
  have h2 := g.le i hi
  exact ⟨by omega, by omega, h1.2.2.1.trans h2.2.2.1, h1.2.2.2.trans h2.2.2.2⟩⟩
theorem spots_ext {A B : List Spot} (hl : A.length = B.length) (h : ∀ i, i < B.length → spAt A i = spAt B i) : A = B := by
  refine List.ext_getElem hl fun i h1 h2 => ?_
  have := h i h2
  unfold spAt at this
  simpa [h1, h2] using this
theorem spot_eq {s t : Spot} (h1 : s.l = t.l) (h2 : s.b = t.b) (h3 : s.w = t.w) (h4 : s.h = t.h) : s = t := by
  cases s; cases t; simp at *; exact ⟨h1, h2, h3, h4⟩
def phi (Q : List Spot) : Int := ((List.range Q.length).map fun i => (spAt Q i).l + (spAt Q i).b).sum
theorem sum_le {f g : Nat → Int} : ∀ xs : List Nat, (∀ i ∈ xs, f i ≤ g i) → (xs.map f).sum ≤ (xs.map g).sum ∧ ((xs.map f).sum = (xs.map g).sum → ∀ i ∈ xs, f i = g i)
  | [], _ => ⟨by simp, fun _ i hi => by simp at hi⟩
  | x :: xs, h => by
    have h1 := h x (by simp)
    obtain ⟨h2, h3⟩ := sum_le xs fun i hi => h i (by simp [hi])
    simp only [List.map_cons, List.sum_cons]
    refine ⟨by omega, fun e i hi => ?_⟩
    have e2 : (xs.map f).sum = (xs.map g).sum := by omega
    rcases List.mem_cons.mp hi with z | z
    · rw [z]; omega
    · exact h3 e2 i z
theorem Le.phi {A B : List Spot} (h : Le A B) : phi A ≤ phi B := by
  unfold Fl.phi
  rw [h.len]
  refine (sum_le _ fun i hi => ?_).1
  have := h.le i (List.mem_range.mp hi)
  omega
theorem Le.eq {A B : List Spot} (h : Le A B) (e : Fl.phi A = Fl.phi B) : A = B := by
  unfold Fl.phi at e
  rw [h.len] at e
  have := (sum_le (f := fun i => (spAt A i).l + (spAt A i).b) (g := fun i => (spAt B i).l + (spAt B i).b) (List.range B.length) fun i hi => by
    have := h.le i (List.mem_range.mp hi)
    omega).2 e
  refine spots_ext h.len fun i hi => ?_
  have h1 := this i (List.mem_range.mpr hi)
  have h2 := h.le i hi
  exact spot_eq (by omega) (by omega) h2.2.2.1 h2.2.2.2
theorem phi_nn {Q : List Spot} (p : Pk Q.length (spAt Q)) : 0 ≤ phi Q := by
  unfold phi
  have h := (sum_le (f := fun _ => (0 : Int)) (g := fun i => (spAt Q i).l + (spAt Q i).b) (List.range Q.length) fun i hi => by
    have := p.nn i (List.mem_range.mp hi)
    omega).1
  have : ((List.range Q.length).map fun _ => (0 : Int)).sum = 0 := by
    have : ∀ xs : List Nat, (xs.map fun _ => (0 : Int)).sum = 0 := by
      intro xs
      induction xs with
      | nil => rfl
      | cons x xs ih => simp [ih]
    exact this _
  omega
/-! ### one slide -/
theorem slide_other {Q : List Spot} {a i : Nat} {z : Bool} (h : i ≠ a) : spAt (slideP Q a z) i = spAt Q i := by
  unfold slideP spAt
  rw [List.getElem?_set_ne (Ne.symm h)]
theorem slide_self {Q : List Spot} {a : Nat} {z : Bool} (h : a < Q.length) : spAt (slideP Q a z) a = slideS z (spAt Q a) (others Q a) := by
  unfold slideP
  exact spAt_of (List.getElem?_set_self h)
theorem mem_others {Q : List Spot} {a : Nat} {o : Spot} : o ∈ others Q a ↔ ∃ k, k < Q.length ∧ k ≠ a ∧ o = spAt Q k := by
  unfold others
  constructor
  · intro h
    obtain ⟨k, hk, rfl⟩ := List.mem_map.mp h
    obtain ⟨h1, h2⟩ := List.mem_filter.mp hk
    exact ⟨k, List.mem_range.mp h1, by simpa using h2, rfl⟩
  · rintro ⟨k, h1, h2, rfl⟩
    exact List.mem_map.mpr ⟨k, List.mem_filter.mpr ⟨List.mem_range.mpr h1, by simpa using h2⟩, rfl⟩
theorem reach_nn (z : Bool) (s : Spot) (r : List Spot) : 0 ≤ maxL (reachL z s r) := le_maxL (by unfold reachL; simp)
theorem reach_le {z : Bool} {s : Spot} {r : List Spot} (h : 0 ≤ lowc z s) : maxL (reachL z s r) ≤ lowc z s := by
  have := maxL_mem (ns := reachL z s r) (by unfold reachL; simp)
  unfold reachL at this
  rcases List.mem_cons.mp this with e | e
  · unfold reachL; rw [e]; exact h
  · obtain ⟨o, ho, e⟩ := List.mem_map.mp e
    unfold reachL; rw [← e]
    have := (List.mem_filter.mp ho).2
    simp at this
    exact this.2
theorem reach_ge {z : Bool} {s o : Spot} {r : List Spot} (ho : o ∈ r) (hm : meets z o s = true) (he : edge z o ≤ lowc z s) : edge z o ≤ maxL (reachL z s r) := by
  refine le_maxL ?_
  unfold reachL
  refine List.mem_cons_of_mem _ (List.mem_map.mpr ⟨o, List.mem_filter.mpr ⟨ho, ?_⟩, rfl⟩)
  rw [hm]; simp [he]
theorem slide_le {Q : List Spot} (p : Pk Q.length (spAt Q)) (a : Nat) (z : Bool) : Le (slideP Q a z) Q := by
  refine ⟨slideP_len _ _ _, fun i hi => ?_⟩
  by_cases h : i = a
  · subst h
    rw [slide_self hi]
    have nn := p.nn i hi
    cases z with
    | true =>
      have := reach_le (z := true) (s := spAt Q i) (r := others Q i) (by show 0 ≤ (spAt Q i).l; exact nn.1)
      exact ⟨this, Int.le_refl _, rfl, rfl⟩
    | false =>
      have := reach_le (z := false) (s := spAt Q i) (r := others Q i) (by show 0 ≤ (spAt Q i).b; exact nn.2)
      exact ⟨Int.le_refl _, this, rfl, rfl⟩
  · rw [slide_other h]; exact ⟨Int.le_refl _, Int.le_refl _, rfl, rfl⟩
theorem slide_pk {Q : List Spot} (p : Pk Q.length (spAt Q)) (a : Nat) (z : Bool) : Pk (slideP Q a z).length (spAt (slideP Q a z)) := by
  have le := slide_le p a z
  rw [slideP_len]
  have key : ∀ j, a < Q.length → j < Q.length → j ≠ a → Disj (spAt (slideP Q a z) a) (spAt Q j) := fun j ha hj hja => by
    have d := p.dj a j ha hj (Ne.symm hja)
    have pa := p.pos a ha
    have pj := p.pos j hj
    have l1 := le.le a ha
    rw [slide_self ha] at l1 ⊢
    have hmo : spAt Q j ∈ others Q a := mem_others.mpr ⟨j, hj, hja, rfl⟩
    cases z with
    | true =>
      have e1 : slideS true (spAt Q a) (others Q a) = ⟨maxL (reachL true (spAt Q a) (others Q a)), (spAt Q a).b, (spAt Q a).w, (spAt Q a).h⟩ := rfl
      rw [e1] at l1 ⊢
      by_cases hm : meets true (spAt Q j) (spAt Q a) = true
      · have hm' : (spAt Q j).b < (spAt Q a).b + (spAt Q a).h ∧ (spAt Q a).b < (spAt Q j).b + (spAt Q j).h := by simpa [meets] using hm
        unfold Disj at d ⊢
        by_cases he : (spAt Q j).l + (spAt Q j).w ≤ (spAt Q a).l
        · have := reach_ge (z := true) hmo hm he
          have : (spAt Q j).l + (spAt Q j).w ≤ maxL (reachL true (spAt Q a) (others Q a)) := this
          exact .inr (.inl this)
        · left
          show maxL (reachL true (spAt Q a) (others Q a)) + (spAt Q a).w ≤ _
          have l2 : maxL (reachL true (spAt Q a) (others Q a)) ≤ (spAt Q a).l := l1.1
          omega
      · have hm' : ¬ ((spAt Q j).b < (spAt Q a).b + (spAt Q a).h ∧ (spAt Q a).b < (spAt Q j).b + (spAt Q j).h) := fun h => hm (by simpa [meets] using h)
        unfold Disj
        show _ ∨ _ ∨ (spAt Q a).b + (spAt Q a).h ≤ _ ∨ _ ≤ (spAt Q a).b
        omega
    | false =>
      have e1 : slideS false (spAt Q a) (others Q a) = ⟨(spAt Q a).l, maxL (reachL false (spAt Q a) (others Q a)), (spAt Q a).w, (spAt Q a).h⟩ := rfl
      rw [e1] at l1 ⊢
      by_cases hm : meets false (spAt Q j) (spAt Q a) = true
      · have hm' : (spAt Q j).l < (spAt Q a).l + (spAt Q a).w ∧ (spAt Q a).l < (spAt Q j).l + (spAt Q j).w := by simpa [meets] using hm
        unfold Disj at d ⊢
        by_cases he : (spAt Q j).b + (spAt Q j).h ≤ (spAt Q a).b
        · have := reach_ge (z := false) hmo hm he
          have : (spAt Q j).b + (spAt Q j).h ≤ maxL (reachL false (spAt Q a) (others Q a)) := this
          exact .inr (.inr (.inr this))
        · right; right; left
          show maxL (reachL false (spAt Q a) (others Q a)) + (spAt Q a).h ≤ _
          have l2 : maxL (reachL false (spAt Q a) (others Q a)) ≤ (spAt Q a).b := l1.2.1
          omega
      · have hm' : ¬ ((spAt Q j).l < (spAt Q a).l + (spAt Q a).w ∧ (spAt Q a).l < (spAt Q j).l + (spAt Q j).w) := fun h => hm (by simpa [meets] using h)
        unfold Disj
        show (spAt Q a).l + (spAt Q a).w ≤ _ ∨ _ ≤ (spAt Q a).l ∨ _
        omega
  refine ⟨fun i hi => ?_, fun i hi => ?_, fun i j hi hj hij => ?_⟩
  · have := le.le i hi
    have := p.pos i hi
    omega
  · by_cases h : i = a
    · subst h
      rw [slide_self hi]
      have nn := p.nn i hi
      have r := reach_nn z (spAt Q i) (others Q i)
      cases z with
      | true => exact ⟨r, nn.2⟩
      | false => exact ⟨nn.1, r⟩
    · rw [slide_other h]; exact p.nn i hi
  · by_cases h1 : i = a
    · subst h1
      rw [slide_other (Ne.symm hij)]
      exact key j hi hj (Ne.symm hij)
    · rw [slide_other h1]
      by_cases h2 : j = a
      · subst h2; exact (key i hj hi h1).symm
      · rw [slide_other h2]; exact p.dj i j hi hj hij
theorem slideA_pk {Q : List Spot} (p : Pk Q.length (spAt Q)) (a : Nat) : Pk (slideA Q a).length (spAt (slideA Q a)) ∧ Le (slideA Q a) Q := by
  have p1 := slide_pk p a true
  exact ⟨slide_pk p1 a false, (slide_le p1 a false).trans (slide_le p a true)⟩
theorem turnK_pk {Q : List Spot} (p : Pk Q.length (spAt Q)) : ∀ k, Pk (turnK Q k).length (spAt (turnK Q k)) ∧ Le (turnK Q k) Q
  | 0 => ⟨p, Le.refl Q⟩
  | k + 1 => by
    obtain ⟨h1, h2⟩ := turnK_pk p k
    rw [turnK_succ]
    obtain ⟨h3, h4⟩ := slideA_pk h1 k
    exact ⟨h3, h4.trans h2⟩
theorem turnK_mono {Q : List Spot} (p : Pk Q.length (spAt Q)) {k : Nat} : ∀ d, Le (turnK Q (k + d)) (turnK Q k)
  | 0 => Le.refl _
  | d + 1 => by
    rw [← Nat.add_assoc, turnK_succ]
    exact (slideA_pk (turnK_pk p (k + d)).1 (k + d)).2.trans (turnK_mono p d)
/-- a floor that a turn leaves: each slide leaves it -/
theorem turn_fix {Q : List Spot} (p : Pk Q.length (spAt Q)) (h : turnP Q = Q) {a : Nat} (ha : a < Q.length) (z : Bool) : slideP Q a z = Q := by
  have hk : ∀ k, k ≤ Q.length → turnK Q k = Q := fun k hk => by
    have l1 := (turnK_pk p k).2
    have l2 := turnK_mono p (k := k) (Q.length - k)
    rw [show k + (Q.length - k) = Q.length from by omega] at l2
    have e : turnK Q Q.length = Q := h
    rw [e] at l2
    exact l1.eq (Int.le_antisymm l1.phi l2.phi)
  have e1 : slideA Q a = Q := by
    have := hk (a + 1) ha
    rw [turnK_succ, hk a (by omega)] at this
    exact this
  have p1 := slide_pk p a true
  have l1 := slide_le p a true
  have l2 := slide_le p1 a false
  have e2 : slideP (slideP Q a true) a false = Q := e1
  rw [e2] at l2
  have e3 : slideP Q a true = Q := l1.eq (Int.le_antisymm l1.phi l2.phi)
  cases z with
  | true => exact e3
  | false => rw [e3] at e2; exact e2
theorem held_of {Q : List Spot} (p : Pk Q.length (spAt Q)) (h : turnP Q = Q) : isCompact Q = true := by
  unfold isCompact
  rw [List.all_eq_true]
  intro s hs
  obtain ⟨a, ha, rfl⟩ := List.mem_iff_getElem.mp hs
  have e : spAt Q a = Q[a] := by unfold spAt; simp [ha]
  rw [← e, Bool.and_eq_true]
  constructor
  · have h1 := slide_self (z := true) ha
    rw [turn_fix p h ha true] at h1
    have h2 : (spAt Q a).l = maxL (reachL true (spAt Q a) (others Q a)) := congrArg Spot.l h1
    have hm := maxL_mem (ns := reachL true (spAt Q a) (others Q a)) (by unfold reachL; simp)
    rw [← h2] at hm
    unfold reachL at hm
    unfold heldX
    rcases List.mem_cons.mp hm with e0 | e0
    · rw [e0]; rfl
    · obtain ⟨o, ho, e1⟩ := List.mem_map.mp e0
      obtain ⟨g1, g2⟩ := List.mem_filter.mp ho
      obtain ⟨k, hk, _, rfl⟩ := mem_others.mp g1
      rw [Bool.or_eq_true]
      right
      rw [List.any_eq_true]
      refine ⟨_, spAt_mem hk, ?_⟩
      have e1 : (spAt Q k).l + (spAt Q k).w = (spAt Q a).l := e1
      simp [meets] at g2
      simp
      exact ⟨⟨e1, g2.1.1⟩, g2.1.2⟩
  · have h1 := slide_self (z := false) ha
    rw [turn_fix p h ha false] at h1
    have h2 : (spAt Q a).b = maxL (reachL false (spAt Q a) (others Q a)) := congrArg Spot.b h1
    have hm := maxL_mem (ns := reachL false (spAt Q a) (others Q a)) (by unfold reachL; simp)
    rw [← h2] at hm
    unfold reachL at hm
    unfold heldY
    rcases List.mem_cons.mp hm with e0 | e0
    · rw [e0]; rfl
    · obtain ⟨o, ho, e1⟩ := List.mem_map.mp e0
      obtain ⟨g1, g2⟩ := List.mem_filter.mp ho
      obtain ⟨k, hk, _, rfl⟩ := mem_others.mp g1
      rw [Bool.or_eq_true]
      right
      rw [List.any_eq_true]
      refine ⟨_, spAt_mem hk, ?_⟩
      have e1 : (spAt Q k).b + (spAt Q k).h = (spAt Q a).b := e1
      simp [meets] at g2
      simp
      exact ⟨⟨e1, g2.1.1⟩, g2.1.2⟩
theorem iterT_pk {Q : List Spot} (p : Pk Q.length (spAt Q)) : ∀ m, Pk (iterT Q m).length (spAt (iterT Q m)) ∧ Le (iterT Q m) Q
  | 0 => ⟨p, Le.refl Q⟩
  | m + 1 => by
    obtain ⟨h1, h2⟩ := iterT_pk p m
    obtain ⟨h3, h4⟩ := turnK_pk h1 (iterT Q m).length
    exact ⟨h3, h4.trans h2⟩
theorem loop_ends {Q : List Spot} (p : Pk Q.length (spAt Q)) (hphi : phi Q ≤ 189) : ∃ m, m < 200 ∧ turnP (iterT Q m) = iterT Q m := by
  refine Classical.byContradiction fun hn => ?_
  have hne : ∀ m, m < 200 → turnP (iterT Q m) ≠ iterT Q m := fun m hm e => hn ⟨m, hm, e⟩
  have : ∀ m, m ≤ 200 → phi (iterT Q m) + m ≤ phi Q := by
    intro m
    induction m with
    | zero => intro _; show phi Q + ((0 : Nat) : Int) ≤ phi Q; omega
    | succ m ih =>
      intro hm
      have h1 := ih (by omega)
      have pm := (iterT_pk p m).1
      have l : Le (turnP (iterT Q m)) (iterT Q m) := (turnK_pk pm (iterT Q m).length).2
      have h2 := l.phi
      have h3 : phi (turnP (iterT Q m)) ≠ phi (iterT Q m) := fun e => hne m (by omega) (l.eq e)
      show phi (turnP (iterT Q m)) + ((m + 1 : Nat) : Int) ≤ phi Q
      omega
  have h1 := this 200 (Nat.le_refl _)
  have h2 := phi_nn (iterT_pk p 200).1
  omega
theorem map_idx {s : List Nat} (nd : s.Nodup) : s.map (fun i => s.idxOf i) = List.range s.length := by
  refine List.ext_getElem (by simp) fun i h1 h2 => ?_
  have hi : i < s.length := by simpa using h1
  simp
  exact idx_of nd (List.getElem?_eq_getElem hi)
theorem packed_phi {zs : List Sz} {f s : List Nat} (hz : Few 9 zs) (h7 : zs.length ≤ 7) (h1 : IsOrd zs.length f) (h2 : IsOrd zs.length s) : phi (packedIn zs f s) ≤ 189 := by
  unfold phi
  rw [packedIn_len]
  have a := (sum_le (f := fun i => (spAt (packedIn zs f s) i).l + (spAt (packedIn zs f s) i).b) (g := fun i => 9 * ((s.idxOf i : Nat) : Int)) (List.range zs.length) fun i hi => packed_sum hz h1 h2 (List.mem_range.mp hi)).1
  have e : ∀ xs : List Nat, (xs.map fun i => 9 * ((s.idxOf i : Nat) : Int)).sum = 9 * (((xs.map fun i => s.idxOf i).sum : Nat) : Int) := by
    intro xs
    induction xs with
    | nil => simp
    | cons x xs ih => simp only [List.map_cons, List.sum_cons, ih]; omega
  rw [e] at a
  have hp : (List.range zs.length).Perm s := (ord_perm h2).symm
  have e2 : ((List.range zs.length).map fun i => s.idxOf i).sum = (s.map fun i => s.idxOf i).sum := (hp.map _).sum_nat
  rw [e2, map_idx h2.2.2, h2.1] at a
  have e3 : ∀ n, n ≤ 7 → (List.range n).sum ≤ 21 := by decide
  have := e3 zs.length h7
  omega
/-! ### compact, told twice -/
theorem compact_same {Q : List Spot} (hQ : PackOk Q) : isCompact Q = lawCompact Q := by
  have p := hQ.pk
  have key : ∀ a, a < Q.length → (heldX (spAt Q a) Q = !movable Q a (1, 0)) ∧ (heldY (spAt Q a) Q = !movable Q a (0, 1)) := fun a ha => by
    have pa := p.pos a ha
    have na := p.nn a ha
    constructor
    · rw [Bool.eq_iff_iff, Bool.not_eq_true', ← Bool.not_eq_true]
      have hm : movable Q a (1, 0) = true ↔ 1 ≤ (spAt Q a).l ∧ ∀ k, k < Q.length → k ≠ a → Disj (mvd (spAt Q a) (1, 0)) (spAt Q k) := by
        unfold movable hits
        rw [Bool.and_eq_true, decide_eq_true_iff, decide_eq_true_iff, List.filter_eq_nil_iff]
        have e : (0 ≤ min (mvd (spAt Q a) (1, 0)).l (mvd (spAt Q a) (1, 0)).b) ↔ 1 ≤ (spAt Q a).l := by
          show 0 ≤ min ((spAt Q a).l - 1) ((spAt Q a).b - 0) ↔ _
          omega
        rw [e]
        refine and_congr_right fun _ => ⟨fun h k hk hka => ?_, fun h k hk => ?_⟩
        · have := h k (List.mem_range.mpr hk)
          rw [← ovl_false]
          simpa [hka] using this
        · by_cases hka : k = a
          · simp [hka]
          · have := ovl_false.mpr (h k (List.mem_range.mp hk) hka)
            rw [this]; simp
      rw [hm]
      unfold heldX
      rw [Bool.or_eq_true, decide_eq_true_iff, List.any_eq_true]
      constructor
      · rintro (h | ⟨o, ho, h⟩) ⟨h1, h2⟩
        · omega
        · obtain ⟨k, hk, rfl⟩ := List.mem_iff_getElem.mp ho
          have ek : spAt Q k = Q[k] := by unfold spAt; simp [hk]
          rw [← ek] at h
          simp at h
          have hka : k ≠ a := fun e => by subst e; omega
          have := h2 k hk hka
          unfold Disj mvd at this
          simp only at this
          have pk := p.pos k hk
          omega
      · intro h
        by_cases h0 : (spAt Q a).l = 0
        · exact .inl h0
        · right
          have hex : ∃ k, k < Q.length ∧ k ≠ a ∧ ¬ Disj (mvd (spAt Q a) (1, 0)) (spAt Q k) := Classical.byContradiction fun hn => h ⟨by omega, fun k hk hka => Classical.byContradiction fun hd => hn ⟨k, hk, hka, hd⟩⟩
          obtain ⟨k, hk, hka, hd⟩ := hex
          have d := p.dj a k ha hk (Ne.symm hka)
          refine ⟨_, spAt_mem hk, ?_⟩
          unfold Disj mvd at hd
          unfold Disj at d
          simp only at hd
          simp
          omega
    · rw [Bool.eq_iff_iff, Bool.not_eq_true', ← Bool.not_eq_true]
      have hm : movable Q a (0, 1) = true ↔ 1 ≤ (spAt Q a).b ∧ ∀ k, k < Q.length → k ≠ a → Disj (mvd (spAt Q a) (0, 1)) (spAt Q k) := by
        unfold movable hits
        rw [Bool.and_eq_true, decide_eq_true_iff, decide_eq_true_iff, List.filter_eq_nil_iff]
        have e : (0 ≤ min (mvd (spAt Q a) (0, 1)).l (mvd (spAt Q a) (0, 1)).b) ↔ 1 ≤ (spAt Q a).b := by
          show 0 ≤ min ((spAt Q a).l - 0) ((spAt Q a).b - 1) ↔ _
          omega
        rw [e]
        refine and_congr_right fun _ => ⟨fun h k hk hka => ?_, fun h k hk => ?_⟩
        · have := h k (List.mem_range.mpr hk)
          rw [← ovl_false]
          simpa [hka] using this
        · by_cases hka : k = a
          · simp [hka]
          · have := ovl_false.mpr (h k (List.mem_range.mp hk) hka)
            rw [this]; simp
      rw [hm]
      unfold heldY
      rw [Bool.or_eq_true, decide_eq_true_iff, List.any_eq_true]
      constructor
      · rintro (h | ⟨o, ho, h⟩) ⟨h1, h2⟩
        · omega
        · obtain ⟨k, hk, rfl⟩ := List.mem_iff_getElem.mp ho
          have ek : spAt Q k = Q[k] := by unfold spAt; simp [hk]
          rw [← ek] at h
          simp at h
          have hka : k ≠ a := fun e => by subst e; omega
          have := h2 k hk hka
          unfold Disj mvd at this
          simp only at this
          have pk := p.pos k hk
          omega
      · intro h
        by_cases h0 : (spAt Q a).b = 0
        · exact .inl h0
        · right
          have hex : ∃ k, k < Q.length ∧ k ≠ a ∧ ¬ Disj (mvd (spAt Q a) (0, 1)) (spAt Q k) := Classical.byContradiction fun hn => h ⟨by omega, fun k hk hka => Classical.byContradiction fun hd => hn ⟨k, hk, hka, hd⟩⟩
          obtain ⟨k, hk, hka, hd⟩ := hex
          have d := p.dj a k ha hk (Ne.symm hka)
          refine ⟨_, spAt_mem hk, ?_⟩
          unfold Disj mvd at hd
          unfold Disj at d
          simp only at hd
          simp
          omega
  rw [Bool.eq_iff_iff]
  unfold isCompact lawCompact
  rw [List.all_eq_true, List.all_eq_true]
  constructor
  · intro h a ha
    have ha := List.mem_range.mp ha
    have := h _ (spAt_mem ha)
    rw [Bool.and_eq_true, (key a ha).1, (key a ha).2] at this
    unfold steps
    simp at this ⊢
    exact this
  · intro h s hs
    obtain ⟨a, ha, rfl⟩ := List.mem_iff_getElem.mp hs
    have e : spAt Q a = Q[a] := by unfold spAt; simp [ha]
    rw [← e]
    have := h a (List.mem_range.mpr ha)
    unfold steps at this
    rw [Bool.and_eq_true, (key a ha).1, (key a ha).2]
    simp at this ⊢
    exact this
end Fl

/-! FloMd -/
/-! The mathematics: floors of bushes. -/
namespace Fl
theorem rest_nn (S : List Spot) (l w : Int) : 0 ≤ restOn S l w := le_maxL (by simp)
theorem rest_ge {S : List Spot} {l w : Int} {o : Spot} (ho : o ∈ S) (h1 : o.l < l + w) (h2 : l < o.l + o.w) : o.b + o.h ≤ restOn S l w :=
  le_maxL (List.mem_cons_of_mem _ (List.mem_map.mpr ⟨o, List.mem_filter.mpr ⟨ho, by simp [h1, h2]⟩, rfl⟩))
theorem rest_le {S : List Spot} {l w M : Int} (h0 : 0 ≤ M) (h : ∀ o ∈ S, o.l < l + w → l < o.l + o.w → o.b + o.h ≤ M) : restOn S l w ≤ M := by
  have hm := maxL_mem (ns := 0 :: (S.filter fun s => decide (s.l < l + w) && decide (l < s.l + s.w)).map fun s => s.b + s.h) (by simp)
  unfold restOn
  rcases List.mem_cons.mp hm with e | e
  · rw [e]; exact h0
  · obtain ⟨o, ho, e⟩ := List.mem_map.mp e
    rw [← e]
    obtain ⟨g1, g2⟩ := List.mem_filter.mp ho
    simp at g2
    exact h o g1 g2.1 g2.2
structure GOk (zs : List Sz) (acc : List (Nat × Spot)) : Prop where
  dj : acc.Pairwise (fun p q => Disj p.2 q.2)
  at_ : ∀ p ∈ acc, p.2.w = (szAt zs p.1).1 ∧ p.2.h = (szAt zs p.1).2 ∧ 0 ≤ p.2.l ∧ 0 ≤ p.2.b ∧ p.2.b + p.2.h ≤ 9 * acc.length ∧ p.2.l ≤ 9 * acc.length
theorem growF_len (zs : List Sz) (b : Bu) (left : Int) (acc : List (Nat × Spot)) : (growF zs b left acc).length = acc.length + b.ns.length := by
  have := congrArg List.length (growF_keys zs b left acc)
  simpa using this
theorem growF_ok {zs : List Sz} (hz : Few 9 zs) : ∀ (b : Bu) (left : Int) (acc : List (Nat × Spot)), GOk zs acc → 0 ≤ left → left ≤ 9 * acc.length → (∀ n ∈ b.ns, n < zs.length) → GOk zs (growF zs b left acc)
  | .nil, _, acc, h, _, _, _ => h
  | .node n l r, left, acc, h, h0, h1, hn => by
    have hn0 : n < zs.length := hn n (by simp [Bu.ns])
    have sz := few_at hz hn0
    let acc1 : List (Nat × Spot) := acc ++ [(n, ⟨left, restOn (acc.map (·.2)) left (szAt zs n).1, (szAt zs n).1, (szAt zs n).2⟩)]
    have hl1 : acc1.length = acc.length + 1 := by simp [acc1]
    have rle : restOn (acc.map (·.2)) left (szAt zs n).1 ≤ 9 * acc.length := rest_le (by omega) fun o ho _ _ => by
      obtain ⟨p, hp, rfl⟩ := List.mem_map.mp ho
      exact (h.at_ p hp).2.2.2.2.1
    have rnn := rest_nn (acc.map (·.2)) left (szAt zs n).1
    have g1 : GOk zs acc1 := by
      refine ⟨List.pairwise_append.mpr ⟨h.dj, by simp, fun p hp q hq => ?_⟩, fun p hp => ?_⟩
      · simp at hq; subst hq
        by_cases hx : p.2.l < left + (szAt zs n).1 ∧ left < p.2.l + p.2.w
        · have := rest_ge (S := acc.map (·.2)) (List.mem_map.mpr ⟨p, hp, rfl⟩) hx.1 hx.2
          exact .inr (.inr (.inl this))
        · unfold Disj
          show p.2.l + p.2.w ≤ left ∨ left + (szAt zs n).1 ≤ p.2.l ∨ _
          omega
      · rw [hl1]
        rcases List.mem_append.mp hp with hp | hp
        · have := h.at_ p hp
          refine ⟨this.1, this.2.1, this.2.2.1, this.2.2.2.1, by omega, by omega⟩
        · simp at hp; subst hp
          refine ⟨rfl, rfl, h0, rnn, ?_, ?_⟩
          · show restOn _ _ _ + (szAt zs n).2 ≤ _; omega
          · show left ≤ _; omega
    have g2 : GOk zs (growF zs l (left + (szAt zs n).1) acc1) := growF_ok hz l _ acc1 g1 (by omega) (by rw [hl1]; omega) fun m hm => hn m (by simp [Bu.ns, hm])
    have hl2 := growF_len zs l (left + (szAt zs n).1) acc1
    exact growF_ok hz r left _ g2 h0 (by rw [hl2, hl1]; omega) fun m hm => hn m (by simp [Bu.ns, hm])
theorem lookN_in {α : Type} {L : List (Nat × α)} {k : Nat} {v : α} (h : lookN L k = some v) : (k, v) ∈ L := by
  unfold lookN at h
  cases q : L.find? (fun p => decide (p.1 = k)) with
  | none => rw [q] at h; cases h
  | some p =>
    rw [q] at h
    obtain ⟨a, b⟩ := p
    have h : b = v := by simpa using h
    have hk := List.find?_some q
    have hm := List.mem_of_find?_eq_some q
    have hk : a = k := by simpa using hk
    rw [← hk, ← h]; exact hm
theorem pair_disj {R : List (Nat × Spot)} (h : R.Pairwise (fun p q => Disj p.2 q.2)) {p q : Nat × Spot} (hp : p ∈ R) (hq : q ∈ R) (hne : p ≠ q) : Disj p.2 q.2 := by
  induction R with
  | nil => simp at hp
  | cons x R ih =>
    obtain ⟨h1, h2⟩ := List.pairwise_cons.mp h
    rcases List.mem_cons.mp hp with e | e <;> rcases List.mem_cons.mp hq with e' | e'
    · exact absurd (e.trans e'.symm) hne
    · rw [e]; exact h1 q e'
    · rw [e']; exact (h1 p e).symm
    · exact ih h2 e e'
section
variable {zs : List Sz} {b : Bu}
theorem bush_len : (bushSpots zs b).length = zs.length := by unfold bushSpots; simp
theorem bush_at (hb : BushOk zs b) {i : Nat} (hi : i < zs.length) : (i, spAt (bushSpots zs b) i) ∈ growF zs b 0 [] := by
  obtain ⟨v, hv⟩ := lookN_mem (L := growF zs b 0 []) (k := i) (by rw [growF_keys]; simp; exact hb.mem_iff.mpr (List.mem_range.mpr hi))
  have e : spAt (bushSpots zs b) i = v := by
    unfold spAt bushSpots
    simp [hi, hv]
  rw [e]
  exact lookN_in hv
theorem bush_gok (hz : Few 9 zs) (hb : BushOk zs b) : GOk zs (growF zs b 0 []) := growF_ok hz b 0 [] ⟨List.Pairwise.nil, fun p hp => by simp at hp⟩ (by decide) (by simp) fun n hn => List.mem_range.mp (hb.mem_iff.mp hn)
theorem bush_size (hz : Few 9 zs) (hb : BushOk zs b) {i : Nat} (hi : i < zs.length) : (spAt (bushSpots zs b) i).w = (szAt zs i).1 ∧ (spAt (bushSpots zs b) i).h = (szAt zs i).2 := by
  have := (bush_gok hz hb).at_ _ (bush_at hb hi)
  exact ⟨this.1, this.2.1⟩
theorem bush_pack (hz : Few 9 zs) (h1 : 1 ≤ zs.length) (h8 : zs.length ≤ 8) (hb : BushOk zs b) : PackOk (bushSpots zs b) := by
  have g := bush_gok hz hb
  have hl : (growF zs b 0 []).length ≤ 8 := by rw [growF_len, hb.len]; simp; exact h8
  refine packOk_of (by rw [bush_len]; exact h1) (by rw [bush_len]; exact h8) ⟨fun i hi => ?_, fun i hi => ?_, fun i j hi hj hij => ?_⟩ fun i hi => ?_
  · rw [bush_len] at hi
    have := bush_size hz hb hi
    have := few_at hz hi
    omega
  · rw [bush_len] at hi
    have := g.at_ _ (bush_at hb hi)
    exact ⟨this.2.2.1, this.2.2.2.1⟩
  · rw [bush_len] at hi hj
    exact pair_disj g.dj (bush_at hb hi) (bush_at hb hj) fun e => hij (congrArg Prod.fst e)
  · rw [bush_len] at hi
    have a := g.at_ _ (bush_at hb hi)
    have s := bush_size hz hb hi
    have f := few_at hz hi
    have a5 : (spAt (bushSpots zs b) i).b + (spAt (bushSpots zs b) i).h ≤ 9 * ((growF zs b 0 []).length : Nat) := a.2.2.2.2.1
    have a6 : (spAt (bushSpots zs b) i).l ≤ 9 * ((growF zs b 0 []).length : Nat) := a.2.2.2.2.2
    omega
theorem maxL_congr {A B : List Int} (hA : A ≠ []) (h : ∀ x, x ∈ A ↔ x ∈ B) : maxL A = maxL B :=
  maxL_eq ((h _).mp (maxL_mem hA)) fun y hy => le_maxL ((h y).mpr hy)
theorem nodup_fst {L : List (Nat × Spot)} (h : (L.map (·.1)).Nodup) {k : Nat} {v u : Spot} (h1 : (k, v) ∈ L) (h2 : (k, u) ∈ L) : v = u := by
  induction L with
  | nil => simp at h1
  | cons p L ih =>
    rw [List.map_cons, List.nodup_cons] at h
    rcases List.mem_cons.mp h1 with e | e <;> rcases List.mem_cons.mp h2 with e' | e'
    · have := e.trans e'.symm; exact congrArg Prod.snd this
    · exact absurd (List.mem_map.mpr ⟨_, e', by rw [← e]⟩) h.1
    · exact absurd (List.mem_map.mpr ⟨_, e, by rw [← e']⟩) h.1
    · exact ih h.2 e e'
theorem bush_members (hb : BushOk zs b) (s : Spot) : s ∈ (growF zs b 0 []).map (·.2) ↔ s ∈ bushSpots zs b := by
  have nd : ((growF zs b 0 []).map (·.1)).Nodup := by rw [growF_keys]; simpa using hb.nodup_iff.mpr List.nodup_range
  constructor
  · intro h
    obtain ⟨p, hp, rfl⟩ := List.mem_map.mp h
    have hi : p.1 < zs.length := by
      have : p.1 ∈ (growF zs b 0 []).map (·.1) := List.mem_map.mpr ⟨p, hp, rfl⟩
      rw [growF_keys] at this
      simp at this
      exact List.mem_range.mp (hb.mem_iff.mp this)
    have := nodup_fst nd (show (p.1, p.2) ∈ _ from hp) (bush_at hb hi)
    rw [this]
    exact spAt_mem (by rw [bush_len]; exact hi)
  · intro h
    obtain ⟨i, hi, e⟩ := List.mem_iff_getElem.mp h
    have hi' : i < zs.length := by rw [bush_len] at hi; exact hi
    have := bush_at hb hi'
    have e2 : spAt (bushSpots zs b) i = s := by unfold spAt; simp [hi, e]
    rw [e2] at this
    exact List.mem_map.mpr ⟨_, this, rfl⟩
theorem bush_wid (h1 : 1 ≤ zs.length) (hb : BushOk zs b) : wid ((growF zs b 0 []).map (·.2)) = wid (bushSpots zs b) ∧ hei ((growF zs b 0 []).map (·.2)) = hei (bushSpots zs b) := by
  have hne : (growF zs b 0 []).map (·.2) ≠ [] := fun z => by
    have := congrArg List.length z
    rw [List.length_map, growF_len, hb.len, List.length_nil, List.length_nil] at this
    omega
  have mm : ∀ (f : Spot → Int) (x : Int), x ∈ ((growF zs b 0 []).map (·.2)).map f ↔ x ∈ (bushSpots zs b).map f := fun f x => by
    rw [List.mem_map, List.mem_map]
    exact ⟨fun ⟨s, h, e⟩ => ⟨s, (bush_members hb s).mp h, e⟩, fun ⟨s, h, e⟩ => ⟨s, (bush_members hb s).mpr h, e⟩⟩
  exact ⟨maxL_congr (fun z => hne (List.map_eq_nil_iff.mp z)) (mm _), maxL_congr (fun z => hne (List.map_eq_nil_iff.mp z)) (mm _)⟩
end
theorem pack_area {Q : List Spot} (h : PackOk Q) : (1 ≤ wid Q ∧ wid Q ≤ 1100) ∧ (1 ≤ hei Q ∧ hei Q ≤ 1100) := by
  have p := h.pk
  have ne : ∀ f : Spot → Int, Q.map f ≠ [] := fun f z => h.ne (List.map_eq_nil_iff.mp z)
  constructor
  · obtain ⟨s, hs, e⟩ := List.mem_map.mp (maxL_mem (ne fun s => s.l + s.w))
    have := spotOk_iff.mp (h.ok s hs)
    unfold wid; rw [← e]; omega
  · obtain ⟨s, hs, e⟩ := List.mem_map.mp (maxL_mem (ne fun s => s.b + s.h))
    have := spotOk_iff.mp (h.ok s hs)
    unfold hei; rw [← e]; omega
theorem pack_cmul {Q : List Spot} (h : PackOk Q) : L2.CMul (wid Q) (hei Q) := by
  have := pack_area h
  left
  omega
end Fl

/-! FloMe -/
/-! The mathematics: the bush of a compact floor. -/
namespace Fl
theorem maxK_in (key : Nat → Int) : ∀ l : List Nat, l ≠ [] → maxK key l ∈ l
  | [], h => absurd rfl h
  | [x], _ => by simp [maxK]
  | x :: y :: l, _ => by
    have ih := maxK_in key (y :: l) (by simp)
    show (if key x < key (maxK key (y :: l)) then maxK key (y :: l) else x) ∈ _
    split
    · exact List.mem_cons_of_mem _ ih
    · exact List.mem_cons_self
theorem lookN_no {α : Type} {L : List (Nat × α)} {k : Nat} (h : k ∉ L.map (·.1)) : lookN L k = none := by
  cases q : lookN L k with
  | none => rfl
  | some v => exact absurd (List.mem_map.mpr ⟨_, lookN_in q, rfl⟩) h
section
variable {Q : List Spot} (hQ : PackOk Q) (hc : isCompact Q = true)
abbrev PL (Q : List Spot) : List (Nat × Nat) := parL Q Q.length
theorem par_some {i : Nat} (hi : i < Q.length) (h : 0 < (spAt Q i).l) : lookN (PL Q) i = some (parentOf Q i) := by
  have hm : (i, parentOf Q i) ∈ PL Q := by
    unfold PL parL
    exact List.mem_map.mpr ⟨i, List.mem_filter.mpr ⟨List.mem_range.mpr hi, by simpa using h⟩, rfl⟩
  obtain ⟨v, hv⟩ := lookN_mem (L := PL Q) (k := i) (List.mem_map.mpr ⟨_, hm, rfl⟩)
  have := lookN_in hv
  unfold PL parL at this
  obtain ⟨b, _, e⟩ := List.mem_map.mp this
  have e1 : b = i := congrArg Prod.fst e
  have e2 : parentOf Q b = v := congrArg Prod.snd e
  rw [hv, ← e2, e1]
theorem par_none {i : Nat} (h : ¬ 0 < (spAt Q i).l) : lookN (PL Q) i = none := lookN_no fun hm => by
  obtain ⟨p, hp, e⟩ := List.mem_map.mp hm
  unfold PL parL at hp
  obtain ⟨b, hb, rfl⟩ := List.mem_map.mp hp
  have := (List.mem_filter.mp hb).2
  simp at this
  have e : b = i := e
  rw [e] at this
  exact h this
include hQ hc in
theorem par_face {i : Nat} (hi : i < Q.length) (h : 0 < (spAt Q i).l) : parentOf Q i < Q.length ∧ (spAt Q (parentOf Q i)).l + (spAt Q (parentOf Q i)).w = (spAt Q i).l ∧ (spAt Q (parentOf Q i)).b < (spAt Q i).b + (spAt Q i).h ∧ (spAt Q i).b < (spAt Q (parentOf Q i)).b + (spAt Q (parentOf Q i)).h := by
  have hm := maxK_in (fun o => (spAt Q o).b) _ (faced hc hi h)
  obtain ⟨h1, h2⟩ := List.mem_filter.mp hm
  unfold facesF at h2
  simp at h2
  exact ⟨List.mem_range.mp h1, h2.1, h2.2.1, h2.2.2⟩
/-- c stands on the way to x -/
inductive Anc (Q : List Spot) : Nat → Nat → Prop
  | refl {c : Nat} : c < Q.length → Anc Q c c
  | step {c x : Nat} : x < Q.length → 0 < (spAt Q x).l → Anc Q c (parentOf Q x) → Anc Q c x
theorem Anc.hi {c x : Nat} (h : Anc Q c x) : x < Q.length := by cases h <;> assumption
theorem Anc.lo {c x : Nat} (h : Anc Q c x) : c < Q.length := by
  induction h with
  | refl h => exact h
  | step _ _ _ ih => exact ih
theorem Anc.trans {a b c : Nat} (h : Anc Q a b) (g : Anc Q b c) : Anc Q a c := by
  induction g with
  | refl _ => exact h
  | step h1 h2 _ ih => exact .step h1 h2 ih
theorem Anc.lin {a b x : Nat} (h : Anc Q a x) (g : Anc Q b x) : Anc Q a b ∨ Anc Q b a := by
  induction h with
  | refl _ => exact .inr g
  | step h1 h2 h3 ih =>
    cases g with
    | refl _ => exact .inl (.step h1 h2 h3)
    | step _ _ g3 => exact ih g3
theorem Anc.child {c x : Nat} (h : Anc Q c x) (hne : c ≠ x) : ∃ d, d < Q.length ∧ 0 < (spAt Q d).l ∧ parentOf Q d = c ∧ Anc Q d x := by
  induction h with
  | refl _ => exact absurd rfl hne
  | @step x h1 h2 h3 ih =>
    by_cases e : c = parentOf Q x
    · exact ⟨x, h1, h2, e.symm, .refl h1⟩
    · obtain ⟨d, d1, d2, d3, d4⟩ := ih e
      exact ⟨d, d1, d2, d3, .step h1 h2 d4⟩
include hQ hc in
theorem Anc.left {c x : Nat} (h : Anc Q c x) : c = x ∨ (spAt Q c).l + (spAt Q c).w ≤ (spAt Q x).l := by
  induction h with
  | refl _ => exact .inl rfl
  | step h1 h2 h3 ih =>
    have f := par_face hQ hc h1 h2
    have p := hQ.pk.pos _ f.1
    right
    rcases ih with e | e
    · rw [e]; omega
    · omega
def Sib (Q : List Spot) (c d : Nat) : Prop := c < Q.length ∧ d < Q.length ∧ lookN (PL Q) c = lookN (PL Q) d
theorem Sib.symm {c d : Nat} (h : Sib Q c d) : Sib Q d c := ⟨h.2.1, h.1, h.2.2.symm⟩
theorem Sib.par {c d : Nat} (h : Sib Q c d) (hl : 0 < (spAt Q c).l) : 0 < (spAt Q d).l ∧ parentOf Q d = parentOf Q c := by
  have e := h.2.2
  rw [par_some h.1 hl] at e
  by_cases h2 : 0 < (spAt Q d).l
  · rw [par_some h.2.1 h2] at e
    exact ⟨h2, (Option.some.inj e).symm⟩
  · rw [par_none h2] at e; cases e
include hQ hc in
theorem Sib.left {c d : Nat} (h : Sib Q c d) : (spAt Q c).l = (spAt Q d).l := by
  by_cases h1 : 0 < (spAt Q c).l
  · obtain ⟨h2, e⟩ := h.par h1
    have f1 := par_face hQ hc h.1 h1
    have f2 := par_face hQ hc h.2.1 h2
    rw [e] at f2
    omega
  · by_cases h2 : 0 < (spAt Q d).l
    · exact absurd (h.symm.par h2).1 h1
    · have n1 := hQ.pk.nn c h.1
      have n2 := hQ.pk.nn d h.2.1
      omega
include hQ hc in
theorem Sib.anc {c d : Nat} (h : Sib Q c d) (a : Anc Q c d) : c = d := by
  rcases a.left hQ hc with e | e
  · exact e
  · have := h.left hQ hc
    have := hQ.pk.pos c h.1
    omega
include hQ hc in
theorem Sib.both {c d x : Nat} (h : Sib Q c d) (a : Anc Q c x) (b : Anc Q d x) : c = d := by
  rcases a.lin b with e | e
  · exact h.anc hQ hc e
  · exact (h.symm.anc hQ hc e).symm
/-- k comes before j in the walk -/
def Bef (Q : List Spot) (k j : Nat) : Prop := (Anc Q k j ∧ k ≠ j) ∨ ∃ c d, Sib Q c d ∧ (spAt Q c).b < (spAt Q d).b ∧ Anc Q c k ∧ Anc Q d j
include hQ hc in
theorem Bef.asymm {k j : Nat} (h : Bef Q k j) (g : Bef Q j k) : False := by
  have one : ∀ {k j : Nat}, Anc Q k j → k ≠ j → (∃ c d, Sib Q c d ∧ (spAt Q c).b < (spAt Q d).b ∧ Anc Q c j ∧ Anc Q d k) → False := fun {k j} a _ ⟨c, d, s, hb, a1, a2⟩ => by
    have := s.both hQ hc a1 (a2.trans a)
    rw [this] at hb; omega
  have two : ∀ {c1 d1 c2 d2 k j : Nat}, Sib Q c1 d1 → (spAt Q c1).b < (spAt Q d1).b → Anc Q c1 k → Anc Q d1 j → Sib Q c2 d2 → (spAt Q c2).b < (spAt Q d2).b → Anc Q c2 j → Anc Q d2 k → Anc Q d1 c2 → False := fun {c1 d1 c2 d2 k j} s1 b1 a1 a1' s2 b2 a2 a2' an => by
    by_cases e : d1 = c2
    · subst e
      have s3 : Sib Q c1 d2 := ⟨s1.1, s2.2.1, s1.2.2.trans s2.2.2⟩
      have := s3.both hQ hc a1 a2'
      rw [this] at b1; omega
    · cases an with
      | refl _ => exact e rfl
      | step h1 h2 h3 =>
        obtain ⟨g1, g2⟩ := s2.par h2
        have a3 : Anc Q d1 d2 := .step s2.2.1 g1 (by rw [g2]; exact h3)
        have := s1.both hQ hc a1 (a3.trans a2')
        rw [this] at b1; omega
  rcases h with ⟨a, ne⟩ | h <;> rcases g with ⟨b, ne'⟩ | g
  · rcases a.left hQ hc with e | e
    · exact ne e
    · rcases b.left hQ hc with e' | e'
      · exact ne' e'
      · have := hQ.pk.pos k a.lo
        have := hQ.pk.pos j b.lo
        omega
  · exact one a ne g
  · exact one b ne' h
  · obtain ⟨c1, d1, s1, b1, a1, a1'⟩ := h
    obtain ⟨c2, d2, s2, b2, a2, a2'⟩ := g
    rcases a1'.lin a2 with e | e
    · exact two s1 b1 a1 a1' s2 b2 a2 a2' e
    · -- the mirror
      by_cases e2 : c2 = d1
      · subst e2; exact two s1 b1 a1 a1' s2 b2 a2 a2' (.refl s2.1)
      · cases e with
        | refl _ => exact e2 rfl
        | step h1 h2 h3 =>
          obtain ⟨g1, g2⟩ := s1.symm.par h2
          have a3 : Anc Q c2 c1 := .step s1.1 g1 (by rw [g2]; exact h3)
          have := s2.both hQ hc (a3.trans a1) a2'
          rw [this] at b2; omega
include hQ hc in
theorem bef_below : ∀ (N : Nat) (k j : Nat), k < Q.length → j < Q.length → (spAt Q k).l + (spAt Q j).l < N → (spAt Q k).l < (spAt Q j).l + (spAt Q j).w → (spAt Q j).l < (spAt Q k).l + (spAt Q k).w → (spAt Q k).b + (spAt Q k).h ≤ (spAt Q j).b → Bef Q k j
  | 0, k, j, hk, hj, hN, _, _, _ => by
    have := hQ.pk.nn k hk
    have := hQ.pk.nn j hj
    omega
  | N + 1, k, j, hk, hj, hN, x1, x2, hb => by
    have nk := hQ.pk.nn k hk
    have nj := hQ.pk.nn j hj
    have pk := hQ.pk.pos k hk
    have pj := hQ.pk.pos j hj
    have sib : lookN (PL Q) k = lookN (PL Q) j → Bef Q k j := fun e => .inr ⟨k, j, ⟨hk, hj, e⟩, by omega, .refl hk, .refl hj⟩
    by_cases e : (spAt Q k).l = (spAt Q j).l
    · by_cases z : 0 < (spAt Q k).l
      · have z' : 0 < (spAt Q j).l := by omega
        have fk := par_face hQ hc hk z
        have fj := par_face hQ hc hj z'
        by_cases ep : parentOf Q k = parentOf Q j
        · exact sib (by rw [par_some hk z, par_some hj z', ep])
        · have d := hQ.pk.dj _ _ fk.1 fj.1 ep
          have ppk := hQ.pk.pos _ fk.1
          have ppj := hQ.pk.pos _ fj.1
          unfold Disj at d
          have ih := bef_below N (parentOf Q k) (parentOf Q j) fk.1 fj.1 (by omega) (by omega) (by omega) (by omega)
          rcases ih with ⟨a, ne⟩ | ⟨c, d', s, b, a1, a2⟩
          · rcases a.left hQ hc with e2 | e2
            · exact absurd e2 ne
            · omega
          · exact .inr ⟨c, d', s, b, .step hk z a1, .step hj z' a2⟩
      · exact sib (by rw [par_none z, par_none (by omega)])
    · by_cases lt : (spAt Q k).l < (spAt Q j).l
      · have z' : 0 < (spAt Q j).l := by omega
        have fj := par_face hQ hc hj z'
        have ppj := hQ.pk.pos _ fj.1
        have ne : k ≠ parentOf Q j := fun e2 => by rw [← e2] at fj; omega
        have d := hQ.pk.dj _ _ hk fj.1 ne
        unfold Disj at d
        have ih := bef_below N k (parentOf Q j) hk fj.1 (by omega) (by omega) (by omega) (by omega)
        rcases ih with ⟨a, _⟩ | ⟨c, d', s, b, a1, a2⟩
        · exact .inl ⟨.step hj z' a, fun e2 => by subst e2; omega⟩
        · exact .inr ⟨c, d', s, b, a1, .step hj z' a2⟩
      · have z : 0 < (spAt Q k).l := by omega
        have fk := par_face hQ hc hk z
        have ppk := hQ.pk.pos _ fk.1
        have ne : parentOf Q k ≠ j := fun e2 => by rw [e2] at fk; omega
        have d := hQ.pk.dj _ _ fk.1 hj ne
        unfold Disj at d
        have ih := bef_below N (parentOf Q k) j fk.1 hj (by omega) (by omega) (by omega) (by omega)
        rcases ih with ⟨a, ne2⟩ | ⟨c, d', s, b, a1, a2⟩
        · rcases a.left hQ hc with e2 | e2
          · exact absurd e2 ne2
          · omega
        · exact .inr ⟨c, d', s, b, .step hk z a1, a2⟩
/-! ### columns -/
structure ColOk (Q : List Spot) (col : List Nat) : Prop where
  lt : ∀ c ∈ col, c < Q.length
  pw : col.Pairwise (fun c d => Sib Q c d ∧ (spAt Q c).b < (spAt Q d).b)
theorem ColOk.tail {c : Nat} {cs : List Nat} (h : ColOk Q (c :: cs)) : ColOk Q cs := ⟨fun d hd => h.lt d (by simp [hd]), (List.pairwise_cons.mp h.pw).2⟩
theorem mem_col {p : Option Nat} {c : Nat} : c ∈ columnOf Q (PL Q) p ↔ c < Q.length ∧ lookN (PL Q) c = p := by
  unfold columnOf sortK
  rw [List.mem_mergeSort, List.mem_filter, List.mem_range]
  simp
include hQ hc in
theorem col_ok (p : Option Nat) : ColOk Q (columnOf Q (PL Q) p) := by
  refine ⟨fun c h => (mem_col.mp h).1, ?_⟩
  have hs : (columnOf Q (PL Q) p).Pairwise (fun a b => (spAt Q a).b ≤ (spAt Q b).b) := by
    have h := List.pairwise_mergeSort (le := fun a b : Nat => decide ((spAt Q a).b ≤ (spAt Q b).b)) (fun a b c h1 h2 => by simp at *; omega) (fun a b => by simp; omega) ((List.range Q.length).filter fun b => decide (lookN (PL Q) b = p))
    exact h.imp fun h => by simpa using h
  have hn : (columnOf Q (PL Q) p).Nodup := by
    unfold columnOf sortK
    exact (List.mergeSort_perm _ _).nodup_iff.mpr (List.Pairwise.filter _ List.nodup_range)
  have hmem : ∀ c ∈ columnOf Q (PL Q) p, c < Q.length ∧ lookN (PL Q) c = p := fun c h => mem_col.mp h
  generalize columnOf Q (PL Q) p = col at hs hn hmem
  induction col with
  | nil => exact List.Pairwise.nil
  | cons c cs ih =>
    obtain ⟨h1, h2⟩ := List.pairwise_cons.mp hs
    obtain ⟨n1, n2⟩ := List.nodup_cons.mp hn
    refine List.pairwise_cons.mpr ⟨fun d hd => ?_, ih h2 n2 fun d hd => hmem d (by simp [hd])⟩
    have hc1 := hmem c (by simp)
    have hd1 := hmem d (by simp [hd])
    have s : Sib Q c d := ⟨hc1.1, hd1.1, hc1.2.trans hd1.2.symm⟩
    refine ⟨s, ?_⟩
    have hle := h1 d hd
    have hne : c ≠ d := fun e => n1 (e ▸ hd)
    have dj := hQ.pk.dj c d hc1.1 hd1.1 hne
    have l := s.left hQ hc
    have p1 := hQ.pk.pos c hc1.1
    have p2 := hQ.pk.pos d hd1.1
    unfold Disj at dj
    omega
def Des (Q : List Spot) (col : List Nat) (x : Nat) : Prop := ∃ c ∈ col, Anc Q c x
theorem des_col {c x : Nat} (h : Des Q (columnOf Q (PL Q) (some c)) x) : ∃ d, d < Q.length ∧ 0 < (spAt Q d).l ∧ parentOf Q d = c ∧ Anc Q d x := by
  obtain ⟨d, hd, a⟩ := h
  obtain ⟨h1, h2⟩ := mem_col.mp hd
  by_cases z : 0 < (spAt Q d).l
  · rw [par_some h1 z] at h2
    exact ⟨d, h1, z, Option.some.inj h2, a⟩
  · rw [par_none z] at h2; cases h2
include hQ hc in
theorem des_child {c x : Nat} (hcl : c < Q.length) (h : Des Q (columnOf Q (PL Q) (some c)) x) : Anc Q c x ∧ c ≠ x := by
  obtain ⟨d, h1, z, e, a⟩ := des_col h
  have ac : Anc Q c d := .step h1 z (by rw [e]; exact .refl hcl)
  refine ⟨ac.trans a, fun ex => ?_⟩
  subst ex
  have f := par_face hQ hc h1 z
  rw [e] at f
  have p := hQ.pk.pos c hcl
  rcases a.left hQ hc with e2 | e2
  · rw [e2] at f; omega
  · have := hQ.pk.pos d h1
    omega
theorem des_cons {c x : Nat} {cs : List Nat} (hcl : c < Q.length) : Des Q (c :: cs) x ↔ x = c ∨ Des Q (columnOf Q (PL Q) (some c)) x ∨ Des Q cs x := by
  constructor
  · rintro ⟨d, hd, a⟩
    rcases List.mem_cons.mp hd with e | e
    · subst e
      by_cases ex : d = x
      · exact .inl ex.symm
      · obtain ⟨f, f1, f2, f3, f4⟩ := a.child ex
        exact .inr (.inl ⟨f, mem_col.mpr ⟨f1, by rw [par_some f1 f2, f3]⟩, f4⟩)
    · exact .inr (.inr ⟨d, e, a⟩)
  · rintro (e | h | ⟨d, hd, a⟩)
    · subst e; exact ⟨x, by simp, .refl hcl⟩
    · obtain ⟨d, h1, z, e, a⟩ := des_col h
      exact ⟨c, by simp, (Anc.step h1 z (by rw [e]; exact .refl hcl)).trans a⟩
    · exact ⟨d, by simp [hd], a⟩
include hQ hc in
theorem walk_ns : ∀ (k : Nat) (col : List Nat), ColOk Q col → rok Q (PL Q) k col → (∀ x, x ∈ (rootedK Q (PL Q) k col).ns ↔ Des Q col x) ∧ (rootedK Q (PL Q) k col).ns.Pairwise (Bef Q)
  | 0, [], _, _ => ⟨fun x => ⟨fun h => by simp [rootedK, Bu.ns] at h, fun ⟨c, h, _⟩ => by simp at h⟩, by simp [rootedK, Bu.ns]⟩
  | 0, _ :: _, _, h => h.elim
  | k + 1, [], _, _ => ⟨fun x => ⟨fun h => by simp [rootedK, Bu.ns] at h, fun ⟨c, h, _⟩ => by simp at h⟩, by simp [rootedK, Bu.ns]⟩
  | k + 1, c :: cs, ok, ⟨r1, r2⟩ => by
    have hcl := ok.lt c (by simp)
    obtain ⟨m1, p1⟩ := walk_ns k _ (col_ok hQ hc (some c)) r1
    obtain ⟨m2, p2⟩ := walk_ns k cs ok.tail r2
    have pw := (List.pairwise_cons.mp ok.pw).1
    have e : (rootedK Q (PL Q) (k + 1) (c :: cs)).ns = c :: ((rootedK Q (PL Q) k (columnOf Q (PL Q) (some c))).ns ++ (rootedK Q (PL Q) k cs).ns) := rfl
    rw [e]
    refine ⟨fun x => ?_, List.pairwise_cons.mpr ⟨fun y hy => ?_, List.pairwise_append.mpr ⟨p1, p2, fun y hy z hz => ?_⟩⟩⟩
    · rw [List.mem_cons, List.mem_append, m1, m2, des_cons hcl]
    · rcases List.mem_append.mp hy with hy | hy
      · exact .inl (des_child hQ hc hcl ((m1 y).mp hy))
      · obtain ⟨d, hd, a⟩ := (m2 y).mp hy
        exact .inr ⟨c, d, (pw d hd).1, (pw d hd).2, .refl hcl, a⟩
    · obtain ⟨d, hd, a⟩ := (m2 z).mp hz
      exact .inr ⟨c, d, (pw d hd).1, (pw d hd).2, (des_child hQ hc hcl ((m1 y).mp hy)).1, a⟩
open Classical in
noncomputable def cnt (Q : List Spot) (col : List Nat) : Nat := ((List.range Q.length).filter fun x => decide (Des Q col x)).length
open Classical in
theorem cnt_lt {A B : List Nat} {c : Nat} (hcl : c < Q.length) (h : ∀ x, Des Q A x → Des Q B x) (h1 : Des Q B c) (h2 : ¬ Des Q A c) : cnt Q A + 1 ≤ cnt Q B := by
  unfold cnt
  have hn : (c :: (List.range Q.length).filter fun x => decide (Des Q A x)).Nodup := List.nodup_cons.mpr ⟨fun hm => h2 (by simpa using (List.mem_filter.mp hm).2), List.Pairwise.filter _ List.nodup_range⟩
  have := List.Nodup.length_le_of_subset hn (l₂ := (List.range Q.length).filter fun x => decide (Des Q B x)) fun x hx => by
    rw [List.mem_filter]
    rcases List.mem_cons.mp hx with e | e
    · subst e; exact ⟨List.mem_range.mpr hcl, by simpa using h1⟩
    · obtain ⟨g1, g2⟩ := List.mem_filter.mp e
      exact ⟨g1, by simpa using h x (by simpa using g2)⟩
  simpa using this
include hQ hc in
theorem rok_of : ∀ (k : Nat) (col : List Nat), ColOk Q col → cnt Q col ≤ k → rok Q (PL Q) k col
  | 0, [], _, _ => trivial
  | k + 1, [], _, _ => trivial
  | 0, c :: cs, ok, h => by
    have hcl := ok.lt c (by simp)
    have := cnt_lt (A := []) (B := c :: cs) hcl (fun x ⟨d, hd, _⟩ => by simp at hd) ⟨c, by simp, .refl hcl⟩ (fun ⟨d, hd, _⟩ => by simp at hd)
    omega
  | k + 1, c :: cs, ok, h => by
    have hcl := ok.lt c (by simp)
    have pw := (List.pairwise_cons.mp ok.pw).1
    have hself : Des Q (c :: cs) c := ⟨c, by simp, .refl hcl⟩
    have c1 := cnt_lt (A := columnOf Q (PL Q) (some c)) (B := c :: cs) hcl (fun x hx => (des_cons hcl).mpr (.inr (.inl hx))) hself (fun hx => (des_child hQ hc hcl hx).2 rfl)
    have c2 := cnt_lt (A := cs) (B := c :: cs) hcl (fun x hx => (des_cons hcl).mpr (.inr (.inr hx))) hself (fun ⟨d, hd, a⟩ => by
      have := (pw d hd).1.symm.anc hQ hc a
      have h3 := (pw d hd).2
      rw [this] at h3
      omega)
    exact ⟨rok_of k _ (col_ok hQ hc (some c)) (by omega), rok_of k cs ok.tail (by omega)⟩
include hQ hc in
theorem des_all : ∀ (N x : Nat), x < Q.length → (spAt Q x).l < N → Des Q (columnOf Q (PL Q) none) x
  | 0, x, hx, h => by have := hQ.pk.nn x hx; omega
  | N + 1, x, hx, h => by
    by_cases z : 0 < (spAt Q x).l
    · have f := par_face hQ hc hx z
      have p := hQ.pk.pos _ f.1
      obtain ⟨c, hcm, a⟩ := des_all N (parentOf Q x) f.1 (by omega)
      exact ⟨c, hcm, .step hx z a⟩
    · exact ⟨x, mem_col.mpr ⟨hx, par_none z⟩, .refl hx⟩
include hQ hc in
theorem roots_rok : rok Q (PL Q) 20 (columnOf Q (PL Q) none) := rok_of hQ hc 20 _ (col_ok hQ hc none) (by
  unfold cnt
  have := List.length_filter_le (fun x => @decide (Des Q (columnOf Q (PL Q) none) x) (Classical.propDecidable _)) (List.range Q.length)
  rw [List.length_range] at this
  have := hQ.hi
  omega)
/-- the walk -/
abbrev Wk (Q : List Spot) : List Nat := (rootedK Q (PL Q) 20 (columnOf Q (PL Q) none)).ns
include hQ hc in
theorem wk_mem (x : Nat) : x ∈ Wk Q ↔ x < Q.length := by
  rw [(walk_ns hQ hc 20 _ (col_ok hQ hc none) (roots_rok hQ hc)).1 x]
  refine ⟨fun ⟨c, _, a⟩ => a.hi, fun hx => ?_⟩
  have := hQ.pk.nn x hx
  exact des_all hQ hc ((spAt Q x).l.toNat + 1) x hx (by omega)
include hQ hc in
theorem wk_pw : (Wk Q).Pairwise (Bef Q) := (walk_ns hQ hc 20 _ (col_ok hQ hc none) (roots_rok hQ hc)).2
include hQ hc in
theorem wk_nodup : (Wk Q).Nodup := (wk_pw hQ hc).imp fun {a b} h e => by subst e; exact h.asymm hQ hc h
include hQ hc in
theorem wk_perm : (Wk Q).Perm (List.range Q.length) := (List.perm_ext_iff_of_nodup (wk_nodup hQ hc) List.nodup_range).mpr fun x => by rw [wk_mem hQ hc, List.mem_range]
/-- each block comes to rest where it stood -/
theorem place_at (hQ : PackOk Q) (hc : isCompact Q = true) {pre post : List Nat} {j : Nat} (e : Wk Q = pre ++ j :: post) : restOn (pre.map (spAt Q)) (spAt Q j).l (spAt Q j).w = (spAt Q j).b := by
  have pw := wk_pw hQ hc
  have nd := wk_nodup hQ hc
  have mem : ∀ x, x ∈ pre ++ j :: post ↔ x < Q.length := fun x => by rw [← e]; exact wk_mem hQ hc x
  rw [e] at pw nd
  have hj : j < Q.length := (mem j).mp (by simp)
  have nj := hQ.pk.nn j hj
  obtain ⟨pw1, pw2, pw3⟩ := List.pairwise_append.mp pw
  refine Int.le_antisymm (rest_le nj.2 fun o ho x1 x2 => ?_) ?_
  · obtain ⟨k, hk, rfl⟩ := List.mem_map.mp ho
    have hkl : k < Q.length := (mem k).mp (by simp [hk])
    have hne : k ≠ j := fun e2 => by
      subst e2
      rw [List.nodup_append] at nd
      exact nd.2.2 k hk k (by simp) rfl
    have d := hQ.pk.dj k j hkl hj hne
    unfold Disj at d
    by_cases h : (spAt Q k).b + (spAt Q k).h ≤ (spAt Q j).b
    · exact h
    · have nk := hQ.pk.nn k hkl
      have b1 := bef_below hQ hc (((spAt Q j).l + (spAt Q k).l).toNat + 1) j k hj hkl (by omega) x2 x1 (by omega)
      exact (b1.asymm hQ hc (pw3 k hk j (by simp))).elim
  · by_cases z : (spAt Q j).b = 0
    · rw [z]; exact rest_nn _ _ _
    · unfold isCompact at hc
      have hc0 := hc
      rw [List.all_eq_true] at hc
      have h1 := hc _ (spAt_mem hj)
      have h2 : heldY (spAt Q j) Q = true := (Bool.and_eq_true_iff.mp h1).2
      unfold heldY at h2
      rw [decide_eq_false z, Bool.false_or, List.any_eq_true] at h2
      obtain ⟨o, ho, h3⟩ := h2
      obtain ⟨k, hk, rfl⟩ := List.mem_iff_getElem.mp ho
      have ek : spAt Q k = Q[k] := by unfold spAt; simp [hk]
      rw [← ek] at h3
      simp at h3
      have nk := hQ.pk.nn k hk
      have b1 := bef_below hQ hc0 (((spAt Q k).l + (spAt Q j).l).toNat + 1) k j hk hj (by omega) (by omega) (by omega) (by omega)
      have hm := (mem k).mpr hk
      have pk := hQ.pk.pos k hk
      rcases List.mem_append.mp hm with h | h
      · have := rest_ge (S := pre.map (spAt Q)) (l := (spAt Q j).l) (w := (spAt Q j).w) (List.mem_map.mpr ⟨k, h, rfl⟩) (by omega) (by omega)
        omega
      · rcases List.mem_cons.mp h with h | h
        · subst h; omega
        · have := (List.pairwise_cons.mp pw2).1 k h
          exact (b1.asymm hQ hc0 this).elim
theorem grow_back (hQ : PackOk Q) (hc : isCompact Q = true) {zs : List Sz} (hsz : ∀ i, i < Q.length → (spAt Q i).w = (szAt zs i).1 ∧ (spAt Q i).h = (szAt zs i).2) :
    ∀ (k : Nat) (col A post : List Nat) (left : Int), ColOk Q col → (∀ c ∈ col, (spAt Q c).l = left) → rok Q (PL Q) k col → Wk Q = A ++ ((rootedK Q (PL Q) k col).ns ++ post) →
      growF zs (rootedK Q (PL Q) k col) left (A.map fun i => (i, spAt Q i)) = (A ++ (rootedK Q (PL Q) k col).ns).map fun i => (i, spAt Q i)
  | 0, [], A, post, left, _, _, _, _ => by simp [rootedK, growF, Bu.ns]
  | k + 1, [], A, post, left, _, _, _, _ => by simp [rootedK, growF, Bu.ns]
  | 0, _ :: _, _, _, _, _, _, h, _ => h.elim
  | k + 1, c :: cs, A, post, left, ok, hl, ⟨r1, r2⟩, e => by
    have hcl := ok.lt c (by simp)
    have hleft := hl c (by simp)
    have e0 : (rootedK Q (PL Q) (k + 1) (c :: cs)) = .node c (rootedK Q (PL Q) k (columnOf Q (PL Q) (some c))) (rootedK Q (PL Q) k cs) := rfl
    rw [e0] at e ⊢
    simp only [Bu.ns] at e ⊢
    rw [growF]
    have sz := hsz c hcl
    have pl := place_at hQ hc (pre := A) (j := c) (post := (rootedK Q (PL Q) k (columnOf Q (PL Q) (some c))).ns ++ (rootedK Q (PL Q) k cs).ns ++ post) (by rw [e]; simp)
    have em : (A.map fun i => (i, spAt Q i)).map (·.2) = A.map (spAt Q) := by rw [List.map_map]; rfl
    have es : (⟨left, restOn ((A.map fun i => (i, spAt Q i)).map (·.2)) left (szAt zs c).1, (szAt zs c).1, (szAt zs c).2⟩ : Spot) = spAt Q c := by
      rw [em, ← sz.1, ← sz.2, ← hleft, pl]
    rw [es]
    have ea : (A.map fun i => (i, spAt Q i)) ++ [(c, spAt Q c)] = (A ++ [c]).map fun i => (i, spAt Q i) := by simp
    rw [ea]
    have g1 := grow_back hQ hc hsz k (columnOf Q (PL Q) (some c)) (A ++ [c]) ((rootedK Q (PL Q) k cs).ns ++ post) (left + (szAt zs c).1) (col_ok hQ hc (some c)) (fun d hd => by
      obtain ⟨h1, h2⟩ := mem_col.mp hd
      by_cases z : 0 < (spAt Q d).l
      · rw [par_some h1 z] at h2
        have f := par_face hQ hc h1 z
        rw [Option.some.inj h2] at f
        omega
      · rw [par_none z] at h2; cases h2) r1 (by rw [e]; simp)
    rw [g1]
    have g2 := grow_back hQ hc hsz k cs (A ++ [c] ++ (rootedK Q (PL Q) k (columnOf Q (PL Q) (some c))).ns) post left ok.tail (fun d hd => hl d (by simp [hd])) r2 (by rw [e]; simp)
    rw [g2]
    congr 1
    simp
theorem bush_back (hQ : PackOk Q) (hc : isCompact Q = true) {zs : List Sz} (hlen : zs.length = Q.length) (hsz : ∀ i, i < Q.length → (spAt Q i).w = (szAt zs i).1 ∧ (spAt Q i).h = (szAt zs i).2) :
    BushOk zs (rootedK Q (PL Q) 20 (columnOf Q (PL Q) none)) ∧ bushSpots zs (rootedK Q (PL Q) 20 (columnOf Q (PL Q) none)) = Q := by
  have hb : BushOk zs (rootedK Q (PL Q) 20 (columnOf Q (PL Q) none)) := by
    unfold BushOk; rw [hlen]; exact wk_perm hQ hc
  refine ⟨hb, spots_ext (by rw [bush_len, hlen]) fun i hi => ?_⟩
  have hm := bush_at hb (show i < zs.length by rw [hlen]; exact hi)
  have g := grow_back hQ hc hsz 20 (columnOf Q (PL Q) none) [] [] 0 (col_ok hQ hc none) (fun c hcm => by
    obtain ⟨h1, h2⟩ := mem_col.mp hcm
    by_cases z : 0 < (spAt Q c).l
    · rw [par_some h1 z] at h2; cases h2
    · have := hQ.pk.nn c h1; omega) (roots_rok hQ hc) (by simp)
  simp only [List.map_nil, List.nil_append] at g
  rw [g] at hm
  obtain ⟨x, _, ex⟩ := List.mem_map.mp hm
  have e1 : x = i := congrArg Prod.fst ex
  have e2 : spAt Q x = spAt (bushSpots zs (rootedK Q (PL Q) 20 (columnOf Q (PL Q) none))) i := congrArg Prod.snd ex
  rw [← e2, e1]
end
end Fl

/-! FloMf -/
/-! The mathematics: the least area, and all together. -/
namespace Fl
open PySem
theorem packOk_le {Q P : List Spot} (hP : PackOk P) (le : Le Q P) (p : Pk Q.length (spAt Q)) : PackOk Q := by
  have el := le.len
  refine packOk_of (by rw [el]; exact hP.lo) (by rw [el]; exact hP.hi) p fun i hi => ?_
  have hi' : i < P.length := by rw [← el]; exact hi
  have h1 := le.le i hi'
  have h2 := spotOk_iff.mp (hP.ok _ (spAt_mem hi'))
  omega
theorem area_le {Q P : List Spot} (hQ : PackOk Q) (hlen : Q.length = P.length) (h : ∀ i, i < P.length → (spAt Q i).l ≤ (spAt P i).l ∧ (spAt Q i).b ≤ (spAt P i).b ∧ (spAt Q i).w = (spAt P i).w ∧ (spAt Q i).h = (spAt P i).h) : wid Q * hei Q ≤ wid P * hei P := by
  have a := pack_area hQ
  have ne : ∀ f : Spot → Int, Q.map f ≠ [] := fun f z => hQ.ne (List.map_eq_nil_iff.mp z)
  have w : wid Q ≤ wid P := by
    obtain ⟨s, hs, e⟩ := List.mem_map.mp (maxL_mem (ne fun s => s.l + s.w))
    obtain ⟨i, hi, rfl⟩ := List.mem_iff_getElem.mp hs
    have ei : spAt Q i = Q[i] := by unfold spAt; simp [hi]
    have hi' : i < P.length := by rw [← hlen]; exact hi
    have h1 := h i hi'
    have h2 : (spAt P i).l + (spAt P i).w ≤ wid P := le_maxL (List.mem_map.mpr ⟨_, spAt_mem hi', rfl⟩)
    have e : (spAt Q i).l + (spAt Q i).w = wid Q := by rw [ei]; exact e
    omega
  have hh : hei Q ≤ hei P := by
    obtain ⟨s, hs, e⟩ := List.mem_map.mp (maxL_mem (ne fun s => s.b + s.h))
    obtain ⟨i, hi, rfl⟩ := List.mem_iff_getElem.mp hs
    have ei : spAt Q i = Q[i] := by unfold spAt; simp [hi]
    have hi' : i < P.length := by rw [← hlen]; exact hi
    have h1 := h i hi'
    have h2 : (spAt P i).b + (spAt P i).h ≤ hei P := le_maxL (List.mem_map.mpr ⟨_, spAt_mem hi', rfl⟩)
    have e : (spAt Q i).b + (spAt Q i).h = hei Q := by rw [ei]; exact e
    omega
  exact Int.mul_le_mul w hh (by omega) (by omega)
/-! ### the least bush -/
theorem better_fold (zs : List Sz) : ∀ (Bs : List Bu) (q : Int × Bu), ∃ A b, Bs.foldl (better zs) (some q) = some (A, b) ∧ ((A, b) = q ∨ (b ∈ Bs ∧ A = bushArea zs b)) ∧ A ≤ q.1 ∧ ∀ b' ∈ Bs, A ≤ bushArea zs b'
  | [], q => ⟨q.1, q.2, rfl, .inl rfl, Int.le_refl _, fun b' h => by simp at h⟩
  | c :: Bs, q => by
    rw [List.foldl_cons]
    by_cases h : bushArea zs c < q.1
    · have e : better zs (some q) c = some (bushArea zs c, c) := by unfold better; simp only; rw [if_pos h]
      rw [e]
      obtain ⟨A, b, h1, h2, h3, h4⟩ := better_fold zs Bs (bushArea zs c, c)
      have h3 : A ≤ bushArea zs c := h3
      refine ⟨A, b, h1, .inr ?_, by omega, fun b' hb => ?_⟩
      · rcases h2 with h2 | h2
        · cases h2; exact ⟨by simp, rfl⟩
        · exact ⟨by simp [h2.1], h2.2⟩
      · rcases List.mem_cons.mp hb with e | e
        · rw [e]; exact h3
        · exact h4 b' e
    · have e : better zs (some q) c = some q := by unfold better; simp only; rw [if_neg h]
      rw [e]
      obtain ⟨A, b, h1, h2, h3, h4⟩ := better_fold zs Bs q
      refine ⟨A, b, h1, ?_, h3, fun b' hb => ?_⟩
      · rcases h2 with h2 | h2
        · exact .inl h2
        · exact .inr ⟨by simp [h2.1], h2.2⟩
      · rcases List.mem_cons.mp hb with e | e
        · rw [e]; omega
        · exact h4 b' e
theorem shapes_all : ∀ b : Bu, b ∈ shapes b.ns
  | .nil => by rw [Bu.ns, shapes_nil]; simp
  | .node n l r => by
    rw [Bu.ns, shapes_cons]
    refine List.mem_flatMap.mpr ⟨l.ns.length, List.mem_range.mpr (by rw [List.length_append]; omega), ?_⟩
    rw [List.take_left' rfl, List.drop_left' rfl]
    exact List.mem_flatMap.mpr ⟨l, shapes_all l, List.mem_map.mpr ⟨r, shapes_all r, rfl⟩⟩
theorem ord_of_perm {n : Nat} {o : List Nat} (h : o.Perm (List.range n)) : IsOrd n o := ⟨by have := h.length_eq; simpa using this, fun i hi => List.mem_range.mp (h.mem_iff.mp hi), h.nodup_iff.mpr List.nodup_range⟩
abbrev allBs (zs : List Sz) : List Bu := (perms zs.length).flatMap shapes
theorem mem_bs {zs : List Sz} {b : Bu} : b ∈ allBs zs ↔ BushOk zs b := by
  constructor
  · intro h
    obtain ⟨o, ho, hb⟩ := List.mem_flatMap.mp h
    unfold BushOk
    rw [shapes_ns o.length o (Nat.le_refl _) b hb]
    exact ord_perm (perms_ord ho)
  · intro h
    exact List.mem_flatMap.mpr ⟨b.ns, perms_all (ord_of_perm h), shapes_all b⟩
theorem bestBush_spec (zs : List Sz) : ∃ A b, bestBush zs = some (A, b) ∧ BushOk zs b ∧ A = bushArea zs b ∧ ∀ b', BushOk zs b' → A ≤ bushArea zs b' := by
  have hne : ∃ b0, BushOk zs b0 := by
    have : ∀ o : List Nat, ∃ b : Bu, b.ns = o := by
      intro o
      induction o with
      | nil => exact ⟨.nil, rfl⟩
      | cons x xs ih =>
        obtain ⟨b, hb⟩ := ih
        exact ⟨.node x .nil b, by simp [Bu.ns, hb]⟩
    obtain ⟨b, hb⟩ := this (List.range zs.length)
    exact ⟨b, by unfold BushOk; rw [hb]⟩
  obtain ⟨b0, hb0⟩ := hne
  have hm0 := mem_bs.mpr hb0
  have hne2 : allBs zs ≠ [] := fun z => by rw [z] at hm0; simp at hm0
  obtain ⟨c, Bs, e⟩ := List.exists_cons_of_ne_nil hne2
  obtain ⟨A, b, h1, h2, h3, h4⟩ := better_fold zs Bs (bushArea zs c, c)
  have h3 : A ≤ bushArea zs c := h3
  refine ⟨A, b, ?_, ?_, ?_, fun b' hb' => ?_⟩
  · show (allBs zs).foldl (better zs) none = _
    rw [e, List.foldl_cons]
    exact h1
  · rw [← mem_bs, e]
    rcases h2 with h2 | h2
    · cases h2; simp
    · simp [h2.1]
  · rcases h2 with h2 | h2
    · cases h2; rfl
    · exact h2.2
  · have := mem_bs.mpr hb'
    rw [e] at this
    rcases List.mem_cons.mp this with e | e
    · rw [e]; exact h3
    · exact h4 b' e
theorem bushArea_eq {zs : List Sz} (h1 : 1 ≤ zs.length) {b : Bu} (hb : BushOk zs b) : bushArea zs b = wid (bushSpots zs b) * hei (bushSpots zs b) := by
  unfold bushArea
  rw [(bush_wid h1 hb).1, (bush_wid h1 hb).2]
/-! ### the least row -/
def arD : D → Int
  | .tup (.int a :: _) => a
  | _ => 0
theorem row_lt (zs : List Sz) (f s f' s' : List Nat) : (PySem.W.dataLt (rowD zs f s).py (rowD zs f' s').py = true → packArea zs f s ≤ packArea zs f' s') ∧ (PySem.W.dataLt (rowD zs f s).py (rowD zs f' s').py = false → packArea zs f' s' ≤ packArea zs f s) := by
  by_cases e : packArea zs f s = packArea zs f' s'
  · exact ⟨fun _ => by omega, fun _ => by omega⟩
  · have h : PySem.W.dataLt (rowD zs f s).py (rowD zs f' s').py = decide (packArea zs f s < packArea zs f' s') := by
      show PySem.W.dataLt (.tuple (.int _ :: _)) (.tuple (.int _ :: _)) = _
      rw [PySem.W.dataLt_tuple, PySem.W.dataLt_all_no rfl (by
        have : ¬ (PyData.eqv (.int (packArea zs f s)) (.int (packArea zs f' s')) = true) := fun h => e (by simpa [PyData.eqv] using h)
        simpa using this), PySem.W.dataLt_int]
    rw [h]
    exact ⟨fun h => by have := of_decide_eq_true h; omega, fun h => by have := of_decide_eq_false h; omega⟩
def IsRow (zs : List Sz) (d : D) : Prop := ∃ f s, d = rowD zs f s
theorem minF_area (zs : List Sz) : ∀ (xs : List D) (x : D), IsRow zs x → (∀ y ∈ xs, IsRow zs y) → arD (minF x xs) ≤ arD x ∧ ∀ y ∈ xs, arD (minF x xs) ≤ arD y
  | [], x, _, _ => ⟨Int.le_refl _, fun y h => by simp at h⟩
  | y :: ys, x, hx, hys => by
    obtain ⟨f, s, rfl⟩ := hx
    obtain ⟨f', s', hy⟩ := hys y (by simp)
    subst hy
    have rl := row_lt zs f' s' f s
    have e : minF (rowD zs f s) (rowD zs f' s' :: ys) = minF (if PySem.W.dataLt (rowD zs f' s').py (rowD zs f s).py then rowD zs f' s' else rowD zs f s) ys := rfl
    rw [e]
    have a1 : arD (rowD zs f s) = packArea zs f s := rfl
    have a2 : arD (rowD zs f' s') = packArea zs f' s' := rfl
    cases hb : PySem.W.dataLt (rowD zs f' s').py (rowD zs f s).py with
    | true =>
      obtain ⟨h1, h2⟩ := minF_area zs ys (rowD zs f' s') ⟨f', s', rfl⟩ fun z hz => hys z (by simp [hz])
      have := rl.1 hb
      rw [if_pos rfl]
      refine ⟨by omega, fun z hz => ?_⟩
      rcases List.mem_cons.mp hz with e | e
      · rw [e]; exact h1
      · exact h2 z e
    | false =>
      obtain ⟨h1, h2⟩ := minF_area zs ys (rowD zs f s) ⟨f, s, rfl⟩ fun z hz => hys z (by simp [hz])
      have := rl.2 hb
      rw [if_neg (by simp)]
      refine ⟨h1, fun z hz => ?_⟩
      rcases List.mem_cons.mp hz with e | e
      · rw [e]; omega
      · exact h2 z e
theorem minRow_spec (zs : List Sz) : ∃ f s, IsOrd zs.length f ∧ IsOrd zs.length s ∧ minRow (rowsD zs) = rowD zs f s ∧ ∀ f' s', IsOrd zs.length f' → IsOrd zs.length s' → packArea zs f s ≤ packArea zs f' s' := by
  have hin : ∀ f s, IsOrd zs.length f → IsOrd zs.length s → rowD zs f s ∈ rowsD zs := fun f s h1 h2 => List.mem_flatMap.mpr ⟨f, perms_all h1, List.mem_map.mpr ⟨s, perms_all h2, rfl⟩⟩
  have hne : rowsD zs ≠ [] := fun z => by
    have := hin _ _ (range_ord _) (range_ord _)
    rw [z] at this; simp at this
  obtain ⟨d0, ds, e⟩ := List.exists_cons_of_ne_nil hne
  have hrow : ∀ d ∈ rowsD zs, IsRow zs d := fun d hd => by
    obtain ⟨f, s, _, _, e⟩ := rows_mem hd
    exact ⟨f, s, e⟩
  have em : minRow (rowsD zs) = minF d0 ds := by rw [e]; rfl
  have hm : minF d0 ds ∈ rowsD zs := by rw [e]; exact minF_mem d0 ds
  obtain ⟨f, s, hf, hs, e2⟩ := rows_mem hm
  refine ⟨f, s, perms_ord hf, perms_ord hs, em.trans e2, fun f' s' h1 h2 => ?_⟩
  obtain ⟨a1, a2⟩ := minF_area zs ds d0 (hrow d0 (by rw [e]; simp)) fun y hy => hrow y (by rw [e]; simp [hy])
  have hin2 := hin f' s' h1 h2
  rw [e2] at a1 a2
  have a3 : arD (rowD zs f s) ≤ arD (rowD zs f' s') := by
    rw [e] at hin2
    rcases List.mem_cons.mp hin2 with z | z
    · rw [z]; exact a1
    · exact a2 _ z
  exact a3
/-! ### a packing, slid home -/
theorem home {zs : List Sz} {f s : List Nat} (hz : Few 9 zs) (h1 : 1 ≤ zs.length) (h7 : zs.length ≤ 7) (g1 : IsOrd zs.length f) (g2 : IsOrd zs.length s) {m : Nat} (hm : turnP (iterT (packedIn zs f s) m) = iterT (packedIn zs f s) m) :
    Le (iterT (packedIn zs f s) m) (packedIn zs f s) ∧ PackOk (iterT (packedIn zs f s) m) ∧ isCompact (iterT (packedIn zs f s) m) = true ∧ (∀ i, i < (iterT (packedIn zs f s) m).length → (spAt (iterT (packedIn zs f s) m) i).w = (szAt zs i).1 ∧ (spAt (iterT (packedIn zs f s) m) i).h = (szAt zs i).2) ∧ zs.length = (iterT (packedIn zs f s) m).length := by
  have p0 := packed_pk hz g1 g2
  have ok0 := packed_ok hz h1 (by omega) g1 g2
  have p1 : Pk (packedIn zs f s).length (spAt (packedIn zs f s)) := by rw [packedIn_len]; exact p0
  obtain ⟨p2, le⟩ := iterT_pk p1 m
  have el : (iterT (packedIn zs f s) m).length = zs.length := by rw [iterT_len, packedIn_len]
  refine ⟨le, packOk_le ok0 le p2, held_of p2 hm, fun i hi => ?_, el.symm⟩
  rw [el] at hi
  have := le.le i (by rw [packedIn_len]; exact hi)
  have e := packed_sp (zs := zs) (f := f) (s := s) hi
  rw [this.2.2.1, this.2.2.2, e]
  exact ⟨rfl, rfl⟩
theorem mth : Mth where
  cmb zs b hz h1 h8 hb := by
    rw [(bush_wid h1 hb).1, (bush_wid h1 hb).2]
    exact pack_cmul (bush_pack hz h1 h8 hb)
  cmp zs f s hz h1 h8 g1 g2 := pack_cmul (packed_ok hz h1 h8 g1 g2)
  best zs hz h1 h3 := by
    obtain ⟨A, b, e1, hb, hA, hmin⟩ := bestBush_spec zs
    obtain ⟨f, s, g1, g2, e2, hmin2⟩ := minRow_spec zs
    have eA : A = wid (bushSpots zs b) * hei (bushSpots zs b) := by rw [hA, bushArea_eq h1 hb]
    have hP := bush_pack hz h1 (by omega) hb
    -- no packing is smaller than the best bush
    have le1 : packArea zs f s ≤ A := by
      obtain ⟨o1, _⟩ := sortBy_ord hP true
      obtain ⟨o2, _⟩ := sortBy_ord hP false
      rw [bush_len] at o1 o2
      have u := under_all hP bush_len (fun i hi => bush_size hz hb hi)
      have ok := packed_ok hz h1 (by omega) o1 o2
      have a := area_le (Q := packedIn zs (sortBy (bushSpots zs b) true) (sortBy (bushSpots zs b) false)) (P := bushSpots zs b) ok (by rw [packedIn_len, bush_len]) fun i hi => by
        rw [bush_len] at hi
        have u1 := u i hi
        have z1 := bush_size hz hb hi
        have e := packed_sp (zs := zs) (f := sortBy (bushSpots zs b) true) (s := sortBy (bushSpots zs b) false) hi
        refine ⟨u1.1, u1.2, ?_, ?_⟩
        · rw [z1.1, e]
        · rw [z1.2, e]
      have m := hmin2 _ _ o1 o2
      rw [eA]
      exact Int.le_trans m a
    have le2 : A ≤ packArea zs f s := by
      have p0 := packed_pk hz g1 g2
      have p1 : Pk (packedIn zs f s).length (spAt (packedIn zs f s)) := by rw [packedIn_len]; exact p0
      obtain ⟨m, _, hm⟩ := loop_ends p1 (packed_phi hz (by omega) g1 g2)
      obtain ⟨le, ok, cp, szs, el⟩ := home hz h1 (by omega) g1 g2 hm
      obtain ⟨hb', e'⟩ := bush_back ok cp el szs
      have a := hmin _ hb'
      rw [bushArea_eq h1 hb', e'] at a
      exact Int.le_trans a (area_le ok le.len le.le)
    have e : A = packArea zs f s := by omega
    exact ⟨A, b, e1, hb, eA.symm, dOrd f, dOrd s, by rw [e2, e]; rfl⟩
  cms Q h := pack_cmul h
  bush zs b hz h1 h8 hb := bush_pack hz h1 h8 hb
  sortable Q h z := sortable_all h z
  sorted Q h z := (sortBy_ord h z).1
  under zs b hz h1 h8 hb := under_all (bush_pack hz h1 h8 hb) bush_len (fun i hi => bush_size hz hb hi)
  loop zs f s hz h1 h7 g1 g2 := by
    have p1 : Pk (packedIn zs f s).length (spAt (packedIn zs f s)) := by rw [packedIn_len]; exact packed_pk hz g1 g2
    exact loop_ends p1 (packed_phi hz h7 g1 g2)
  fin zs f s m hz h1 h7 g1 g2 hm := by
    obtain ⟨le, ok, cp, szs, el⟩ := home hz h1 h7 g1 g2 hm
    obtain ⟨hb', e'⟩ := bush_back ok cp el szs
    exact ⟨ok, cp, roots_rok ok cp, hb', e'⟩
  compact Q h := compact_same h
end Fl

open PySem PySem.W PyProof.Rows in
set_option maxRecDepth 100000 in
set_option maxHeartbeats 0 in
theorem PySem.Challenge.cw_chipfloor_k96_whole_bushes_of_floors_holds : PySem.Challenge.rw_chipfloor_k96_whole_bushes_of_floors.Holds := by
  w_on; o_law; k_head; (case hw => w_witness2)
  k_fill
  refine LamX.walk_ofTs (l := PySem.Challenge.rw_chipfloor_k96_whole_bushes_of_floors) (k := 31) (x := "_law_script") (CX := fun _ => L2.CX0) rfl (by decide) rfl ⟨rfl, by decide, by decide⟩ (fun w h Y => PySem.W.km_in_of Y) ?F (fun _ _ _ _ _ z => z)
  case F =>
    intro w mg fa h Y KX G hmg
    refine' Fl.law_end Fl.mth KX G hmg 307 319 (fun P hP => PySem.W.km_tabs_of Y P ?tb) ?De ?Bn ?Cn ?Db ?Dc ?hdB ?hdC ?nkB ?nkC ?neP ?nlK ?a ?l ?c ?k
    (case a => k_is); (case l => k_is); (case c => k_is); (case k => k_is)
    (case De =>
      refine' ⟨?d1, ?d2, ?d3, ?d14, ?d17, ?d18, ?d19, ?d20, ?d21, ?d22, ?d23, ?d24, ?d25, ?d26, ?d27, ?d28, ?d29, ?d30, ?d31, ?d32, ?d33, ?d35, ?d36, ?d37, ?d38, ?d39, ?d40, ?d41, ?d42, ?d43, ?d44, ?d46, ?d48, ?d50, ?d51, ?d52, ?d53, ?d54, ?d55⟩
      (case d1 => refine' Fl.df_mk KX G (fun _ _ _ _ _ _ us hl => match us, hl with | [_], _ => rfl) ?a ?l ?c ?k; (case a => k_is); (case l => k_is); (case c => k_is); (case k => k_is))
      (case d2 => refine' Fl.df_mk KX G (fun _ _ _ _ _ _ us hl => match us, hl with | [_, _, _], _ => rfl) ?a ?l ?c ?k; (case a => k_is); (case l => k_is); (case c => k_is); (case k => k_is))
      (case d3 => refine' Fl.df_mk KX G (fun _ _ _ _ _ _ us hl => match us, hl with | [_, _, _], _ => rfl) ?a ?l ?c ?k; (case a => k_is); (case l => k_is); (case c => k_is); (case k => k_is))
      (case d14 => refine' Fl.df_mk KX G (fun _ _ _ _ _ _ us hl => match us, hl with | [_], _ => rfl) ?a ?l ?c ?k; (case a => k_is); (case l => k_is); (case c => k_is); (case k => k_is))
      (case d17 => refine' Fl.df_mk KX G (fun _ _ _ _ _ _ us hl => match us, hl with | [_], _ => rfl) ?a ?l ?c ?k; (case a => k_is); (case l => k_is); (case c => k_is); (case k => k_is))
      (case d18 => refine' Fl.df_mk KX G (fun _ _ _ _ _ _ us hl => match us, hl with | [_], _ => rfl) ?a ?l ?c ?k; (case a => k_is); (case l => k_is); (case c => k_is); (case k => k_is))
      (case d19 => refine' Fl.df_mk KX G (fun _ _ _ _ _ _ us hl => match us, hl with | [_, _], _ => rfl) ?a ?l ?c ?k; (case a => k_is); (case l => k_is); (case c => k_is); (case k => k_is))
      (case d20 => refine' Fl.df_mk KX G (fun _ _ _ _ _ _ us hl => match us, hl with | [_], _ => rfl) ?a ?l ?c ?k; (case a => k_is); (case l => k_is); (case c => k_is); (case k => k_is))
      (case d21 => refine' Fl.df_mk KX G (fun _ _ _ _ _ _ us hl => match us, hl with | [_], _ => rfl) ?a ?l ?c ?k; (case a => k_is); (case l => k_is); (case c => k_is); (case k => k_is))
      (case d22 => refine' Fl.df_mk KX G (fun _ _ _ _ _ _ us hl => match us, hl with | [_], _ => rfl) ?a ?l ?c ?k; (case a => k_is); (case l => k_is); (case c => k_is); (case k => k_is))
      (case d23 => refine' Fl.df_mk KX G (fun _ _ _ _ _ _ us hl => match us, hl with | [_], _ => rfl) ?a ?l ?c ?k; (case a => k_is); (case l => k_is); (case c => k_is); (case k => k_is))
      (case d24 => refine' Fl.df_mk KX G (fun _ _ _ _ _ _ us hl => match us, hl with | [_, _], _ => rfl) ?a ?l ?c ?k; (case a => k_is); (case l => k_is); (case c => k_is); (case k => k_is))
      (case d25 => refine' Fl.df_mk KX G (fun _ _ _ _ _ _ us hl => match us, hl with | [_, _, _], _ => rfl) ?a ?l ?c ?k; (case a => k_is); (case l => k_is); (case c => k_is); (case k => k_is))
      (case d26 => refine' Fl.df_mk KX G (fun _ _ _ _ _ _ us hl => match us, hl with | [_, _, _], _ => rfl) ?a ?l ?c ?k; (case a => k_is); (case l => k_is); (case c => k_is); (case k => k_is))
      (case d27 => refine' Fl.df_mk KX G (fun _ _ _ _ _ _ us hl => match us, hl with | [_, _, _], _ => rfl) ?a ?l ?c ?k; (case a => k_is); (case l => k_is); (case c => k_is); (case k => k_is))
      (case d28 => refine' Fl.df_mk KX G (fun _ _ _ _ _ _ us hl => match us, hl with | [_, _], _ => rfl) ?a ?l ?c ?k; (case a => k_is); (case l => k_is); (case c => k_is); (case k => k_is))
      (case d29 => refine' Fl.df_mk KX G (fun _ _ _ _ _ _ us hl => match us, hl with | [_, _, _], _ => rfl) ?a ?l ?c ?k; (case a => k_is); (case l => k_is); (case c => k_is); (case k => k_is))
      (case d30 => refine' Fl.df_mk KX G (fun _ _ _ _ _ _ us hl => match us, hl with | [_, _], _ => rfl) ?a ?l ?c ?k; (case a => k_is); (case l => k_is); (case c => k_is); (case k => k_is))
      (case d31 => refine' Fl.df_mk KX G (fun _ _ _ _ _ _ us hl => match us, hl with | [_], _ => rfl) ?a ?l ?c ?k; (case a => k_is); (case l => k_is); (case c => k_is); (case k => k_is))
      (case d32 => refine' Fl.df_mk KX G (fun _ _ _ _ _ _ us hl => match us, hl with | [_], _ => rfl) ?a ?l ?c ?k; (case a => k_is); (case l => k_is); (case c => k_is); (case k => k_is))
      (case d33 => refine' Fl.df_mk KX G (fun _ _ _ _ _ _ us hl => match us, hl with | [_], _ => rfl) ?a ?l ?c ?k; (case a => k_is); (case l => k_is); (case c => k_is); (case k => k_is))
      (case d35 => refine' Fl.df_mk KX G (fun _ _ _ _ _ _ us hl => match us, hl with | [_], _ => rfl) ?a ?l ?c ?k; (case a => k_is); (case l => k_is); (case c => k_is); (case k => k_is))
      (case d36 => refine' Fl.df_mk KX G (fun _ _ _ _ _ _ us hl => match us, hl with | [_, _], _ => rfl) ?a ?l ?c ?k; (case a => k_is); (case l => k_is); (case c => k_is); (case k => k_is))
      (case d37 => refine' Fl.df_mk KX G (fun _ _ _ _ _ _ us hl => match us, hl with | [_, _, _], _ => rfl) ?a ?l ?c ?k; (case a => k_is); (case l => k_is); (case c => k_is); (case k => k_is))
      (case d38 => refine' Fl.df_mk KX G (fun _ _ _ _ _ _ us hl => match us, hl with | [_, _, _, _], _ => rfl) ?a ?l ?c ?k; (case a => k_is); (case l => k_is); (case c => k_is); (case k => k_is))
      (case d39 => refine' Fl.df_mk KX G (fun _ _ _ _ _ _ us hl => match us, hl with | [_, _], _ => rfl) ?a ?l ?c ?k; (case a => k_is); (case l => k_is); (case c => k_is); (case k => k_is))
      (case d40 => refine' Fl.df_mk KX G (fun _ _ _ _ _ _ us hl => match us, hl with | [_], _ => rfl) ?a ?l ?c ?k; (case a => k_is); (case l => k_is); (case c => k_is); (case k => k_is))
      (case d41 => refine' Fl.df_mk KX G (fun _ _ _ _ _ _ us hl => match us, hl with | [_], _ => rfl) ?a ?l ?c ?k; (case a => k_is); (case l => k_is); (case c => k_is); (case k => k_is))
      (case d42 => refine' Fl.df_mk KX G (fun _ _ _ _ _ _ us hl => match us, hl with | [_], _ => rfl) ?a ?l ?c ?k; (case a => k_is); (case l => k_is); (case c => k_is); (case k => k_is))
      (case d43 => refine' Fl.df_mk KX G (fun _ _ _ _ _ _ us hl => match us, hl with | [_, _, _], _ => rfl) ?a ?l ?c ?k; (case a => k_is); (case l => k_is); (case c => k_is); (case k => k_is))
      (case d44 => refine' Fl.df_mk KX G (fun _ _ _ _ _ _ us hl => match us, hl with | [_], _ => rfl) ?a ?l ?c ?k; (case a => k_is); (case l => k_is); (case c => k_is); (case k => k_is))
      (case d46 => refine' Fl.df_mk KX G (fun _ _ _ _ _ _ us hl => match us, hl with | [_, _], _ => rfl) ?a ?l ?c ?k; (case a => k_is); (case l => k_is); (case c => k_is); (case k => k_is))
      (case d48 => refine' Fl.df_mk KX G (fun _ _ _ _ _ _ us hl => match us, hl with | [_, _, _], _ => rfl) ?a ?l ?c ?k; (case a => k_is); (case l => k_is); (case c => k_is); (case k => k_is))
      (case d50 => refine' Fl.df_mk KX G (fun _ _ _ _ _ _ us hl => match us, hl with | [_, _], _ => rfl) ?a ?l ?c ?k; (case a => k_is); (case l => k_is); (case c => k_is); (case k => k_is))
      (case d51 => refine' Fl.df_mk KX G (fun _ _ _ _ _ _ us hl => match us, hl with | [_, _, _], _ => rfl) ?a ?l ?c ?k; (case a => k_is); (case l => k_is); (case c => k_is); (case k => k_is))
      (case d52 => refine' Fl.df_mk KX G (fun _ _ _ _ _ _ us hl => match us, hl with | [_, _], _ => rfl) ?a ?l ?c ?k; (case a => k_is); (case l => k_is); (case c => k_is); (case k => k_is))
      (case d53 => refine' Fl.df_mk KX G (fun _ _ _ _ _ _ us hl => match us, hl with | [_, _], _ => rfl) ?a ?l ?c ?k; (case a => k_is); (case l => k_is); (case c => k_is); (case k => k_is))
      (case d54 => refine' Fl.df_mk KX G (fun _ _ _ _ _ _ us hl => match us, hl with | [_, _], _ => rfl) ?a ?l ?c ?k; (case a => k_is); (case l => k_is); (case c => k_is); (case k => k_is))
      (case d55 => refine' Fl.df_mk KX G (fun _ _ _ _ _ _ us hl => match us, hl with | [_], _ => rfl) ?a ?l ?c ?k; (case a => k_is); (case l => k_is); (case c => k_is); (case k => k_is))
      )
    (case Bn => refine' ⟨PySem.W.mg_none_of KX G ?n0, PySem.W.mg_none_of KX G ?n1, PySem.W.mg_none_of KX G ?n2, PySem.W.mg_none_of KX G ?n3, PySem.W.mg_none_of KX G ?n4, PySem.W.mg_none_of KX G ?n5, PySem.W.mg_none_of KX G ?n6, PySem.W.mg_none_of KX G ?n7, PySem.W.mg_none_of KX G ?n8, PySem.W.mg_none_of KX G ?n9, PySem.W.mg_none_of KX G ?n10, PySem.W.mg_none_of KX G ?n11, PySem.W.mg_none_of KX G ?n12, PySem.W.mg_none_of KX G ?n13⟩; (case n0 => k_is); (case n1 => k_is); (case n2 => k_is); (case n3 => k_is); (case n4 => k_is); (case n5 => k_is); (case n6 => k_is); (case n7 => k_is); (case n8 => k_is); (case n9 => k_is); (case n10 => k_is); (case n11 => k_is); (case n12 => k_is); (case n13 => k_is))
    (case Cn => refine' Fl.consts_mk KX G ?c1 ?c2 ?c3; (case c1 => k_is); (case c2 => k_is); (case c3 => k_is))
    (case Db => refine' Fl.dfL_mk KX G (fun _ _ _ _ _ _ us hl => match us, hl with | [_], _ => rfl) ?a ?l ?c ?k; (case a => k_is); (case l => k_is); (case c => k_is); (case k => k_is))
    (case Dc => refine' Fl.dfL_mk KX G (fun _ _ _ _ _ _ us hl => match us, hl with | [_, _, _], _ => rfl) ?a ?l ?c ?k; (case a => k_is); (case l => k_is); (case c => k_is); (case k => k_is))
    (case tb => simp at hP ⊢; exact hP.symm)
    (case hdB => kernel_rfl)
    (case hdC => kernel_rfl)
    (case nkB => kernel_rfl)
    (case nkC => kernel_rfl)
    (case neP => decide)
    (case nlK => kernel_rfl)
