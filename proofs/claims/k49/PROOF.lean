import PyProof.Rows.All
import Wide.All
import OpenK.AllK
import Wide.FinOn
import HandS.ForMost
import HandS.IsInst
import HandS.TupAny
import HandS.TupMul
import HandS.RaiseMore
import HandS.Flow
import HandS.Zip
import HandS.Wide
import PyProof.ListStr
import PyProof.TupleOfStr
import HandS.SortInts
import HandS.FStr
import HandS.More
import HandS.Star
import KE.KUnpackStar
import HandS.HotCalls
import HandS.Nested
import HandS.ExcCtx
import HandS.ExcIs
import HandS.GenList
import PyProof.JoinWalk
import PyProof.ReprRoads
import HandS.Ends
import HandS.Head2
import HandS.HeadEnd
import HandS.HeadHook4
import PySem.Challenge.RW_pushalike_k49_papers_written
set_option Elab.async false
set_option linter.all false
set_option maxRecDepth 100000
set_option maxHeartbeats 4000000
/-! FL, a functional layer over HandS: data D, a store Mu of mutable lists and dicts, results Rs; an expression is read as a plain function of the slots' data and the store. -/
namespace FL
open PySem PySem.Spec PyProof.Rows L2
set_option autoImplicit false

/-! ### data, stores, results -/
inductive D where
  | non | bl (b : Bool) | int (i : Int) | str (x : Str) | tup (ds : List D) | lst (ds : List D) | rol (ds : List D) | dct (kvs : List (Key × D)) | ref (k : Nat) | ty (n : String) | cls (C : Addr)
inductive Ob where
  | lst (ds : List D) | dct (kvs : List (Key × D))
abbrev Mu := List Ob
abbrev Rho := List (Option D)
inductive Rs (α : Type) where
  | ok (a : α) (μ : Mu) | ex (C : Addr) (fs : List (Str × D)) (μ : Mu) | no
def Rs.bind {α β : Type} (r : Rs α) (f : α → Mu → Rs β) : Rs β := match r with
  | .ok a μ => f a μ
  | .ex C fs μ => .ex C fs μ
  | .no => .no
theorem bind_ok {α β : Type} (a : α) (μ : Mu) (f : α → Mu → Rs β) : (Rs.ok a μ).bind f = f a μ := rfl
theorem bind_ex {α β : Type} (C : Addr) (fs : List (Str × D)) (μ : Mu) (f : α → Mu → Rs β) : (Rs.ex C fs μ : Rs α).bind f = .ex C fs μ := rfl
theorem bind_no {α β : Type} (f : α → Mu → Rs β) : (Rs.no : Rs α).bind f = .no := rfl

/-! ### worlds: the tracked mutable objects, the addresses that frozen data does not use, the abstract heap -/
structure Wd where
  loc : List Addr
  ban : List Addr
  H : Hp
  sub : ∀ b ∈ loc, b ∈ ban
structure Ext (w w' : Wd) : Prop where
  loc : ∃ more, w'.loc = w.loc ++ more
  kept : ∀ b o, w.H b = some o → b ∉ w.loc → w'.H b = some o
  out : ∀ b o, w.H b = some o → b ∉ w.loc → b ∉ w'.loc
  fre : ∀ b o, w.H b = some o → b ∉ w.ban → b ∉ w'.ban
  ban : ∀ b ∈ w.ban, b ∈ w'.ban
theorem Ext.refl (w : Wd) : Ext w w := ⟨⟨[], (List.append_nil _).symm⟩, fun _ _ h _ => h, fun _ _ _ h => h, fun _ _ _ h => h, fun _ h => h⟩
theorem Ext.trans {a b c : Wd} (x : Ext a b) (y : Ext b c) : Ext a c := by
  obtain ⟨m1, e1⟩ := x.loc
  obtain ⟨m2, e2⟩ := y.loc
  refine ⟨⟨m1 ++ m2, by rw [e2, e1, List.append_assoc]⟩, fun q o h n => y.kept q o (x.kept q o h n) (x.out q o h n), fun q o h n => y.out q o (x.kept q o h n) (x.out q o h n), fun q o h n => ?_, fun q h => y.ban q (x.ban q h)⟩
  have n' : q ∉ a.loc := fun z => n (a.sub q z)
  exact y.fre q o (x.kept q o h n') (x.fre q o h n)
theorem Ext.at {w w' : Wd} (e : Ext w w') {k : Nat} {a : Addr} (h : w.loc[k]? = some a) : w'.loc[k]? = some a := by
  obtain ⟨m, q⟩ := e.loc
  rw [q, List.getElem?_append_left (List.getElem?_eq_some_iff.mp h).1]
  exact h
/-- what data leans on -/
structure Wk (w w' : Wd) : Prop where
  loc : ∃ more, w'.loc = w.loc ++ more
  kept : ∀ b o, w.H b = some o → b ∉ w.ban → w'.H b = some o ∧ b ∉ w'.ban
theorem Ext.wk {w w' : Wd} (e : Ext w w') : Wk w w' := ⟨e.loc, fun b o h n => ⟨e.kept b o h fun z => n (w.sub b z), e.fre b o h n⟩⟩
theorem Wk.at {w w' : Wd} (e : Wk w w') {k : Nat} {a : Addr} (h : w.loc[k]? = some a) : w'.loc[k]? = some a := by
  obtain ⟨m, q⟩ := e.loc
  rw [q, List.getElem?_append_left (List.getElem?_eq_some_iff.mp h).1]
  exact h
theorem Wk.rd {w w' : Wd} (e : Wk w w') {a : Addr} {u : HO} (n : a ∉ w.ban) (r : Rd w.H a u) : Rd w'.H a u ∧ a ∉ w'.ban := by
  rcases r with r | ⟨o, r⟩
  · exact ⟨.inl (e.kept _ _ r n).1, (e.kept _ _ r n).2⟩
  · exact ⟨.inr ⟨o, (e.kept _ _ r n).1⟩, (e.kept _ _ r n).2⟩
def H0 : Hp := fun _ => none
theorem sqT0 {K : PySem.W.Frag} {H : Hp} {a : Addr} {vs : List V} (h : SqT K H0 a vs) : SqT K H a vs := by
  rcases h with (h | ⟨o, h⟩) | h
  · cases h
  · cases h
  · exact .inr h
theorem sqL0 {K : PySem.W.Frag} {H : Hp} {a : Addr} {vs : List V} (h : SqL K H0 a vs) : SqL K H a vs := by
  rcases h with (h | ⟨o, h⟩) | h
  · cases h
  · cases h
  · exact .inr h
/-- a tuple, a list that does not change -/
def TupAt (K : PySem.W.Frag) (w : Wd) (a : Addr) (vs : List V) : Prop := (a ∉ w.ban ∧ Rd w.H a (.tup vs)) ∨ SqT K H0 a vs
def LstAt (K : PySem.W.Frag) (w : Wd) (a : Addr) (vs : List V) : Prop := (a ∉ w.ban ∧ Rd w.H a (.lst vs)) ∨ SqL K H0 a vs
theorem TupAt.sq {K : PySem.W.Frag} {w : Wd} {a : Addr} {vs : List V} (h : TupAt K w a vs) : SqT K w.H a vs := by
  rcases h with ⟨_, h⟩ | h
  · exact .inl h
  · exact sqT0 h
theorem LstAt.sq {K : PySem.W.Frag} {w : Wd} {a : Addr} {vs : List V} (h : LstAt K w a vs) : SqL K w.H a vs := by
  rcases h with ⟨_, h⟩ | h
  · exact .inl h
  · exact sqL0 h
theorem TupAt.wk {K : PySem.W.Frag} {w w' : Wd} {a : Addr} {vs : List V} (e : Wk w w') (h : TupAt K w a vs) : TupAt K w' a vs := by
  rcases h with ⟨n, h⟩ | h
  · obtain ⟨h1, h2⟩ := e.rd n h
    exact .inl ⟨h2, h1⟩
  · exact .inr h
theorem LstAt.wk {K : PySem.W.Frag} {w w' : Wd} {a : Addr} {vs : List V} (e : Wk w w') (h : LstAt K w a vs) : LstAt K w' a vs := by
  rcases h with ⟨n, h⟩ | h
  · obtain ⟨h1, h2⟩ := e.rd n h
    exact .inl ⟨h2, h1⟩
  · exact .inr h

/-! ### what a value holds -/
mutual
inductive Hv (K : PySem.W.Frag) (w : Wd) : V → D → Prop
  | non : Hv K w .non .non
  | bl (b : Bool) : Hv K w (.bl b) (.bl b)
  | int (i : Int) : Hv K w (.int i) (.int i)
  | str (x : Str) : Hv K w (.str x) (.str x)
  | tup {a : Addr} {vs : List V} {ds : List D} : TupAt K w a vs → HvL K w vs ds → Hv K w (.ref a) (.tup ds)
  | lst {a : Addr} {vs : List V} {ds : List D} : a ∉ w.ban → w.H a = some (.lst vs) → HvL K w vs ds → Hv K w (.ref a) (.lst ds)
  | rol {a : Addr} {vs : List V} {ds : List D} : LstAt K w a vs → HvL K w vs ds → Hv K w (.ref a) (.rol ds)
  | dct {a : Addr} {us : List (Key × V)} {kvs : List (Key × D)} : a ∉ w.ban → Rd w.H a (.dK us) → HvD K w us kvs → Hv K w (.ref a) (.dct kvs)
  | ref {a : Addr} {k : Nat} : w.loc[k]? = some a → Hv K w (.ref a) (.ref k)
  | ty (n : String) : Hv K w (.ty n) (.ty n)
  | cls (C : Addr) : Hv K w (.ref C) (.cls C)
inductive HvL (K : PySem.W.Frag) (w : Wd) : List V → List D → Prop
  | nil : HvL K w [] []
  | cons {v : V} {d : D} {vs : List V} {ds : List D} : Hv K w v d → HvL K w vs ds → HvL K w (v :: vs) (d :: ds)
inductive HvD (K : PySem.W.Frag) (w : Wd) : List (Key × V) → List (Key × D) → Prop
  | nil : HvD K w [] []
  | cons {k : Key} {v : V} {d : D} {us : List (Key × V)} {kvs : List (Key × D)} : Hv K w v d → HvD K w us kvs → HvD K w ((k, v) :: us) ((k, d) :: kvs)
end
section
variable {K : PySem.W.Frag} {w w' : Wd}
mutual
theorem Hv.wk (e : Wk w w') : ∀ {v : V} {d : D}, Hv K w v d → Hv K w' v d
  | _, _, .non => .non
  | _, _, .bl b => .bl b
  | _, _, .int i => .int i
  | _, _, .str x => .str x
  | _, _, .tup h l => .tup (h.wk e) (HvL.wk e l)
  | _, _, .lst n h l => .lst (e.kept _ _ h n).2 (e.kept _ _ h n).1 (HvL.wk e l)
  | _, _, .rol h l => .rol (h.wk e) (HvL.wk e l)
  | _, _, .dct n h l => .dct (e.rd n h).2 (e.rd n h).1 (HvD.wk e l)
  | _, _, .ref h => .ref (e.at h)
  | _, _, .ty n => .ty n
  | _, _, .cls C => .cls C
theorem HvL.wk (e : Wk w w') : ∀ {vs : List V} {ds : List D}, HvL K w vs ds → HvL K w' vs ds
  | _, _, .nil => .nil
  | _, _, .cons h l => .cons (Hv.wk e h) (HvL.wk e l)
theorem HvD.wk (e : Wk w w') : ∀ {us : List (Key × V)} {kvs : List (Key × D)}, HvD K w us kvs → HvD K w' us kvs
  | _, _, .nil => .nil
  | _, _, .cons h l => .cons (Hv.wk e h) (HvD.wk e l)
end
theorem Hv.ext (e : Ext w w') {v : V} {d : D} (h : Hv K w v d) : Hv K w' v d := h.wk e.wk
theorem HvL.ext (e : Ext w w') {vs : List V} {ds : List D} (h : HvL K w vs ds) : HvL K w' vs ds := h.wk e.wk
theorem HvD.ext (e : Ext w w') {us : List (Key × V)} {kvs : List (Key × D)} (h : HvD K w us kvs) : HvD K w' us kvs := h.wk e.wk
theorem HvL.length : ∀ {vs : List V} {ds : List D}, HvL K w vs ds → vs.length = ds.length
  | _, _, .nil => rfl
  | _, _, .cons _ l => congrArg (· + 1) (HvL.length l)
theorem HvL.get : ∀ {vs : List V} {ds : List D} {i : Nat} {d : D}, HvL K w vs ds → ds[i]? = some d → ∃ v, vs[i]? = some v ∧ Hv K w v d
  | _, _, 0, _, .cons h _, e => by
    simp only [List.getElem?_cons_zero, Option.some.injEq] at e
    exact ⟨_, rfl, e ▸ h⟩
  | _, _, i + 1, d, .cons _ l, e => HvL.get (i := i) l (by simpa using e)
theorem HvL.append : ∀ {vs us : List V} {ds es : List D}, HvL K w vs ds → HvL K w us es → HvL K w (vs ++ us) (ds ++ es)
  | _, _, _, _, .nil, l => l
  | _, _, _, _, .cons h t, l => .cons h (HvL.append t l)
theorem HvL.take : ∀ {vs : List V} {ds : List D} (n : Nat), HvL K w vs ds → HvL K w (vs.take n) (ds.take n)
  | _, _, 0, _ => by simpa using HvL.nil
  | _, _, n + 1, .nil => .nil
  | _, _, n + 1, .cons h l => .cons h (HvL.take n l)
theorem HvL.drop : ∀ {vs : List V} {ds : List D} (n : Nat), HvL K w vs ds → HvL K w (vs.drop n) (ds.drop n)
  | _, _, 0, l => l
  | _, _, n + 1, .nil => .nil
  | _, _, n + 1, .cons _ l => HvL.drop n l
theorem HvL.set : ∀ {vs : List V} {ds : List D} (n : Nat) {v : V} {d : D}, HvL K w vs ds → Hv K w v d → HvL K w (vs.set n v) (ds.set n d)
  | _, _, _, _, _, .nil, _ => .nil
  | _, _, 0, _, _, .cons _ l, q => .cons q l
  | _, _, n + 1, _, _, .cons h l, q => .cons h (HvL.set n l q)
theorem HvL.reverse : ∀ {vs : List V} {ds : List D}, HvL K w vs ds → HvL K w vs.reverse ds.reverse
  | _, _, .nil => .nil
  | _, _, .cons h l => by
    rw [List.reverse_cons, List.reverse_cons]
    exact (HvL.reverse l).append (.cons h .nil)
end

/-- what stands at a mutable object -/
def ObAt (K : PySem.W.Frag) (w : Wd) (a : Addr) : Ob → Prop
  | .lst ds => ∃ vs, w.H a = some (.lst vs) ∧ HvL K w vs ds
  | .dct kvs => ∃ us, w.H a = some (.dK us) ∧ HvD K w us kvs
structure Rep (K : PySem.W.Frag) (w : Wd) (μ : Mu) : Prop where
  len : w.loc.length = μ.length
  nd : w.loc.Nodup
  has : ∀ b ∈ w.ban, ∃ o, w.H b = some o
  ob : ∀ (k : Nat) (a : Addr) (o : Ob), w.loc[k]? = some a → μ[k]? = some o → ObAt K w a o

/-- what is wanted of a result -/
def XAt (K : PySem.W.Frag) (w : Wd) (dx : Option Addr) : List (Str × D) → Prop
  | [] => dx = none
  | fs => ∃ a us, dx = some a ∧ a ∉ w.ban ∧ w.H a = some (.xd us) ∧ us.map (·.1) = fs.map (·.1) ∧ HvL K w (us.map (·.2)) (fs.map (·.2))
def Post {α β : Type} (K : PySem.W.Frag) (E : XK) (R : Wd → β → α → Prop) (w : Wd) (Q : β → Hp → Prop) : Rs α → Prop
  | .ok a μ => ∀ b w', Ext w w' → Rep K w' μ → R w' b a → Q b w'.H
  | .ex C fs μ => ∀ dx w', Ext w w' → Rep K w' μ → XAt K w' dx fs → E (.ref C) dx w'.H
  | .no => False
section
variable {α β γ δ : Type} {K : PySem.W.Frag} {E : XK} {R : Wd → β → α → Prop} {S : Wd → δ → γ → Prop} {w w' : Wd} {Q : β → Hp → Prop} {Q' : δ → Hp → Prop}
theorem Post.ext {r : Rs α} (e : Ext w w') (h : Post K E R w Q r) : Post K E R w' Q r := by
  cases r with
  | ok a μ => exact fun b w2 e2 => h b w2 (e.trans e2)
  | ex C fs μ => exact fun dx w2 e2 => h dx w2 (e.trans e2)
  | no => exact h
theorem Post.thn {r : Rs γ} {f : γ → Mu → Rs α} (h : Post K E R w Q (r.bind f)) (k : ∀ c μ b w', Ext w w' → Rep K w' μ → S w' b c → Post K E R w' Q (f c μ) → Q' b w'.H) : Post K E S w Q' r := by
  cases r with
  | ok c μ => exact fun b w' e rp s => k c μ b w' e rp s (Post.ext e h)
  | ex C fs μ => exact h
  | no => exact h
theorem Post.mono {Q2 : β → Hp → Prop} {r : Rs α} (h : Post K E R w Q r) (k : ∀ b H, Q b H → Q2 b H) : Post K E R w Q2 r := by
  cases r with
  | ok a μ => exact fun b w2 e2 r2 h2 => k _ _ (h b w2 e2 r2 h2)
  | ex C fs μ => exact h
  | no => exact h
end

/-- slots and store as data -/
structure SR (K : PySem.W.Frag) (σ : L2.St) (w : Wd) (ρ : Rho) (μ : Mu) : Prop where
  rep : Rep K w μ
  len : σ.length = ρ.length
  env : ∀ (i : Nat) (d : D), ρ[i]? = some (some d) → ∃ v, σ[i]? = some (some v) ∧ Hv K w v d
theorem SR.ext {K : PySem.W.Frag} {σ : L2.St} {w w' : Wd} {ρ : Rho} {μ μ' : Mu} (s : SR K σ w ρ μ) (e : Ext w w') (r : Rep K w' μ') : SR K σ w' ρ μ' := by
  refine ⟨r, s.len, fun i d h => ?_⟩
  obtain ⟨v, h1, h2⟩ := s.env i d h
  exact ⟨v, h1, h2.ext e⟩
theorem SR.set {K : PySem.W.Frag} {σ : L2.St} {w : Wd} {ρ : Rho} {μ : Mu} {v : V} {d : D} (s : SR K σ w ρ μ) (i : Nat) (h : Hv K w v d) : SR K (σ.set i (some v)) w (ρ.set i (some d)) μ := by
  refine ⟨s.rep, by rw [List.length_set, List.length_set, s.len], fun j e q => ?_⟩
  by_cases hj : i = j
  · subst hj
    by_cases hl : i < ρ.length
    · rw [List.getElem?_set_self hl] at q
      cases q
      exact ⟨v, List.getElem?_set_self (by rw [s.len]; exact hl), h⟩
    · rw [List.getElem?_eq_none (by rw [List.length_set]; omega)] at q
      cases q
  · rw [List.getElem?_set_ne hj] at q
    rw [List.getElem?_set_ne hj]
    exact s.env j e q

abbrev FE := Rho → Mu → Rs D
abbrev FB := Rho → Mu → Rs Bool
abbrev FA := Rho → Mu → Rs (List D)
def tD (K : PySem.W.Frag) (E : XK) (F : FE) : TE := fun σ H Q => ∃ w ρ μ, w.H = H ∧ SR K σ w ρ μ ∧ Post K E (Hv K) w Q (F ρ μ)
def tDb (K : PySem.W.Frag) (E : XK) (F : FB) : TT := fun σ H Q => ∃ w ρ μ, w.H = H ∧ SR K σ w ρ μ ∧ Post K E (fun _ (b c : Bool) => b = c) w Q (F ρ μ)
def tDa (K : PySem.W.Frag) (E : XK) (F : FA) : TA := fun σ H Q => ∃ w ρ μ, w.H = H ∧ SR K σ w ρ μ ∧ Post K E (HvL K) w Q (F ρ μ)

section
variable {X : Cx}
theorem _root_.L2.PE.imp {e : Expr} {t t' : TE} (h : PE X e t) (k : ∀ σ H Q, t' σ H Q → t σ H Q) : PE X e t' := ⟨fun pins s σ H Q I q => h.run pins s σ H Q I (k _ _ _ q)⟩
theorem _root_.L2.PT.imp {e : Expr} {t t' : TT} (h : PT X e t) (k : ∀ σ H Q, t' σ H Q → t σ H Q) : PT X e t' := ⟨fun pins s σ H Q I q => h.run pins s σ H Q I (k _ _ _ q)⟩
theorem _root_.L2.PW.imp {e : Expr} {t t' : TT} (h : PW X e t) (k : ∀ σ H Q, t' σ H Q → t σ H Q) : PW X e t' := ⟨fun wh pins s σ H Q I q => h.run wh pins s σ H Q I (k _ _ _ q)⟩
theorem _root_.L2.PA.imp {es : List Expr} {t t' : TA} (h : PA X es t) (k : ∀ σ H Q, t' σ H Q → t σ H Q) : PA X es t' := ⟨fun pos pins s σ H Q I q => h.run pos pins s σ H Q I (k _ _ _ q)⟩
theorem _root_.L2.PS.imp {st : Stmt} {t t' : TS} (h : PS X st t) (k : ∀ D σ H, t' D σ H → t D σ H) : PS X st t' := ⟨fun pins s σ H D I q => h.run pins s σ H D I (k _ _ _ q)⟩
theorem _root_.L2.PSs.imp {st : List Stmt} {t t' : TS} (h : PSs X st t) (k : ∀ D σ H, t' D σ H → t D σ H) : PSs X st t' := ⟨fun pins s σ H D I q => h.run pins s σ H D I (k _ _ _ q)⟩
end

/-! ### new objects, changed objects -/
section
variable {K : PySem.W.Frag} {w : Wd} {μ : Mu} {p a : Addr} {o : HO}
/-- the world with a new object that does not change -/
def Wd.new (w : Wd) (p : Addr) (o : HO) : Wd := ⟨w.loc, w.ban, upd w.H p o, w.sub⟩
theorem Ext.new (h : w.H p = none) : Ext w (w.new p o) :=
  ⟨⟨[], (List.append_nil _).symm⟩, fun b u q _ => by rw [show (w.new p o).H b = upd w.H p o b from rfl, upd_ne (ne_of_none q h)]; exact q, fun _ _ _ n => n, fun _ _ _ n => n, fun _ n => n⟩
theorem Rep.nban (r : Rep K w μ) (h : w.H p = none) : p ∉ w.ban := fun z => by
  obtain ⟨o, q⟩ := r.has p z
  rw [h] at q; cases q
theorem ObAt.wk {w w' : Wd} {o : Ob} (e : Wk w w') (hh : w'.H a = w.H a) (x : ObAt K w a o) : ObAt K w' a o := by
  cases o with
  | lst ds => obtain ⟨vs, q, l⟩ := x; exact ⟨vs, hh.trans q, l.wk e⟩
  | dct kvs => obtain ⟨us, q, l⟩ := x; exact ⟨us, hh.trans q, l.wk e⟩
theorem Rep.hloc (r : Rep K w μ) {k : Nat} (h : w.loc[k]? = some a) : ∃ o, w.H a = some o := r.has a (w.sub a (List.mem_of_getElem? h))
theorem Rep.new (r : Rep K w μ) (h : w.H p = none) : Rep K (w.new p o) μ := by
  have n := r.nban h
  refine ⟨r.len, r.nd, fun b hb => ?_, fun k a u e1 e2 => ?_⟩
  · obtain ⟨u, q⟩ := r.has b hb
    exact ⟨u, by rw [show (w.new p o).H b = upd w.H p o b from rfl, upd_ne (ne_of_none q h)]; exact q⟩
  · obtain ⟨u', q⟩ := r.hloc e1
    exact (r.ob k a u e1 e2).wk (Ext.new h).wk (by rw [show (w.new p o).H a = upd w.H p o a from rfl, upd_ne (ne_of_none q h)])
theorem new_tup (r : Rep K w μ) (h : w.H p = none) {vs : List V} {ds : List D} (l : HvL K w vs ds) : Hv K (w.new p (.tup vs)) (.ref p) (.tup ds) :=
  .tup (.inl ⟨r.nban h, .inl upd_same⟩) (l.ext (Ext.new h))
theorem new_lst (r : Rep K w μ) (h : w.H p = none) {vs : List V} {ds : List D} (l : HvL K w vs ds) : Hv K (w.new p (.lst vs)) (.ref p) (.lst ds) :=
  .lst (r.nban h) upd_same (l.ext (Ext.new h))
theorem new_dct (r : Rep K w μ) (h : w.H p = none) {us : List (Key × V)} {kvs : List (Key × D)} (l : HvD K w us kvs) : Hv K (w.new p (.dK us)) (.ref p) (.dct kvs) :=
  .dct (r.nban h) (.inl upd_same) (l.ext (Ext.new h))
/-- the world with a new mutable object -/
def Wd.add (w : Wd) (p : Addr) (o : HO) : Wd := ⟨w.loc ++ [p], p :: w.ban, upd w.H p o, fun b hb => by
  rcases List.mem_append.mp hb with z | z
  · exact List.mem_cons_of_mem _ (w.sub b z)
  · rw [List.mem_singleton.mp z]; exact List.mem_cons_self⟩
theorem Ext.add (h : w.H p = none) : Ext w (w.add p o) := by
  have ne : ∀ b u, w.H b = some u → b ≠ p := fun b u q => ne_of_none q h
  refine ⟨⟨[p], rfl⟩, fun b u q _ => by rw [show (w.add p o).H b = upd w.H p o b from rfl, upd_ne (ne b u q)]; exact q, fun b u q n z => ?_, fun b u q n z => ?_, fun b z => List.mem_cons_of_mem _ z⟩
  · rcases List.mem_append.mp z with z | z
    · exact n z
    · exact ne b u q (List.mem_singleton.mp z)
  · rcases List.mem_cons.mp z with z | z
    · exact ne b u q z
    · exact n z
theorem Rep.add (r : Rep K w μ) (h : w.H p = none) {ob : Ob} (x : ObAt K (w.add p o) p ob) : Rep K (w.add p o) (μ ++ [ob]) := by
  refine ⟨?_, ?_, fun b hb => ?_, fun k a u e1 e2 => ?_⟩
  · show (w.loc ++ [p]).length = _
    rw [List.length_append, List.length_append, r.len]
    rfl
  · show (w.loc ++ [p]).Nodup
    refine List.nodup_append.mpr ⟨r.nd, by simp, fun b hb c hc z => ?_⟩
    rw [List.mem_singleton.mp hc] at z
    exact r.nban h (w.sub p (z ▸ hb))
  · rcases List.mem_cons.mp hb with z | z
    · exact ⟨o, by rw [z]; exact upd_same⟩
    · obtain ⟨u, q⟩ := r.has b z
      exact ⟨u, by rw [show (w.add p o).H b = upd w.H p o b from rfl, upd_ne (ne_of_none q h)]; exact q⟩
  · have e1 : (w.loc ++ [p])[k]? = some a := e1
    by_cases hk : k < μ.length
    · rw [List.getElem?_append_left (by rw [r.len]; exact hk)] at e1
      rw [List.getElem?_append_left hk] at e2
      obtain ⟨u', q⟩ := r.hloc e1
      exact (r.ob k a u e1 e2).wk (Ext.add h).wk (by rw [show (w.add p o).H a = upd w.H p o a from rfl, upd_ne (ne_of_none q h)])
    · rw [List.getElem?_append_right (by rw [r.len]; omega), r.len] at e1
      rw [List.getElem?_append_right (by omega)] at e2
      cases hd : k - μ.length with
      | zero =>
        rw [hd] at e1 e2
        cases e1; cases e2
        exact x
      | succ j => rw [hd] at e1; cases e1
theorem Rep.last (r : Rep K w μ) : (w.add p o).loc[μ.length]? = some p := by
  show (w.loc ++ [p])[μ.length]? = some p
  rw [← r.len, List.getElem?_append_right (Nat.le_refl _), Nat.sub_self]
  rfl
theorem new_mut (r : Rep K w μ) : Hv K (w.add p o) (.ref p) (.ref μ.length) := .ref r.last
theorem loc_ix : ∀ {l : List Addr} {i j : Nat} {a : Addr}, l.Nodup → l[i]? = some a → l[j]? = some a → i = j
  | [], _, _, _, _, h, _ => by simp at h
  | _ :: _, 0, 0, _, _, _, _ => rfl
  | x :: l, 0, j + 1, a, nd, h1, h2 => by
    have e : x = a := by simpa using h1
    have m : a ∈ l := List.mem_of_getElem? (by simpa using h2)
    exact absurd (e ▸ m) (List.nodup_cons.mp nd).1
  | x :: l, i + 1, 0, a, nd, h1, h2 => by
    have e : x = a := by simpa using h2
    have m : a ∈ l := List.mem_of_getElem? (by simpa using h1)
    exact absurd (e ▸ m) (List.nodup_cons.mp nd).1
  | x :: l, i + 1, j + 1, a, nd, h1, h2 => congrArg (· + 1) (loc_ix (List.nodup_cons.mp nd).2 (by simpa using h1) (by simpa using h2))
/-- the world with a mutable object changed -/
theorem Ext.put {k : Nat} (h : w.loc[k]? = some a) : Ext w (w.new a o) := by
  have m : a ∈ w.loc := List.mem_of_getElem? h
  exact ⟨⟨[], (List.append_nil _).symm⟩, fun b u q n => by rw [show (w.new a o).H b = upd w.H a o b from rfl, upd_ne (fun z => n (by rw [z]; exact m))]; exact q, fun _ _ _ n => n, fun _ _ _ n => n, fun _ n => n⟩
theorem Rep.put (r : Rep K w μ) {k : Nat} (h : w.loc[k]? = some a) {ob : Ob} (x : ObAt K (w.new a o) a ob) : Rep K (w.new a o) (μ.set k ob) := by
  refine ⟨by rw [List.length_set]; exact r.len, r.nd, fun b hb => ?_, fun j c u e1 e2 => ?_⟩
  · by_cases z : b = a
    · exact ⟨o, by rw [z]; exact upd_same⟩
    · obtain ⟨u, q⟩ := r.has b hb
      exact ⟨u, by rw [show (w.new a o).H b = upd w.H a o b from rfl, upd_ne z]; exact q⟩
  · have e1 : w.loc[j]? = some c := e1
    by_cases hj : j = k
    · subst hj
      rw [h] at e1; cases e1
      have hl : j < μ.length := by rw [← r.len]; exact (List.getElem?_eq_some_iff.mp h).1
      rw [List.getElem?_set_self hl] at e2
      cases e2
      exact x
    · rw [List.getElem?_set_ne (Ne.symm hj)] at e2
      have ne : c ≠ a := fun z => by
        subst z
        exact hj (loc_ix r.nd e1 h)
      exact (r.ob j c u e1 e2).wk (Ext.put h).wk (by rw [show (w.new a o).H c = upd w.H a o c from rfl, upd_ne ne])
end
end FL
/-! FL: expressions. -/
namespace FL
open PySem PySem.Spec PyProof.Rows L2
set_option autoImplicit false

section
variable {K : PySem.W.Frag} {E : XK} {w : Wd} {μ : Mu} {Q : VK}
theorem post_here {α β : Type} {R : Wd → β → α → Prop} {Q : β → Hp → Prop} {a : α} {b : β} (p : Post K E R w Q (.ok a μ)) (rp : Rep K w μ) (h : R w b a) : Q b w.H := p b w (Ext.refl w) rp h
theorem post_tup {ds : List D} {vs : List V} (p : Post K E (Hv K) w Q (.ok (.tup ds) μ)) (rp : Rep K w μ) (l : HvL K w vs ds) : ∀ q, w.H q = none → Q (.ref q) (upd w.H q (.tup vs)) :=
  fun q h => p _ (w.new q (.tup vs)) (Ext.new h) (rp.new h) (new_tup rp h l)
theorem post_lst {ds : List D} {vs : List V} (p : Post K E (Hv K) w Q (.ok (.lst ds) μ)) (rp : Rep K w μ) (l : HvL K w vs ds) : ∀ q, w.H q = none → Q (.ref q) (upd w.H q (.lst vs)) :=
  fun q h => p _ (w.new q (.lst vs)) (Ext.new h) (rp.new h) (new_lst rp h l)
theorem post_mut {ds : List D} {vs : List V} (p : Post K E (Hv K) w Q (.ok (.ref μ.length) (μ ++ [.lst ds]))) (rp : Rep K w μ) (l : HvL K w vs ds) : ∀ q, w.H q = none → Q (.ref q) (upd w.H q (.lst vs)) :=
  fun q h => p _ (w.add q (.lst vs)) (Ext.add h) (rp.add h ⟨vs, upd_same, l.ext (Ext.add h)⟩) (new_mut rp)
end

/-! ### names, constants, arguments, displays -/
def fVar (i : Nat) : FE := fun ρ μ => match ρ[i]? with
  | some (some d) => .ok d μ
  | _ => .no
def fC (d : D) : FE := fun _ μ => .ok d μ
def fNil : FA := fun _ μ => .ok [] μ
def fCons (F : FE) (Fs : FA) : FA := fun ρ μ => (F ρ μ).bind fun d μ1 => (Fs ρ μ1).bind fun ds μ2 => .ok (d :: ds) μ2
def fTup (Fs : FA) : FE := fun ρ μ => (Fs ρ μ).bind fun ds μ1 => if ds.length ≤ sizeLine then .ok (.tup ds) μ1 else .no
/-- a list that nobody changes -/
def fLst (Fs : FA) : FE := fun ρ μ => (Fs ρ μ).bind fun ds μ1 => if ds.length ≤ sizeLine then .ok (.lst ds) μ1 else .no
/-- a list that is changed later -/
def fMut (Fs : FA) : FE := fun ρ μ => (Fs ρ μ).bind fun ds μ1 => if ds.length ≤ sizeLine then .ok (.ref μ1.length) (μ1 ++ [.lst ds]) else .no
section
variable {X : Cx} {E : XK} {e : Expr} {es : List Expr} {pos : Pos}
theorem de_var {i : Nat} (h : PE X e (tVar i)) : PE X e (tD X.K E (fVar i)) := h.imp fun σ H Q ⟨w, ρ, μ, hw, sr, p⟩ => by
  unfold fVar at p
  cases q : ρ[i]? with
  | none => rw [q] at p; exact p.elim
  | some o =>
    cases o with
    | none => rw [q] at p; exact p.elim
    | some d =>
      rw [q] at p
      obtain ⟨v, h1, h2⟩ := sr.env i d q
      exact ⟨v, h1, hw ▸ post_here p sr.rep h2⟩
theorem de_c {v : V} {d : D} (h : PE X e (tC v)) (hv : ∀ w, Hv X.K w v d) : PE X e (tD X.K E (fC d)) := h.imp fun σ H Q ⟨w, ρ, μ, hw, sr, p⟩ => by
  show Q v H
  exact hw ▸ post_here p sr.rep (hv w)
theorem de_int {i : Int} {j : Nat} : PE X (.Constant (.int i) j pos) (tD X.K E (fC (.int i))) := de_c pe_int fun _ => .int i
theorem de_bl {b : Bool} {j : Nat} : PE X (.Constant (.bool b) j pos) (tD X.K E (fC (.bl b))) := de_c pe_bl fun _ => .bl b
theorem de_non {j : Nat} : PE X (.Constant .none j pos) (tD X.K E (fC .non)) := de_c pe_non fun _ => .non
theorem de_str {x : Str} {j : Nat} : PE X (.Constant (.str x) j pos) (tD X.K E (fC (.str x))) := de_c pe_str fun _ => .str x
theorem da_nil : PA X [] (tDa X.K E fNil) := pa_nil.imp fun σ H Q ⟨w, ρ, μ, hw, sr, p⟩ => by
  show Q [] H
  exact hw ▸ post_here p sr.rep .nil
theorem da_cons {F : FE} {Fs : FA} (ha : PE X e (tD X.K E F)) (hr : PA X es (tDa X.K E Fs)) (hs : starEach (e :: es) X.env = (false, eval e X.env) :: starEach es X.env := by rfl) : PA X (e :: es) (tDa X.K E (fCons F Fs)) :=
  (pa_cons ha hr hs).imp fun σ H Q ⟨w, ρ, μ, hw, sr, p⟩ => by
    refine ⟨w, ρ, μ, hw, sr, Post.thn p fun d μ1 v w1 e1 r1 h1 p1 => ⟨w1, ρ, μ1, rfl, sr.ext e1 r1, Post.thn p1 fun ds μ2 vs w2 e2 r2 h2 p2 => ?_⟩⟩
    exact post_here p2 r2 (.cons (h1.ext e2) h2)
theorem de_tup {Fs : FA} {k : Nat} (h : PA X es (tDa X.K E Fs)) : PE X (.Tuple es k pos) (tD X.K E (fTup Fs)) := (pe_tup h).imp fun σ H Q ⟨w, ρ, μ, hw, sr, p⟩ => by
  refine ⟨w, ρ, μ, hw, sr, Post.thn p fun ds μ1 vs w1 e1 r1 h1 p1 => ?_⟩
  by_cases hz : ds.length ≤ sizeLine
  · rw [if_pos hz] at p1
    exact ⟨by rw [h1.length]; exact hz, post_tup p1 r1 h1⟩
  · rw [if_neg hz] at p1
    exact p1.elim
theorem de_lst {Fs : FA} (h : PA X es (tDa X.K E Fs)) : PE X (.List es pos) (tD X.K E (fLst Fs)) := (pe_lst h).imp fun σ H Q ⟨w, ρ, μ, hw, sr, p⟩ => by
  refine ⟨w, ρ, μ, hw, sr, Post.thn p fun ds μ1 vs w1 e1 r1 h1 p1 => ?_⟩
  by_cases hz : ds.length ≤ sizeLine
  · rw [if_pos hz] at p1
    exact ⟨by rw [h1.length]; exact hz, post_lst p1 r1 h1⟩
  · rw [if_neg hz] at p1
    exact p1.elim
theorem de_mut {Fs : FA} (h : PA X es (tDa X.K E Fs)) : PE X (.List es pos) (tD X.K E (fMut Fs)) := (pe_lst h).imp fun σ H Q ⟨w, ρ, μ, hw, sr, p⟩ => by
  refine ⟨w, ρ, μ, hw, sr, Post.thn p fun ds μ1 vs w1 e1 r1 h1 p1 => ?_⟩
  by_cases hz : ds.length ≤ sizeLine
  · rw [if_pos hz] at p1
    exact ⟨by rw [h1.length]; exact hz, post_mut p1 r1 h1⟩
  · rw [if_neg hz] at p1
    exact p1.elim
end

/-! ### operators -/
abbrev G1 := D → Mu → Rs D
abbrev G2 := D → D → Mu → Rs D
abbrev GL := List D → Mu → Rs D
def fUn (g : G1) (F : FE) : FE := fun ρ μ => (F ρ μ).bind g
def fBin (g : G2) (Fa Fb : FE) : FE := fun ρ μ => (Fa ρ μ).bind fun a μ1 => (Fb ρ μ1).bind fun b μ2 => g a b μ2
def Ad1 (K : PySem.W.Frag) (E : XK) (g : G1) (r : V → Hp → VK → Prop) : Prop := ∀ (w : Wd) (μ : Mu) (x : V) (a : D) (Q : VK), Rep K w μ → Hv K w x a → Post K E (Hv K) w Q (g a μ) → r x w.H Q
def Ad2 (K : PySem.W.Frag) (E : XK) (g : G2) (r : R2) : Prop := ∀ (w : Wd) (μ : Mu) (x y : V) (a b : D) (Q : VK), Rep K w μ → Hv K w x a → Hv K w y b → Post K E (Hv K) w Q (g a b μ) → r x y w.H Q
def AdL (K : PySem.W.Frag) (E : XK) (g : GL) (r : List V → Hp → VK → Prop) : Prop := ∀ (w : Wd) (μ : Mu) (vs : List V) (ds : List D) (Q : VK), Rep K w μ → HvL K w vs ds → Post K E (Hv K) w Q (g ds μ) → r vs w.H Q
theorem tD_op {K : PySem.W.Frag} {E : XK} {g : G2} {r : R2} {Fa Fb : FE} (ad : Ad2 K E g r) {σ : L2.St} {H : Hp} {Q : VK} (h : tD K E (fBin g Fa Fb) σ H Q) : tOp r (tD K E Fa) (tD K E Fb) σ H Q := by
  obtain ⟨w, ρ, μ, hw, sr, p⟩ := h
  refine ⟨w, ρ, μ, hw, sr, Post.thn p fun a μ1 x w1 e1 r1 h1 p1 => ⟨w1, ρ, μ1, rfl, sr.ext e1 r1, Post.thn p1 fun b μ2 y w2 e2 r2 h2 p2 => ?_⟩⟩
  exact ad w2 μ2 x y a b Q r2 (h1.ext e2) h2 p2
/-- a value as a test -/
def toB (d : D) (μ : Mu) : Rs Bool := match d with
  | .bl b => .ok b μ
  | _ => .no
def fB (F : FE) : FB := fun ρ μ => (F ρ μ).bind toB
theorem tD_test {K : PySem.W.Frag} {E : XK} {F : FE} {t : TE} {σ : L2.St} {H : Hp} {Q : Bool → Hp → Prop} (k : ∀ Q, tD K E F σ H Q → t σ H Q) (h : tDb K E (fB F) σ H Q) : tTest t σ H Q := by
  obtain ⟨w, ρ, μ, hw, sr, p⟩ := h
  refine k _ ⟨w, ρ, μ, hw, sr, Post.thn p fun a μ1 x w1 e1 r1 h1 p1 => ?_⟩
  cases h1 with
  | bl b => exact ⟨b, rfl, post_here p1 r1 rfl⟩
  | _ => exact p1.elim
def fTru (F : FE) : FB := fun ρ μ => (F ρ μ).bind fun d μ => match d with
  | .non => .ok false μ
  | .bl b => .ok b μ
  | .int i => .ok (i != 0) μ
  | .str y => if y.length ≤ sizeLine then .ok ((y.length : Int) != 0) μ else .no
  | .tup ds => .ok (!ds.isEmpty) μ
  | .lst ds => .ok (!ds.isEmpty) μ
  | .rol ds => .ok (!ds.isEmpty) μ
  | .ref k => match μ[k]? with
    | some (.lst ds) => .ok (!ds.isEmpty) μ
    | _ => .no
  | _ => .no
theorem hvl_empty {K : PySem.W.Frag} {w : Wd} {vs : List V} {ds : List D} (h : HvL K w vs ds) : (!ds.isEmpty) = !vs.isEmpty := by cases h <;> rfl
section
variable {X : Cx} {E : XK} {a b c : Expr} {pos : Pos} {Fa Fb Fc : FE}
theorem de_op {op : Operator} {g : G2} {r : R2} (ho : OpR X (binaryOp op) r) (ad : Ad2 X.K E g r) (ha : PE X a (tD X.K E Fa)) (hb : PE X b (tD X.K E Fb)) : PE X (.BinOp a op b pos) (tD X.K E (fBin g Fa Fb)) :=
  (pe_op ho ha hb).imp fun _ _ _ => tD_op ad
theorem de_cmp {op : CmpOp} {g : G2} {r : R2} (ho : OpR X (compareOp op) r) (ad : Ad2 X.K E g r) (ha : PE X a (tD X.K E Fa)) (hb : PE X b (tD X.K E Fb)) (hm : behindInMarks op b = false := by first | exact nomark _ | rfl) : PE X (.Compare a [op] [b] pos) (tD X.K E (fBin g Fa Fb)) :=
  (pe_cmpR ho ha hb hm).imp fun _ _ _ => tD_op ad
theorem dt_cmp {op : CmpOp} {g : G2} {r : R2} (ho : OpR X (compareOp op) r) (ad : Ad2 X.K E g r) (ha : PE X a (tD X.K E Fa)) (hb : PE X b (tD X.K E Fb)) (hm : behindInMarks op b = false := by first | exact nomark _ | rfl) : PT X (.Compare a [op] [b] pos) (tDb X.K E (fB (fBin g Fa Fb))) :=
  (pt_cmpR ho ha hb hm).imp fun _ _ _ => tD_test fun _ => tD_op ad
theorem de_un {op : UnaryOp} {g : G1} {r : V → Hp → VK → Prop} (ho : UnR X (unaryOp op) r) (ad : Ad1 X.K E g r) (ha : PE X a (tD X.K E Fa)) : PE X (.UnaryOp op a pos) (tD X.K E (fUn g Fa)) :=
  (pe_un ho ha).imp fun _ _ _ ⟨w, ρ, μ, hw, sr, p⟩ => ⟨w, ρ, μ, hw, sr, Post.thn p fun d μ1 x w1 e1 r1 h1 p1 => ad w1 μ1 x d _ r1 h1 p1⟩
def fChain (g g' : G2) (Fa Fb Fc : FE) : FE := fun ρ μ => (Fa ρ μ).bind fun x μ1 => (Fb ρ μ1).bind fun y μ2 => (g x y μ2).bind fun z μ3 => match z with
  | .bl true => (Fc ρ μ3).bind fun u μ4 => g' y u μ4
  | .bl false => .ok (.bl false) μ3
  | _ => .no
theorem tD_chain {K : PySem.W.Frag} {g g' : G2} {r r' : R2} (ad : Ad2 K E g r) (ad' : Ad2 K E g' r') {σ : L2.St} {H : Hp} {Q : VK} (h : tD K E (fChain g g' Fa Fb Fc) σ H Q) : tChain r r' (tD K E Fa) (tD K E Fb) (tD K E Fc) σ H Q := by
  obtain ⟨w, ρ, μ, hw, sr, p⟩ := h
  refine ⟨w, ρ, μ, hw, sr, Post.thn p fun x μ1 vx w1 e1 r1 h1 p1 => ⟨w1, ρ, μ1, rfl, sr.ext e1 r1, Post.thn p1 fun y μ2 vy w2 e2 r2 h2 p2 => ?_⟩⟩
  refine ad w2 μ2 vx vy x y _ r2 (h1.ext e2) h2 (Post.thn p2 fun z μ3 vz w3 e3 r3 h3 p3 => ?_)
  cases h3 with
  | bl k =>
    refine ⟨k, rfl, ?_⟩
    cases k with
    | true =>
      rw [if_pos rfl]
      refine ⟨w3, ρ, μ3, rfl, ((sr.ext e1 r1).ext e2 r2).ext e3 r3, Post.thn p3 fun u μ4 vu w4 e4 r4 h4 p4 => ?_⟩
      exact ad' w4 μ4 vy vu y u Q r4 ((h2.ext e3).ext e4) h4 p4
    | false =>
      rw [if_neg Bool.false_ne_true]
      exact post_here p3 r3 (.bl false)
  | _ => exact p3.elim
theorem de_chain {op op' : CmpOp} {g g' : G2} {r r' : R2} (ho : OpR X (compareOp op) r) (ho' : OpR X (compareOp op') r') (ad : Ad2 X.K E g r) (ad' : Ad2 X.K E g' r') (ha : PE X a (tD X.K E Fa)) (hb : PE X b (tD X.K E Fb)) (hc : PE X c (tD X.K E Fc)) (hm : lastMarks [op, op'] [b, c] = false := by rfl) :
    PE X (.Compare a [op, op'] [b, c] pos) (tD X.K E (fChain g g' Fa Fb Fc)) := (pe_chain ho ho' ha hb hc hm).imp fun _ _ _ => tD_chain ad ad'
theorem dt_chain {op op' : CmpOp} {g g' : G2} {r r' : R2} (ho : OpR X (compareOp op) r) (ho' : OpR X (compareOp op') r') (ad : Ad2 X.K E g r) (ad' : Ad2 X.K E g' r') (ha : PE X a (tD X.K E Fa)) (hb : PE X b (tD X.K E Fb)) (hc : PE X c (tD X.K E Fc)) (hm : lastMarks [op, op'] [b, c] = false := by rfl) :
    PT X (.Compare a [op, op'] [b, c] pos) (tDb X.K E (fB (fChain g g' Fa Fb Fc))) := (pt_chain ho ho' ha hb hc hm).imp fun _ _ _ => tD_test fun _ => tD_chain ad ad'
/-- a value's truth as a test -/
theorem dt_tru (ha : PE X a (tD X.K E Fa)) (he : ∀ whole, isTrue a X.env whole = (do let v ← whole; standAt a.pos; holding [v] (truthy v)) := by intro _; rfl) : PT X a (tDb X.K E (fTru Fa)) :=
  (pt_truth ha he).imp fun _ _ _ ⟨w, ρ, μ, hw, sr, p⟩ => ⟨w, ρ, μ, hw, sr, Post.thn p fun d μ1 x w1 e1 r1 h1 p1 => by
    cases h1 with
    | non => exact ⟨false, rfl, post_here p1 r1 rfl⟩
    | bl k => exact ⟨k, rfl, post_here p1 r1 rfl⟩
    | int i => exact ⟨_, rfl, post_here p1 r1 rfl⟩
    | str y =>
      by_cases hz : y.length ≤ sizeLine
      · simp only [if_pos hz] at p1
        exact ⟨_, ⟨hz, rfl⟩, post_here p1 r1 rfl⟩
      · simp only [if_neg hz] at p1
        exact p1.elim
    | tup t l => exact ⟨_, .inr (.inl ⟨_, t.sq, rfl⟩), post_here p1 r1 (hvl_empty l).symm⟩
    | lst n t l => exact ⟨_, .inl ⟨_, .of t, rfl⟩, post_here p1 r1 (hvl_empty l).symm⟩
    | rol t l => exact ⟨_, .inl ⟨_, t.sq, rfl⟩, post_here p1 r1 (hvl_empty l).symm⟩
    | dct _ _ _ => exact p1.elim
    | ty _ => exact p1.elim
    | cls _ => exact p1.elim
    | @ref q k t =>
      cases z : μ1[k]? with
      | none => simp only [z] at p1; exact p1.elim
      | some o =>
        cases o with
        | lst ds =>
          simp only [z] at p1
          obtain ⟨vs, g1, g2⟩ := r1.ob k q _ t z
          exact ⟨_, .inl ⟨_, .of g1, rfl⟩, post_here p1 r1 (hvl_empty g2).symm⟩
        | dct kvs => simp only [z] at p1; exact p1.elim⟩
end

/-! ### and, or, not, conditional expressions -/
def fNot (F : FB) : FB := fun ρ μ => (F ρ μ).bind fun b μ => .ok (!b) μ
def fAnd (F G : FB) : FB := fun ρ μ => (F ρ μ).bind fun b μ => if b = true then G ρ μ else .ok false μ
def fOr (F G : FB) : FB := fun ρ μ => (F ρ μ).bind fun b μ => if b = true then .ok true μ else G ρ μ
def fNotV (F : FE) : FE := fun ρ μ => (fB F ρ μ).bind fun b μ => .ok (.bl (!b)) μ
def fAndV (F G : FE) : FE := fun ρ μ => (fB F ρ μ).bind fun b μ => if b = true then G ρ μ else .ok (.bl false) μ
def fOrV (F G : FE) : FE := fun ρ μ => (fB F ρ μ).bind fun b μ => if b = true then .ok (.bl true) μ else G ρ μ
def fIf (c : FB) (F G : FE) : FE := fun ρ μ => (c ρ μ).bind fun b μ => if b = true then F ρ μ else G ρ μ
section
variable {X : Cx} {E : XK} {a b c : Expr} {rest : List Expr} {pos : Pos} {Fa Fb : FE} {Ba Bb : FB}
theorem dt_not (ha : PT X a (tDb X.K E Ba)) : PT X (.UnaryOp .Not a pos) (tDb X.K E (fNot Ba)) := (pt_not ha).imp fun _ _ _ ⟨w, ρ, μ, hw, sr, p⟩ =>
  ⟨w, ρ, μ, hw, sr, Post.thn p fun d μ1 x w1 e1 r1 h1 p1 => by
    subst h1
    exact post_here p1 r1 rfl⟩
theorem dw_and1 (ha : PT X a (tDb X.K E Ba)) : PW X (.BoolOp .And [a] pos) (tDb X.K E Ba) := pw_and1 ha
theorem dw_or1 (ha : PT X a (tDb X.K E Ba)) : PW X (.BoolOp .Or [a] pos) (tDb X.K E Ba) := pw_or1 ha
theorem dw_and (ha : PT X a (tDb X.K E Ba)) (hb : PW X (.BoolOp .And (b :: rest) pos) (tDb X.K E Bb)) : PW X (.BoolOp .And (a :: b :: rest) pos) (tDb X.K E (fAnd Ba Bb)) := (pw_and ha hb).imp fun _ _ _ ⟨w, ρ, μ, hw, sr, p⟩ =>
  ⟨w, ρ, μ, hw, sr, Post.thn p fun d μ1 x w1 e1 r1 h1 p1 => by
    subst h1
    cases x with
    | true => exact ⟨w1, ρ, μ1, rfl, sr.ext e1 r1, p1⟩
    | false => exact post_here p1 r1 rfl⟩
theorem dw_or (ha : PT X a (tDb X.K E Ba)) (hb : PW X (.BoolOp .Or (b :: rest) pos) (tDb X.K E Bb)) : PW X (.BoolOp .Or (a :: b :: rest) pos) (tDb X.K E (fOr Ba Bb)) := (pw_or ha hb).imp fun _ _ _ ⟨w, ρ, μ, hw, sr, p⟩ =>
  ⟨w, ρ, μ, hw, sr, Post.thn p fun d μ1 x w1 e1 r1 h1 p1 => by
    subst h1
    cases x with
    | true => exact post_here p1 r1 rfl
    | false => exact ⟨w1, ρ, μ1, rfl, sr.ext e1 r1, p1⟩⟩
theorem dt_w (h : PW X a (tDb X.K E Ba)) : PT X a (tDb X.K E Ba) := h.pt
theorem de_not (ha : PE X a (tD X.K E Fa)) : PE X (.UnaryOp .Not a pos) (tD X.K E (fNotV Fa)) := (pe_not ha).imp fun _ _ _ ⟨w, ρ, μ, hw, sr, p⟩ => by
  unfold fNotV fB Rs.bind at p
  refine ⟨w, ρ, μ, hw, sr, ?_⟩
  cases q : Fa ρ μ with
  | no => rw [q] at p; exact p.elim
  | ex C fs μ' => rw [q] at p; exact p
  | ok d μ1 =>
    rw [q] at p
    intro x w1 e1 r1 h1
    cases h1 with
    | bl k => exact ⟨k, rfl, post_here (Post.ext e1 p) r1 (.bl _)⟩
    | _ => exact p.elim
theorem de_one {op : BoolOp} (h : PE X a (tD X.K E Fa)) : PE X (.BoolOp op [a] pos) (tD X.K E Fa) := pe_one h
theorem de_and (ha : PE X a (tD X.K E Fa)) (hb : PE X (.BoolOp .And (b :: rest) pos) (tD X.K E Fb)) : PE X (.BoolOp .And (a :: b :: rest) pos) (tD X.K E (fAndV Fa Fb)) := (pe_and ha hb).imp fun _ _ _ ⟨w, ρ, μ, hw, sr, p⟩ => by
  unfold fAndV fB Rs.bind at p
  refine ⟨w, ρ, μ, hw, sr, ?_⟩
  cases q : Fa ρ μ with
  | no => rw [q] at p; exact p.elim
  | ex C fs μ' => rw [q] at p; exact p
  | ok d μ1 =>
    rw [q] at p
    intro x w1 e1 r1 h1
    cases h1 with
    | bl k =>
      refine ⟨k, rfl, ?_⟩
      cases k with
      | true => exact ⟨w1, ρ, μ1, rfl, sr.ext e1 r1, Post.ext e1 p⟩
      | false => exact post_here (Post.ext e1 p) r1 (.bl false)
    | _ => exact p.elim
theorem de_or (ha : PE X a (tD X.K E Fa)) (hb : PE X (.BoolOp .Or (b :: rest) pos) (tD X.K E Fb)) : PE X (.BoolOp .Or (a :: b :: rest) pos) (tD X.K E (fOrV Fa Fb)) := (pe_or ha hb).imp fun _ _ _ ⟨w, ρ, μ, hw, sr, p⟩ => by
  unfold fOrV fB Rs.bind at p
  refine ⟨w, ρ, μ, hw, sr, ?_⟩
  cases q : Fa ρ μ with
  | no => rw [q] at p; exact p.elim
  | ex C fs μ' => rw [q] at p; exact p
  | ok d μ1 =>
    rw [q] at p
    intro x w1 e1 r1 h1
    cases h1 with
    | bl k =>
      refine ⟨k, rfl, ?_⟩
      cases k with
      | true => exact post_here (Post.ext e1 p) r1 (.bl true)
      | false => exact ⟨w1, ρ, μ1, rfl, sr.ext e1 r1, Post.ext e1 p⟩
    | _ => exact p.elim
theorem de_ifExp (hc : PT X c (tDb X.K E Ba)) (ha : PE X a (tD X.K E Fa)) (hb : PE X b (tD X.K E Fb)) : PE X (.IfExp c a b pos) (tD X.K E (fIf Ba Fa Fb)) := (pe_ifExp hc ha hb).imp fun _ _ _ ⟨w, ρ, μ, hw, sr, p⟩ =>
  ⟨w, ρ, μ, hw, sr, Post.thn p fun d μ1 x w1 e1 r1 h1 p1 => by
    subst h1
    cases x with
    | true => exact ⟨w1, ρ, μ1, rfl, sr.ext e1 r1, p1⟩
    | false => exact ⟨w1, ρ, μ1, rfl, sr.ext e1 r1, p1⟩⟩
end

/-! ### calls -/
def fCall (g : GL) (Fs : FA) : FE := fun ρ μ => (Fs ρ μ).bind g
def spF (K : PySem.W.Frag) (n : Nat) (g : GL) : Sp := fun vs H Q E => vs.length = n ∧ ∃ w ds μ, w.H = H ∧ Rep K w μ ∧ HvL K w vs ds ∧ Post K E (Hv K) w Q (g ds μ)
section
variable {X : Cx} {E : XK} {e o : Expr} {es : List Expr} {x : Str} {p pos apos : Pos} {Fs : FA} {Fo : FE} {g : GL} {id T : String}
theorem tD_call {K : PySem.W.Frag} {r : List V → Hp → VK → Prop} (ad : AdL K E g r) {σ : L2.St} {H : Hp} {Q : VK} (h : tD K E (fCall g Fs) σ H Q) : tCB r (tDa K E Fs) σ H Q := by
  obtain ⟨w, ρ, μ, hw, sr, p⟩ := h
  exact ⟨w, ρ, μ, hw, sr, Post.thn p fun ds μ1 vs w1 e1 r1 h1 p1 => ad w1 μ1 vs ds Q r1 h1 p1⟩
theorem de_callB {r : List V → Hp → VK → Prop} (hc : CallR X (.builtin id) r) (ad : AdL X.K E g r) (hg : Gl X x) (hm : X.mg x = none) (hv : bootBuiltins x = some (.builtin id)) (ha : PA X (e :: es) (tDa X.K E Fs)) (hn : x ≠ "__name__" := by decide) (hdb : (x == ("__debug__" : Str)) = false := by decide)
    (he : starEach (e :: es) X.env = (false, eval e X.env) :: starEach es X.env := by rfl) (hpl : (backTo pos (starEach es X.env)).any (·.1) = false := by rfl) : PE X (.Call (.Name x p) (e :: es) [] pos) (tD X.K E (fCall g Fs)) :=
  (pe_callB hc hg hm hv ha hn hdb he hpl).imp fun _ _ _ => tD_call ad
theorem de_callTy {r : List V → Hp → VK → Prop} (hc : CallR X (.type T) r) (ad : AdL X.K E g r) (hg : Gl X x) (hm : X.mg x = none) (hv : bootBuiltins x = some (.type T)) (ha : PA X (e :: es) (tDa X.K E Fs)) (hn : x ≠ "__name__" := by decide) (hdb : (x == ("__debug__" : Str)) = false := by decide)
    (he : starEach (e :: es) X.env = (false, eval e X.env) :: starEach es X.env := by rfl) (hpl : (backTo pos (starEach es X.env)).any (·.1) = false := by rfl) : PE X (.Call (.Name x p) (e :: es) [] pos) (tD X.K E (fCall g Fs)) :=
  (pe_callTy hc hg hm hv ha hn hdb he hpl).imp fun _ _ _ => tD_call ad
/-- a def of the program, all its arguments given -/
theorem de_call {CX : CXT} {k n : Nat} {f : Addr} {fd : FuncData} {ps : List Str} (G : FnOk X.prog X.w X.K X.mg X.base CX k f fd ps (spF X.K n g)) (hr : Room k X.A) (hg : Gl X x) (hm : X.mg x = some (.ref f)) (hk : PySem.W.keepIn X.K (.ref f) = true) (hb : Binds X.K fd ps []) (hx : Passes CX X E)
    (ha : PA X (e :: es) (tDa X.K E Fs)) (hlen : ∀ ρ μ ds μ1, Fs ρ μ = .ok ds μ1 → ds.length = n) (hdb : (x == ("__debug__" : Str)) = false := by decide) (he : starEach (e :: es) X.env = (false, eval e X.env) :: starEach es X.env := by rfl) (hpl : (backTo pos (starEach es X.env)).any (·.1) = false := by rfl) :
    PE X (.Call (.Name x p) (e :: es) [] pos) (tD X.K E (fCall g Fs)) :=
  (pe_call (dvs := []) G hr hg hm hk hb .nil hx ha hdb he hpl).imp fun σ H Q ⟨w, ρ, μ, hw, sr, p⟩ => ⟨w, ρ, μ, hw, sr, by
    cases q : Fs ρ μ with
    | ok ds μ1 =>
      intro vs w1 e1 r1 h1
      rw [List.append_nil]
      refine ⟨by rw [h1.length]; exact hlen ρ μ ds μ1 q, w1, ds, μ1, rfl, r1, h1, ?_⟩
      unfold fCall at p
      rw [q] at p
      exact Post.ext e1 p
    | ex C fs μ1 =>
      unfold fCall at p
      rw [q] at p
      exact p
    | no =>
      unfold fCall at p
      rw [q] at p
      exact p⟩
end
/-- how many arguments a written list has -/
theorem len_nil : ∀ (ρ : Rho) (μ : Mu) (ds : List D) (μ1 : Mu), fNil ρ μ = .ok ds μ1 → ds.length = 0 := fun _ _ _ _ h => by
  cases h
  rfl
theorem len_cons {F : FE} {Fs : FA} {n : Nat} (k : ∀ (ρ : Rho) (μ : Mu) (ds : List D) (μ1 : Mu), Fs ρ μ = .ok ds μ1 → ds.length = n) : ∀ (ρ : Rho) (μ : Mu) (ds : List D) (μ1 : Mu), fCons F Fs ρ μ = .ok ds μ1 → ds.length = n + 1 := fun ρ μ ds μ1 h => by
  unfold fCons at h
  cases q : F ρ μ with
  | ok d μ2 =>
    rw [q] at h
    cases q2 : Fs ρ μ2 with
    | ok es μ3 =>
      have h' : (Rs.ok (d :: es) μ3) = Rs.ok ds μ1 := by simpa [Rs.bind, q2] using h
      cases h'
      exact congrArg (· + 1) (k _ _ _ _ q2)
    | ex C fs μ3 => simp [Rs.bind, q2] at h
    | no => simp [Rs.bind, q2] at h
  | ex C fs μ2 => rw [q] at h; simp [Rs.bind] at h
  | no => rw [q] at h; simp [Rs.bind] at h
end FL
/-! FL: statements, loops, comprehensions, a def's body. -/
namespace FL
open PySem PySem.Spec PyProof.Rows L2
set_option autoImplicit false

inductive Ot where
  | nx (ρ : Rho) | rt (d : D) | bk (ρ : Rho) | ct (ρ : Rho)
abbrev FS := Rho → Mu → Rs Ot
def PostS (K : PySem.W.Frag) (E : XK) (w : Wd) (Z : Ends) : Rs Ot → Prop
  | .ok (.nx ρ) μ => ∀ σ w', Ext w w' → SR K σ w' ρ μ → Z.nx σ w'.H
  | .ok (.bk ρ) μ => ∀ σ w', Ext w w' → SR K σ w' ρ μ → Z.bk σ w'.H
  | .ok (.ct ρ) μ => ∀ σ w', Ext w w' → SR K σ w' ρ μ → Z.ct σ w'.H
  | .ok (.rt d) μ => ∀ v w', Ext w w' → Rep K w' μ → Hv K w' v d → Z.rt v w'.H
  | .ex C fs μ => ∀ dx w', Ext w w' → Rep K w' μ → XAt K w' dx fs → E (.ref C) dx w'.H
  | .no => False
theorem PostS.ext {K : PySem.W.Frag} {E : XK} {w w' : Wd} {Z : Ends} {r : Rs Ot} (e : Ext w w') (h : PostS K E w Z r) : PostS K E w' Z r := by
  match r, h with
  | .ok (.nx ρ) μ, h => exact fun σ w2 e2 => h σ w2 (e.trans e2)
  | .ok (.bk ρ) μ, h => exact fun σ w2 e2 => h σ w2 (e.trans e2)
  | .ok (.ct ρ) μ, h => exact fun σ w2 e2 => h σ w2 (e.trans e2)
  | .ok (.rt d) μ, h => exact fun v w2 e2 => h v w2 (e.trans e2)
  | .ex C fs μ, h => exact fun dx w2 e2 => h dx w2 (e.trans e2)
  | .no, h => exact h
def tS (K : PySem.W.Frag) (E : XK) (G : FS) : TS := fun Z σ H => ∃ w ρ μ, w.H = H ∧ SR K σ w ρ μ ∧ PostS K E w Z (G ρ μ)
/-- an expression ahead of what follows -/
theorem PostS.thn {γ δ : Type} {K : PySem.W.Frag} {E : XK} {S : Wd → δ → γ → Prop} {w : Wd} {Z : Ends} {Q' : δ → Hp → Prop} {r : Rs γ} {f : γ → Mu → Rs Ot} (h : PostS K E w Z (r.bind f))
    (k : ∀ c μ b w', Ext w w' → Rep K w' μ → S w' b c → PostS K E w' Z (f c μ) → Q' b w'.H) : Post K E S w Q' r := by
  cases r with
  | ok c μ => exact fun b w' e rp s => k c μ b w' e rp s (PostS.ext e h)
  | ex C fs μ => exact h
  | no => exact h

def gNx : FS := fun ρ μ => .ok (.nx ρ) μ
def gSeq (G1 G2 : FS) : FS := fun ρ μ => match G1 ρ μ with
  | .ok (.nx ρ1) μ1 => G2 ρ1 μ1
  | r => r
def gRet (F : FE) : FS := fun ρ μ => (F ρ μ).bind fun d μ1 => .ok (.rt d) μ1
def gExpr (F : FE) : FS := fun ρ μ => (F ρ μ).bind fun _ μ1 => .ok (.nx ρ) μ1
def gIf (c : FB) (G1 G2 : FS) : FS := fun ρ μ => (c ρ μ).bind fun b μ1 => if b = true then G1 ρ μ1 else G2 ρ μ1
def gBrk : FS := fun ρ μ => .ok (.bk ρ) μ
def gCnt : FS := fun ρ μ => .ok (.ct ρ) μ
def gNone : FS := fun _ μ => .ok (.rt .non) μ
section
variable {X : Cx} {E : XK} {st : Stmt} {rest : List Stmt} {e c : Expr} {pos : Pos} {F : FE} {B : FB} {G1 G2 : FS}
theorem ds_nil : PSs X [] (tS X.K E gNx) := pss_nil.imp fun Z σ H ⟨w, ρ, μ, hw, sr, p⟩ => by
  show Z.nx σ H
  exact hw ▸ p σ w (Ext.refl w) sr
theorem ds_cons (h1 : PS X st (tS X.K E G1)) (h2 : PSs X rest (tS X.K E G2)) : PSs X (st :: rest) (tS X.K E (gSeq G1 G2)) := (pss_cons h1 h2).imp fun Z σ H ⟨w, ρ, μ, hw, sr, p⟩ => by
  refine ⟨w, ρ, μ, hw, sr, ?_⟩
  unfold gSeq at p
  match q : G1 ρ μ, p with
  | .ok (.nx ρ1) μ1, p => exact fun σ' w' e' sr' => ⟨w', ρ1, μ1, rfl, sr', PostS.ext e' p⟩
  | .ok (.bk ρ1) μ1, p => exact p
  | .ok (.ct ρ1) μ1, p => exact p
  | .ok (.rt d) μ1, p => exact p
  | .ex C fs μ1, p => exact p
  | .no, p => exact p
theorem ds_one (h1 : PS X st (tS X.K E G1)) : PSs X [st] (tS X.K E G1) := pss_one h1
theorem d_ret (h : PE X e (tD X.K E F)) : PS X (.Return (some e) pos) (tS X.K E (gRet F)) := (ps_ret h).imp fun Z σ H ⟨w, ρ, μ, hw, sr, p⟩ =>
  ⟨w, ρ, μ, hw, sr, PostS.thn p fun d μ1 v w1 e1 r1 h1 p1 => p1 v w1 (Ext.refl w1) r1 h1⟩
theorem d_retN : PS X (.Return none pos) (tS X.K E gNone) := ps_retN.imp fun Z σ H ⟨w, ρ, μ, hw, sr, p⟩ => by
  show Z.rt .non H
  exact hw ▸ p .non w (Ext.refl w) sr.rep .non
theorem d_expr (h : PE X e (tD X.K E F)) (hs : swapsWith e none pos.line X.env = pure false := by rfl) : PS X (.Expr e pos) (tS X.K E (gExpr F)) := (ps_expr h hs).imp fun Z σ H ⟨w, ρ, μ, hw, sr, p⟩ =>
  ⟨w, ρ, μ, hw, sr, PostS.thn p fun d μ1 v w1 e1 r1 h1 p1 => p1 σ w1 (Ext.refl w1) (sr.ext e1 r1)⟩
theorem d_if {a b : List Stmt} (hc : PT X c (tDb X.K E B)) (ha : PSs X a (tS X.K E G1)) (hb : PSs X b (tS X.K E G2)) : PS X (.If c a b pos) (tS X.K E (gIf B G1 G2)) := (ps_if hc ha hb).imp fun Z σ H ⟨w, ρ, μ, hw, sr, p⟩ =>
  ⟨w, ρ, μ, hw, sr, PostS.thn p fun d μ1 k w1 e1 r1 h1 p1 => by
    subst h1
    cases k with
    | true => exact ⟨w1, ρ, μ1, rfl, sr.ext e1 r1, p1⟩
    | false => exact ⟨w1, ρ, μ1, rfl, sr.ext e1 r1, p1⟩⟩
theorem d_break : PS X (.Break pos) (tS X.K E gBrk) := ps_break.imp fun Z σ H ⟨w, ρ, μ, hw, sr, p⟩ => by
  show Z.bk σ H
  exact hw ▸ p σ w (Ext.refl w) sr
theorem d_continue : PS X (.Continue pos) (tS X.K E gCnt) := ps_continue.imp fun Z σ H ⟨w, ρ, μ, hw, sr, p⟩ => by
  show Z.ct σ H
  exact hw ▸ p σ w (Ext.refl w) sr
theorem d_pass : PS X (.Pass pos) (tS X.K E gNx) := ps_pass.imp fun Z σ H ⟨w, ρ, μ, hw, sr, p⟩ => by
  show Z.nx σ H
  exact hw ▸ p σ w (Ext.refl w) sr
end

/-! ### targets -/
abbrev FT := D → Rho → Option Rho
abbrev FTs := List D → Rho → Option Rho
def AdT (K : PySem.W.Frag) (T : FT) (t : TG) : Prop := ∀ (w : Wd) (μ : Mu) (σ : L2.St) (ρ ρ' : Rho) (v : V) (d : D) (Q : L2.St → Hp → Prop), SR K σ w ρ μ → Hv K w v d → T d ρ = some ρ' → (∀ σ', SR K σ' w ρ' μ → Q σ' w.H) → t v σ w.H Q
def AdTs (K : PySem.W.Frag) (T : FTs) (t : TGs) : Prop := ∀ (w : Wd) (μ : Mu) (σ : L2.St) (ρ ρ' : Rho) (vs : List V) (ds : List D) (Q : L2.St → Hp → Prop), SR K σ w ρ μ → HvL K w vs ds → T ds ρ = some ρ' → (∀ σ', SR K σ' w ρ' μ → Q σ' w.H) → t vs σ w.H Q
def tgN (i : Nat) : FT := fun d ρ => some (ρ.set i (some d))
def tgNil : FTs := fun ds ρ => match ds with
  | [] => some ρ
  | _ => none
def tgCons (T : FT) (U : FTs) : FTs := fun ds ρ => match ds with
  | d :: r => (T d ρ).bind fun ρ' => U r ρ'
  | [] => none
def tgT (n : Nat) (U : FTs) : FT := fun d ρ => match d with
  | .tup ds => if ds.length = n then U ds ρ else none
  | _ => none
section
variable {K : PySem.W.Frag}
theorem adT_name (i : Nat) : AdT K (tgN i) (gName i) := fun w μ σ ρ ρ' v d Q sr h e k => by
  cases e
  exact k _ (sr.set i h)
theorem adT_nil : AdTs K tgNil gNil := fun w μ σ ρ ρ' vs ds Q sr h e k => by
  cases h with
  | nil =>
    cases e
    exact ⟨rfl, k _ sr⟩
  | cons _ _ => cases e
theorem adT_cons {T : FT} {U : FTs} {t : TG} {u : TGs} (h1 : AdT K T t) (h2 : AdTs K U u) : AdTs K (tgCons T U) (gCons t u) := fun w μ σ ρ ρ' vs ds Q sr h e k => by
  cases h with
  | nil => cases e
  | @cons v d vs ds h l =>
    have e' : (T d ρ).bind (fun ρ' => U ds ρ') = some ρ' := e
    cases q : T d ρ with
    | none => rw [q] at e'; cases e'
    | some ρ1 =>
      rw [q] at e'
      exact ⟨v, vs, rfl, h1 w μ σ ρ ρ1 v d _ sr h q fun σ1 sr1 => h2 w μ σ1 ρ1 ρ' vs ds Q sr1 l e' k⟩
theorem adT_tup {n : Nat} {U : FTs} {u : TGs} (h : AdTs K U u) : AdT K (tgT n U) (gTup K n u) := fun w μ σ ρ ρ' v d Q sr hv e k => by
  cases hv with
  | @tup a vs ds t l =>
    have e' : (if ds.length = n then U ds ρ else none) = some ρ' := e
    by_cases hn : ds.length = n
    · rw [if_pos hn] at e'
      exact ⟨a, vs, rfl, t.sq, by rw [l.length]; exact hn, h w μ σ ρ ρ' vs ds Q sr l e' k⟩
    · rw [if_neg hn] at e'
      cases e'
  | _ => cases e
end
def gSet (F : FE) (T : FT) : FS := fun ρ μ => (F ρ μ).bind fun d μ1 => match T d ρ with
  | some ρ' => .ok (.nx ρ') μ1
  | none => .no
theorem tS_asg {K : PySem.W.Frag} {E : XK} {F : FE} {T : FT} {g : TG} (ad : AdT K T g) {Z : Ends} {σ : L2.St} {H : Hp} (h : tS K E (gSet F T) Z σ H) : tAsg (tD K E F) g Z σ H := by
  obtain ⟨w, ρ, μ, hw, sr, p⟩ := h
  refine ⟨w, ρ, μ, hw, sr, PostS.thn p fun d μ1 v w1 e1 r1 h1 p1 => ?_⟩
  cases q : T d ρ with
  | none => rw [q] at p1; exact p1.elim
  | some ρ' =>
    rw [q] at p1
    exact ad w1 μ1 σ ρ ρ' v d _ (sr.ext e1 r1) h1 q fun σ' sr' => p1 σ' w1 (Ext.refl w1) sr'
section
variable {X : Cx} {E : XK} {e : Expr} {F : FE} {x : Str} {pos pos' : Pos}
theorem d_set {i : Nat} (hN : X.N.Nodup) (hi : X.N[i]? = some x) (hx : Loc X.env.scope x) (he : PE X e (tD X.K E F)) (hs : swapsWith e (some (.Name x pos')) pos.line X.env = pure false := by rfl)
    (hf : X.fn x = true ∨ X.env.scope.names.lookup x = some .local := by first | exact .inl rfl | exact .inr rfl) : PS X (.Assign [.Name x pos'] e pos) (tS X.K E (gSet F (tgN i))) :=
  (ps_set hN hi hx he hs hf).imp fun _ _ _ => tS_asg (adT_name i)
theorem d_asg {tg : Expr} {T : FT} {g : TG} (he : PE X e (tD X.K E F)) (hg : PG X tg g) (ad : AdT X.K T g) (hs : swapsWithSole [tg] e pos.line X.env = pure false := by rfl) (hw : swappedStores [tg] e X.env = pure none := by rfl)
    (h1 : (assignEach [tg] X.env).map (·.2) = [assign tg X.env] := by rfl) : PS X (.Assign [tg] e pos) (tS X.K E (gSet F T)) :=
  (ps_asg he hg hs hw h1).imp fun _ _ _ => tS_asg ad
end

/-! ### loops -/
def gLoop (T : FT) (G : FS) : List D → Rho → Mu → Rs Ot
  | [], ρ, μ => .ok (.nx ρ) μ
  | d :: ds, ρ, μ => match T d ρ with
    | none => .no
    | some ρ1 => match G ρ1 μ with
      | .ok (.nx ρ2) μ2 => gLoop T G ds ρ2 μ2
      | .ok (.ct ρ2) μ2 => gLoop T G ds ρ2 μ2
      | .ok (.bk ρ2) μ2 => .ok (.nx ρ2) μ2
      | r => r
def gFor (Fi : FA) (T : FT) (G : FS) : FS := fun ρ μ => (Fi ρ μ).bind fun ds μ1 => gLoop T G ds ρ μ1
/-- an iterator over data that stands -/
structure Walks (K : PySem.W.Frag) (J : It) (w : Wd) (ds : List D) : Prop where
  go : ∀ (w' : Wd) (i : Nat) (d : D), Ext w w' → ds[i]? = some d → J.go i w'.H
  yld : ∀ (w' : Wd) (i : Nat) (d : D) (x : V) (H' : Hp) (μ : Mu), Ext w w' → Rep K w' μ → ds[i]? = some d → J.yld i w'.H x H' → ∃ w'', w''.H = H' ∧ Ext w' w'' ∧ Rep K w'' μ ∧ Hv K w'' x d
  stop : ∀ (w' : Wd), Ext w w' → J.stop ds.length w'.H
/-- an iterable: its items are those that the function tells -/
def AdI (K : PySem.W.Frag) (E : XK) (Fi : FA) (wi : TI) : Prop := ∀ (σ : L2.St) (w : Wd) (ρ : Rho) (μ : Mu) (R : It → Hp → Prop), SR K σ w ρ μ →
  (match Fi ρ μ with
    | .ok ds μ1 => ∀ J w', Ext w w' → Rep K w' μ1 → Walks K J w' ds → R J w'.H
    | .ex C fs μ1 => ∀ dx w', Ext w w' → Rep K w' μ1 → XAt K w' dx fs → E (.ref C) dx w'.H
    | .no => False) → wi σ w.H R
theorem tS_for {K : PySem.W.Frag} {E : XK} {Fi : FA} {T : FT} {G : FS} {wi : TI} {g : TG} (ai : AdI K E Fi wi) (ad : AdT K T g) {Z : Ends} {σ : L2.St} {H : Hp} (h : tS K E (gFor Fi T G) Z σ H) : tFor wi g (tS K E G) Z σ H := by
  obtain ⟨w, ρ, μ, hw, sr, p⟩ := h
  subst hw
  refine ai σ w ρ μ _ sr ?_
  unfold gFor at p
  cases q : Fi ρ μ with
  | no => rw [q] at p; exact p.elim
  | ex C fs μ1 => rw [q] at p; exact p
  | ok ds μ1 =>
    rw [q] at p
    have p : PostS K E w Z (gLoop T G ds ρ μ1) := p
    intro J w1 e1 r1 wk
    refine ⟨fun i m σ H => ∃ w' ρ' μ', w'.H = H ∧ Ext w1 w' ∧ SR K σ w' ρ' μ' ∧ i ≤ ds.length ∧ m = ds.length - i ∧ PostS K E w' Z (gLoop T G (ds.drop i) ρ' μ'),
      ⟨ds.length, w1, ρ, μ1, rfl, Ext.refl _, sr.ext e1 r1, Nat.zero_le _, rfl, PostS.ext e1 p⟩, ?_⟩
    rintro i m σ' H' ⟨w', ρ', μ', rfl, e', sr', hi, rfl, p'⟩
    by_cases hlt : i < ds.length
    · refine .inr ⟨wk.go w' i ds[i] e' (List.getElem?_eq_getElem hlt), ?_⟩
      rw [List.drop_eq_getElem_cons hlt] at p'
      refine ⟨fun σ2 H2 => ∃ w2 ρ2 μ2, w2.H = H2 ∧ Ext w1 w2 ∧ SR K σ2 w2 ρ2 μ2 ∧ PostS K E w2 Z (gLoop T G (ds.drop (i + 1)) ρ2 μ2), ?_, ?_⟩
      · rintro σ2 H2 ⟨w2, ρ2, μ2, rfl, e2, sr2, p2⟩
        exact ⟨ds.length - (i + 1), by omega, w2, ρ2, μ2, rfl, e2, sr2, hlt, rfl, p2⟩
      · intro x H2 hy
        obtain ⟨w2, rfl, e2, r2, h2⟩ := wk.yld w' i ds[i] x H2 μ' e' sr'.rep (List.getElem?_eq_getElem hlt) hy
        have p' : PostS K E w' Z (match T ds[i] ρ' with
          | none => .no
          | some ρ1 => match G ρ1 μ' with
            | .ok (.nx ρ2) μ2 => gLoop T G (ds.drop (i + 1)) ρ2 μ2
            | .ok (.ct ρ2) μ2 => gLoop T G (ds.drop (i + 1)) ρ2 μ2
            | .ok (.bk ρ2) μ2 => .ok (.nx ρ2) μ2
            | r => r) := p'
        cases qt : T ds[i] ρ' with
        | none => rw [qt] at p'; exact p'.elim
        | some ρ1 =>
          rw [qt] at p'
          refine ad w2 μ' σ' ρ' ρ1 x ds[i] _ (sr'.ext e2 r2) h2 qt fun σ3 sr3 => ⟨w2, ρ1, μ', rfl, sr3, ?_⟩
          have p' := PostS.ext e2 p'
          simp only at p'
          match qg : G ρ1 μ', p' with
          | .ok (.nx ρ2) μ2, p' => exact fun σ4 w4 e4 sr4 => ⟨w4, ρ2, μ2, rfl, (e'.trans e2).trans e4, sr4, PostS.ext e4 p'⟩
          | .ok (.ct ρ2) μ2, p' => exact fun σ4 w4 e4 sr4 => ⟨w4, ρ2, μ2, rfl, (e'.trans e2).trans e4, sr4, PostS.ext e4 p'⟩
          | .ok (.bk ρ2) μ2, p' => exact p'
          | .ok (.rt d) μ2, p' => exact p'
          | .ex C fs μ2, p' => exact p'
          | .no, p' => exact p'
    · have ei : i = ds.length := by omega
      subst ei
      rw [List.drop_length] at p'
      exact .inl ⟨wk.stop w' e', p' σ' w' (Ext.refl _) sr'⟩
theorem d_for {X : Cx} {E : XK} {tg iter : Expr} {body : List Stmt} {wi : TI} {g : TG} {Fi : FA} {T : FT} {G : FS} {pos : Pos} (hp : PassesOwn (model X.prog X.w) X.A X.env X.xe) (hc : X.calm = true) (hi : PI X tg iter wi) (ai : AdI X.K E Fi wi) (hg : PG X tg g) (ad : AdT X.K T g)
    (hb : PSs X body (tS X.K E G)) (hs : ∀ x, foldedSetIterable iter X.env x = pure x := by intro _; rfl) : PS X (.For tg iter body [] pos) (tS X.K E (gFor Fi T G)) :=
  (ps_for hp hc hi hg hb hs).imp fun _ _ _ => tS_for ai ad
/-- while, with more turns than are needed -/
def gWh (c : FB) (G : FS) : Nat → Rho → Mu → Rs Ot
  | 0, _, _ => .no
  | n + 1, ρ, μ => (c ρ μ).bind fun b μ1 => if b = true then (match G ρ μ1 with
      | .ok (.nx ρ2) μ2 => gWh c G n ρ2 μ2
      | .ok (.ct ρ2) μ2 => gWh c G n ρ2 μ2
      | .ok (.bk ρ2) μ2 => .ok (.nx ρ2) μ2
      | r => r) else .ok (.nx ρ) μ1
def gWhile (fuel : Rho → Mu → Nat) (c : FB) (G : FS) : FS := fun ρ μ => gWh c G (fuel ρ μ) ρ μ
theorem tS_while {K : PySem.W.Frag} {E : XK} {fuel : Rho → Mu → Nat} {c : FB} {G : FS} {Z : Ends} {σ : L2.St} {H : Hp} (h : tS K E (gWhile fuel c G) Z σ H) : tWhile (tDb K E c) (tS K E G) Z σ H := by
  obtain ⟨w, ρ, μ, hw, sr, p⟩ := h
  subst hw
  refine ⟨fun m σ H => ∃ w' ρ' μ', w'.H = H ∧ SR K σ w' ρ' μ' ∧ PostS K E w' Z (gWh c G m ρ' μ'), ⟨fuel ρ μ, w, ρ, μ, rfl, sr, p⟩, ?_⟩
  rintro m σ' H' ⟨w', ρ', μ', rfl, sr', p'⟩
  cases m with
  | zero => exact p'.elim
  | succ m =>
    refine ⟨w', ρ', μ', rfl, sr', PostS.thn (show PostS K E w' Z ((c ρ' μ').bind _) from p') fun b μ1 k w1 e1 r1 h1 p1 => ?_⟩
    subst h1
    cases k with
    | false => exact p1 σ' w1 (Ext.refl _) (sr'.ext e1 r1)
    | true =>
      simp only [if_true] at p1 ⊢
      refine ⟨fun σ2 H2 => ∃ w2 ρ2 μ2, w2.H = H2 ∧ SR K σ2 w2 ρ2 μ2 ∧ PostS K E w2 Z (gWh c G m ρ2 μ2), ?_, w1, ρ', μ1, rfl, sr'.ext e1 r1, ?_⟩
      · rintro σ2 H2 ⟨w2, ρ2, μ2, rfl, sr2, p2⟩
        exact ⟨m, Nat.lt_succ_self m, w2, ρ2, μ2, rfl, sr2, p2⟩
      · match qg : G ρ' μ1, p1 with
        | .ok (.nx ρ2) μ2, p1 => exact fun σ4 w4 e4 sr4 => ⟨w4, ρ2, μ2, rfl, sr4, PostS.ext e4 p1⟩
        | .ok (.ct ρ2) μ2, p1 => exact fun σ4 w4 e4 sr4 => ⟨w4, ρ2, μ2, rfl, sr4, PostS.ext e4 p1⟩
        | .ok (.bk ρ2) μ2, p1 => exact p1
        | .ok (.rt d) μ2, p1 => exact p1
        | .ex C fs μ2, p1 => exact p1
        | .no, p1 => exact p1
theorem d_while {X : Cx} {E : XK} {c : Expr} {body : List Stmt} {B : FB} {G : FS} {pos : Pos} (fuel : Rho → Mu → Nat) (hp : PassesOwn (model X.prog X.w) X.A X.env X.xe) (hc : PT X c (tDb X.K E B)) (hb : PSs X body (tS X.K E G)) : PS X (.While c body [] pos) (tS X.K E (gWhile fuel B G)) :=
  (ps_while hp hc hb).imp fun _ _ _ => tS_while

/-! ### list comprehensions -/
def wipeR (ρ : Rho) : List Nat → Rho
  | [] => ρ
  | i :: is => (wipeR ρ is).set i none
def Rs.noex {α : Type} : Rs α → Rs α
  | .ex _ _ _ => .no
  | r => r
def cLoop (T : FT) (t : FB) (F : FE) (ρ : Rho) : List D → List D → Mu → Rs (List D)
  | [], acc, μ => .ok acc μ
  | d :: ds, acc, μ => match T d ρ with
    | none => .no
    | some ρ1 => (t ρ1 μ).noex.bind fun b μ1 => if b = true then (F ρ1 μ1).noex.bind fun y μ2 => if acc.length < sizeLine then cLoop T t F ρ ds (acc ++ [y]) μ2 else .no else cLoop T t F ρ ds acc μ1
def fComp (is : List Nat) (Fi : FA) (T : FT) (t : FB) (F : FE) : FE := fun ρ μ => (Fi ρ μ).bind fun ds μ1 => (cLoop T t F (wipeR ρ is) ds [] μ1).bind fun ys μ2 => .ok (.lst ys) μ2
/-- the new list is changed later -/
def fCompM (is : List Nat) (Fi : FA) (T : FT) (t : FB) (F : FE) : FE := fun ρ μ => (Fi ρ μ).bind fun ds μ1 => (cLoop T t F (wipeR ρ is) ds [] μ1).bind fun ys μ2 => .ok (.ref μ2.length) (μ2 ++ [.lst ys])
theorem wipe_out (x : Option V) (i : Nat) : ∀ (vs : List Nat) (σ : L2.St), i ∉ vs → wipe (σ.set i x) vs = (wipe σ vs).set i x
  | [], _, _ => rfl
  | j :: vs, σ, h => by
    show (wipe (σ.set i x) vs).set j none = ((wipe σ vs).set j none).set i x
    rw [wipe_out x i vs σ fun z => h (List.mem_cons_of_mem _ z), List.set_comm _ _ fun z => h (by rw [z]; exact List.mem_cons_self)]
theorem wipe_set (x : Option V) (i : Nat) : ∀ (vs : List Nat) (σ : L2.St), i ∈ vs → wipe (σ.set i x) vs = wipe σ vs
  | [], _, h => absurd h (by simp)
  | j :: vs, σ, h => by
    show (wipe (σ.set i x) vs).set j none = (wipe σ vs).set j none
    by_cases m : i ∈ vs
    · rw [wipe_set x i vs σ m]
    · have e : i = j := (List.mem_cons.mp h).resolve_right m
      subst e
      rw [wipe_out x i vs σ m, List.set_set]
theorem wipe_none (i : Nat) (vs : List Nat) (σ : L2.St) (h : i ∈ vs) : (wipe σ vs).set i none = wipe σ vs := by
  induction vs with
  | nil => exact absurd h (by simp)
  | cons j vs ih =>
    show ((wipe σ vs).set j none).set i none = (wipe σ vs).set j none
    by_cases e : i = j
    · subst e
      rw [List.set_set]
    · rw [List.set_comm _ _ (Ne.symm e), ih ((List.mem_cons.mp h).resolve_left e)]
theorem wipe_sub : ∀ (us vs : List Nat) (σ : L2.St), (∀ i ∈ us, i ∈ vs) → wipe (wipe σ vs) us = wipe σ vs
  | [], _, _, _ => rfl
  | j :: us, vs, σ, h => by
    show (wipe (wipe σ vs) us).set j none = wipe σ vs
    rw [wipe_sub us vs σ fun i m => h i (List.mem_cons_of_mem _ m)]
    exact wipe_none j vs σ (h j List.mem_cons_self)
theorem SR.none {K : PySem.W.Frag} {σ : L2.St} {w : Wd} {ρ : Rho} {μ : Mu} (s : SR K σ w ρ μ) (i : Nat) : SR K (σ.set i none) w (ρ.set i none) μ := by
  refine ⟨s.rep, by rw [List.length_set, List.length_set, s.len], fun j e q => ?_⟩
  by_cases hj : i = j
  · subst hj
    by_cases hl : i < ρ.length
    · rw [List.getElem?_set_self hl] at q; cases q
    · rw [List.getElem?_eq_none (by rw [List.length_set]; omega)] at q; cases q
  · rw [List.getElem?_set_ne hj] at q
    rw [List.getElem?_set_ne hj]
    exact s.env j e q
theorem SR.wipe {K : PySem.W.Frag} {w : Wd} {μ : Mu} : ∀ (vs : List Nat) {σ : L2.St} {ρ : Rho}, SR K σ w ρ μ → SR K (L2.wipe σ vs) w (wipeR ρ vs) μ
  | [], _, _, s => s
  | i :: vs, _, _, s => (SR.wipe vs s).none i
/-- a target of a comprehension: it stores in the slots vs alone -/
def AdTw (K : PySem.W.Frag) (T : FT) (t : TG) (vs : List Nat) : Prop := ∀ (w : Wd) (μ : Mu) (σ : L2.St) (ρ ρ' : Rho) (v : V) (d : D) (Q : L2.St → Hp → Prop), SR K σ w ρ μ → Hv K w v d → T d ρ = some ρ' → (∀ σ', SR K σ' w ρ' μ → wipe σ' vs = wipe σ vs → Q σ' w.H) → t v σ w.H Q
def AdTws (K : PySem.W.Frag) (T : FTs) (t : TGs) (vs : List Nat) : Prop := ∀ (w : Wd) (μ : Mu) (σ : L2.St) (ρ ρ' : Rho) (xs : List V) (ds : List D) (Q : L2.St → Hp → Prop), SR K σ w ρ μ → HvL K w xs ds → T ds ρ = some ρ' → (∀ σ', SR K σ' w ρ' μ → wipe σ' vs = wipe σ vs → Q σ' w.H) → t xs σ w.H Q
section
variable {K : PySem.W.Frag}
theorem adW_name {i : Nat} {vs : List Nat} (hi : i ∈ vs) : AdTw K (tgN i) (gName i) vs := fun w μ σ ρ ρ' v d Q sr h e k => by
  cases e
  exact k _ (sr.set i h) (wipe_set _ i vs σ hi)
theorem adW_nil {vs : List Nat} : AdTws K tgNil gNil vs := fun w μ σ ρ ρ' xs ds Q sr h e k => by
  cases h with
  | nil =>
    cases e
    exact ⟨rfl, k _ sr rfl⟩
  | cons _ _ => cases e
theorem adW_cons {T : FT} {U : FTs} {t : TG} {u : TGs} {vs : List Nat} (h1 : AdTw K T t vs) (h2 : AdTws K U u vs) : AdTws K (tgCons T U) (gCons t u) vs := fun w μ σ ρ ρ' xs ds Q sr h e k => by
  cases h with
  | nil => cases e
  | @cons v d xs ds h l =>
    have e' : (T d ρ).bind (fun ρ' => U ds ρ') = some ρ' := e
    cases q : T d ρ with
    | none => rw [q] at e'; cases e'
    | some ρ1 =>
      rw [q] at e'
      exact ⟨v, xs, rfl, h1 w μ σ ρ ρ1 v d _ sr h q fun σ1 sr1 z1 => h2 w μ σ1 ρ1 ρ' xs ds Q sr1 l e' fun σ2 sr2 z2 => k σ2 sr2 (z2.trans z1)⟩
theorem adW_tup {n : Nat} {U : FTs} {u : TGs} {vs : List Nat} (h : AdTws K U u vs) : AdTw K (tgT n U) (gTup K n u) vs := fun w μ σ ρ ρ' v d Q sr hv e k => by
  cases hv with
  | @tup a xs ds t l =>
    have e' : (if ds.length = n then U ds ρ else none) = some ρ' := e
    by_cases hn : ds.length = n
    · rw [if_pos hn] at e'
      exact ⟨a, xs, rfl, t.sq, by rw [l.length]; exact hn, h w μ σ ρ ρ' xs ds Q sr l e' k⟩
    · rw [if_neg hn] at e'
      cases e'
  | _ => cases e
end
/-- the world while the new list at p is filled: nothing else uses p -/
structure Fill (K : PySem.W.Frag) (w1 w : Wd) (p : Addr) (acc : List D) : Prop where
  ext : Ext w1 w
  ban : p ∈ w.ban
  out : p ∉ w.loc
  at' : ∃ vs, w.H p = some (.lst vs) ∧ HvL K w vs acc
theorem Fill.next {K : PySem.W.Frag} {w1 w w' : Wd} {p : Addr} {acc : List D} (f : Fill K w1 w p acc) (e : Ext w w') : Fill K w1 w' p acc := by
  obtain ⟨vs, h, l⟩ := f.at'
  exact ⟨f.ext.trans e, e.ban p f.ban, e.out p _ h f.out, vs, e.kept p _ h f.out, l.ext e⟩
theorem tD_compG {K : PySem.W.Frag} {E : XK} {fz : List D → Mu → Rs D} {is : List Nat} {Fi : FA} {T : FT} {t : FB} {F : FE} {wi : TI} {g : TG} (ai : AdI K E Fi wi) (ad : AdTw K T g is)
    {σ : L2.St} {H : Hp} {Q : VK}
    (fin : ∀ (w1 w' : Wd) (P : Addr) (μ' : Mu) (acc : List D), P ∉ w1.ban → Fill K w1 w' P acc → Rep K w' μ' → Post K E (Hv K) w1 Q (fz acc μ') → Q (.ref P) w'.H)
    (h : tD K E (fun ρ μ => (Fi ρ μ).bind fun ds μ1 => (cLoop T t F (wipeR ρ is) ds [] μ1).bind fz) σ H Q) : tLc wi g (tDb K (fun _ _ _ => False) t) (tD K (fun _ _ _ => False) F) is σ H Q := by
  obtain ⟨w, ρ, μ, hw, sr, p⟩ := h
  subst hw
  refine ai σ w ρ μ _ sr ?_
  simp only at p
  cases q : Fi ρ μ with
  | no => rw [q] at p; exact p.elim
  | ex C fs μ1 => rw [q] at p; exact p
  | ok ds μ1 =>
    rw [q] at p
    have p : Post K E (Hv K) w Q ((cLoop T t F (wipeR ρ is) ds [] μ1).bind fz) := p
    intro J w1 e1 r1 wk
    have p := Post.ext e1 p
    have sr1 := sr.ext e1 r1
    intro P hP
    -- the new list
    have nb := r1.nban hP
    refine ⟨fun i m H => ∃ w' μ' acc, w'.H = H ∧ Fill K w1 w' P acc ∧ Rep K w' μ' ∧ i ≤ ds.length ∧ m = ds.length - i ∧ Post K E (Hv K) w1 Q ((cLoop T t F (wipeR ρ is) (ds.drop i) acc μ').bind fz), ⟨ds.length, ?_⟩, ?_⟩
    · refine ⟨⟨w1.loc, P :: w1.ban, upd w1.H P (.lst []), fun b z => List.mem_cons_of_mem _ (w1.sub b z)⟩, μ1, [], rfl, ⟨?_, List.mem_cons_self, fun z => nb (w1.sub P z), [], upd_same, .nil⟩, ?_, Nat.zero_le _, rfl, p⟩
      · have ne : ∀ b u, w1.H b = some u → b ≠ P := fun b u q => ne_of_none q hP
        refine ⟨⟨[], (List.append_nil _).symm⟩, fun b u q _ => by show upd w1.H P _ b = _; rw [upd_ne (ne b u q)]; exact q, fun _ _ _ n => n, fun b u q n z => ?_, fun b z => List.mem_cons_of_mem _ z⟩
        rcases List.mem_cons.mp z with z | z
        · exact ne b u q z
        · exact n z
      · refine ⟨r1.len, r1.nd, fun b hb => ?_, fun k a u g1 g2 => ?_⟩
        · rcases List.mem_cons.mp hb with z | z
          · exact ⟨_, by rw [z]; exact upd_same⟩
          · obtain ⟨u, q⟩ := r1.has b z
            exact ⟨u, by show upd w1.H P _ b = _; rw [upd_ne (ne_of_none q hP)]; exact q⟩
        · obtain ⟨u', q⟩ := r1.hloc g1
          have wk1 : Wk w1 ⟨w1.loc, P :: w1.ban, upd w1.H P (.lst []), fun b z => List.mem_cons_of_mem _ (w1.sub b z)⟩ := ⟨⟨[], (List.append_nil _).symm⟩, fun b u q n => ⟨by show upd w1.H P _ b = _; rw [upd_ne (ne_of_none q hP)]; exact q, fun z => (List.mem_cons.mp z).elim (fun z => ne_of_none q hP z) n⟩⟩
          exact (r1.ob k a u g1 g2).wk wk1 (by show upd w1.H P _ a = _; rw [upd_ne (ne_of_none q hP)])
    · rintro i m H' ⟨w', μ', acc, rfl, f, r', hi, rfl, p'⟩
      by_cases hlt : i < ds.length
      · refine .inr ⟨wk.go w' i ds[i] f.ext (List.getElem?_eq_getElem hlt), ?_⟩
        rw [List.drop_eq_getElem_cons hlt] at p'
        refine ⟨fun H2 => ∃ w2 μ2 acc2, w2.H = H2 ∧ Fill K w1 w2 P acc2 ∧ Rep K w2 μ2 ∧ Post K E (Hv K) w1 Q ((cLoop T t F (wipeR ρ is) (ds.drop (i + 1)) acc2 μ2).bind fz), ?_, ?_⟩
        · rintro H2 ⟨w2, μ2, acc2, rfl, f2, r2, p2⟩
          exact ⟨ds.length - (i + 1), by omega, w2, μ2, acc2, rfl, f2, r2, hlt, rfl, p2⟩
        · intro x H2 hy
          obtain ⟨w2, rfl, e2, r2, h2⟩ := wk.yld w' i ds[i] x H2 μ' f.ext r' (List.getElem?_eq_getElem hlt) hy
          have f2 := f.next e2
          have p' : Post K E (Hv K) w1 Q (Rs.bind (match T ds[i] (wipeR ρ is) with
            | none => .no
            | some ρ1 => (t ρ1 μ').noex.bind fun b μ1 => if b = true then (F ρ1 μ1).noex.bind fun y μ2 => if acc.length < sizeLine then cLoop T t F (wipeR ρ is) (ds.drop (i + 1)) (acc ++ [y]) μ2 else .no else cLoop T t F (wipeR ρ is) (ds.drop (i + 1)) acc μ1) fz) := p'
          have srw : SR K (L2.wipe σ is) w2 (wipeR ρ is) μ' := SR.wipe is (sr1.ext (f.ext.trans e2) r2)
          cases qt : T ds[i] (wipeR ρ is) with
          | none => rw [qt] at p'; exact p'.elim
          | some ρ1 =>
            rw [qt] at p'
            simp only at p'
            refine ad w2 μ' _ _ ρ1 x ds[i] _ srw h2 qt fun σ3 sr3 z3 => ⟨z3.trans ?_, w2, ρ1, μ', rfl, sr3, ?_⟩
            · exact wipe_sub is is σ fun _ m => m
            · cases qb : t ρ1 μ' with
              | no => rw [qb] at p'; exact p'.elim
              | ex C fs μ3 => rw [qb] at p'; exact p'.elim
              | ok b μ3 =>
                rw [qb] at p'
                intro b' w3 e3 r3 hb
                subst hb
                have f3 := f2.next e3
                cases b' with
                | false => exact ⟨w3, μ3, acc, rfl, f3, r3, p'⟩
                | true =>
                  rw [if_pos rfl]
                  refine ⟨w3, ρ1, μ3, rfl, sr3.ext e3 r3, ?_⟩
                  have p' : Post K E (Hv K) w1 Q (Rs.bind ((F ρ1 μ3).noex.bind fun y μ2 => if acc.length < sizeLine then cLoop T t F (wipeR ρ is) (ds.drop (i + 1)) (acc ++ [y]) μ2 else .no) fz) := p'
                  cases qf : F ρ1 μ3 with
                  | no => rw [qf] at p'; exact p'.elim
                  | ex C fs μ4 => rw [qf] at p'; exact p'.elim
                  | ok y μ4 =>
                    rw [qf] at p'
                    intro yv w4 e4 r4 h4
                    have f4 := f3.next e4
                    obtain ⟨vs, g1, g2⟩ := f4.at'
                    have p' : Post K E (Hv K) w1 Q (Rs.bind (if acc.length < sizeLine then cLoop T t F (wipeR ρ is) (ds.drop (i + 1)) (acc ++ [y]) μ4 else .no) fz) := p'
                    by_cases hz : acc.length < sizeLine
                    · rw [if_pos hz] at p'
                      have wk4 : Wk w4 (w4.new P (.lst (vs ++ [yv]))) := ⟨⟨[], (List.append_nil _).symm⟩, fun b o q n => ⟨by show upd w4.H P _ b = _; rw [upd_ne fun z => n (by rw [z]; exact f4.ban)]; exact q, n⟩⟩
                      refine ⟨vs, g1, by rw [g2.length]; exact hz, w4.new P (.lst (vs ++ [yv])), μ4, acc ++ [y], rfl, ?_, ?_, p'⟩
                      · refine ⟨⟨f4.ext.loc, fun b o q n => ?_, f4.ext.out, f4.ext.fre, f4.ext.ban⟩, f4.ban, f4.out, vs ++ [yv], upd_same, (g2.wk wk4).append (.cons (h4.wk wk4) .nil)⟩
                        show upd w4.H P _ b = _
                        rw [upd_ne (ne_of_none q hP)]
                        exact f4.ext.kept b o q n
                      · refine ⟨r4.len, r4.nd, fun b hb => ?_, fun k a u g3 g4 => ?_⟩
                        · by_cases z : b = P
                          · exact ⟨_, by rw [z]; exact upd_same⟩
                          · obtain ⟨u, q⟩ := r4.has b hb
                            exact ⟨u, by show upd w4.H P _ b = _; rw [upd_ne z]; exact q⟩
                        · have na : a ≠ P := fun z => f4.out (z ▸ List.mem_of_getElem? g3)
                          exact (r4.ob k a u g3 g4).wk wk4 (by show upd w4.H P _ a = _; rw [upd_ne na])
                    · rw [if_neg hz] at p'
                      exact p'.elim
      · have ei : i = ds.length := by omega
        subst ei
        rw [List.drop_length] at p'
        refine .inl ⟨wk.stop w' f.ext, ?_⟩
        exact fin w1 w' P μ' acc nb f r' p'
theorem tD_comp {K : PySem.W.Frag} {E : XK} {is : List Nat} {Fi : FA} {T : FT} {t : FB} {F : FE} {wi : TI} {g : TG} (ai : AdI K E Fi wi) (ad : AdTw K T g is)
    {σ : L2.St} {H : Hp} {Q : VK} (h : tD K E (fComp is Fi T t F) σ H Q) : tLc wi g (tDb K (fun _ _ _ => False) t) (tD K (fun _ _ _ => False) F) is σ H Q := by
  refine tD_compG ai ad (fun w1 w' P μ' acc nb f r' p' => ?_) h
  obtain ⟨vs, g1, g2⟩ := f.at'
  have p' : Post K E (Hv K) w1 Q (.ok (.lst acc) μ') := p'
  have wkf : Wk w' ⟨w'.loc, w'.ban.filter (fun b => decide (b ≠ P)), w'.H, fun b z => List.mem_filter.mpr ⟨w'.sub b z, decide_eq_true fun e => f.out (e ▸ z)⟩⟩ := ⟨⟨[], (List.append_nil _).symm⟩, fun b o q n => ⟨q, fun z => n (List.mem_filter.mp z).1⟩⟩
  refine p' (.ref P) ⟨w'.loc, w'.ban.filter (fun b => decide (b ≠ P)), w'.H, fun b z => List.mem_filter.mpr ⟨w'.sub b z, decide_eq_true fun e => f.out (e ▸ z)⟩⟩ ?_ ?_ ?_
  · refine ⟨f.ext.loc, f.ext.kept, f.ext.out, fun b o q n z => f.ext.fre b o q n (List.mem_filter.mp z).1, fun b z => List.mem_filter.mpr ⟨f.ext.ban b z, decide_eq_true fun e => nb (e ▸ z)⟩⟩
  · exact ⟨r'.len, r'.nd, fun b hb => r'.has b (List.mem_filter.mp hb).1, fun k a u g3 g4 => (r'.ob k a u g3 g4).wk wkf rfl⟩
  · refine .lst (fun z => ?_) g1 (g2.wk wkf)
    exact (of_decide_eq_true (List.mem_filter.mp z).2) rfl
theorem tD_compM {K : PySem.W.Frag} {E : XK} {is : List Nat} {Fi : FA} {T : FT} {t : FB} {F : FE} {wi : TI} {g : TG} (ai : AdI K E Fi wi) (ad : AdTw K T g is)
    {σ : L2.St} {H : Hp} {Q : VK} (h : tD K E (fCompM is Fi T t F) σ H Q) : tLc wi g (tDb K (fun _ _ _ => False) t) (tD K (fun _ _ _ => False) F) is σ H Q := by
  refine tD_compG ai ad (fun w1 w' P μ' acc nb f r' p' => ?_) h
  obtain ⟨vs, g1, g2⟩ := f.at'
  have p' : Post K E (Hv K) w1 Q (.ok (.ref μ'.length) (μ' ++ [.lst acc])) := p'
  have wkf : Wk w' ⟨w'.loc ++ [P], w'.ban, w'.H, fun b z => (List.mem_append.mp z).elim (w'.sub b) fun z => by rw [List.mem_singleton.mp z]; exact f.ban⟩ := ⟨⟨[P], rfl⟩, fun b o q n => ⟨q, n⟩⟩
  refine p' (.ref P) ⟨w'.loc ++ [P], w'.ban, w'.H, fun b z => (List.mem_append.mp z).elim (w'.sub b) fun z => by rw [List.mem_singleton.mp z]; exact f.ban⟩ ?_ ?_ ?_
  · obtain ⟨m, e⟩ := f.ext.loc
    refine ⟨⟨m ++ [P], by show w'.loc ++ [P] = _; rw [e, List.append_assoc]⟩, f.ext.kept, fun b o q n z => ?_, f.ext.fre, f.ext.ban⟩
    rcases List.mem_append.mp z with z | z
    · exact f.ext.out b o q n z
    · have nbb : b ∉ w1.ban := by rw [List.mem_singleton.mp z]; exact nb
      exact f.ext.fre b o q nbb (by rw [List.mem_singleton.mp z]; exact f.ban)
  · refine ⟨by show (w'.loc ++ [P]).length = _; rw [List.length_append, List.length_append, r'.len]; rfl, ?_, r'.has, fun k a u g3 g4 => ?_⟩
    · show (w'.loc ++ [P]).Nodup
      refine List.nodup_append.mpr ⟨r'.nd, by simp, fun b hb c hc z => ?_⟩
      rw [List.mem_singleton.mp hc] at z
      exact f.out (z ▸ hb)
    · have g3 : (w'.loc ++ [P])[k]? = some a := g3
      by_cases hk : k < μ'.length
      · rw [List.getElem?_append_left (by rw [r'.len]; exact hk)] at g3
        rw [List.getElem?_append_left hk] at g4
        exact (r'.ob k a u g3 g4).wk wkf rfl
      · rw [List.getElem?_append_right (by rw [r'.len]; omega), r'.len] at g3
        rw [List.getElem?_append_right (by omega)] at g4
        cases hd : k - μ'.length with
        | zero =>
          rw [hd] at g3 g4
          cases g3; cases g4
          exact ⟨vs, g1, g2.wk wkf⟩
        | succ j => rw [hd] at g3; cases g3
  · refine .ref ?_
    show (w'.loc ++ [P])[μ'.length]? = some P
    rw [← r'.len, List.getElem?_append_right (Nat.le_refl _), Nat.sub_self]
    rfl
end FL
/-! FL: what is walked, comprehensions as expressions, a def by its body. -/
namespace FL
open PySem PySem.Spec PyProof.Rows L2 RZ
set_option autoImplicit false

/-! ### iterables -/
def fItT (F : FE) : FA := fun ρ μ => (F ρ μ).bind fun d μ1 => match d with
  | .tup ds => .ok ds μ1
  | _ => .no
def fItL (F : FE) : FA := fun ρ μ => (F ρ μ).bind fun d μ1 => match d with
  | .lst ds => .ok ds μ1
  | .rol ds => .ok ds μ1
  | _ => .no
def sign (c : Nat) : D := .str ⟨#[c]⟩
def fItS (F : FE) : FA := fun ρ μ => (F ρ μ).bind fun d μ1 => match d with
  | .str x => .ok (x.cps.toList.map sign) μ1
  | _ => .no
def upto (lo : Int) (n : Nat) : List D := (List.range n).map fun i => .int (lo + (i : Nat))
def fItR1 (Fs : FA) : FA := fun ρ μ => (Fs ρ μ).bind fun ds μ1 => match ds with
  | [.int j] => if -(2 ^ 62) ≤ j ∧ j < 2 ^ 62 then .ok (upto 0 j.toNat) μ1 else .no
  | _ => .no
def fItR2 (Fs : FA) : FA := fun ρ μ => (Fs ρ μ).bind fun ds μ1 => match ds with
  | [.int i, .int j] => if -(2 ^ 62) ≤ i ∧ i < 2 ^ 62 ∧ -(2 ^ 62) ≤ j ∧ j < 2 ^ 62 then .ok (upto i (j - i).toNat) μ1 else .no
  | _ => .no
def fItZ (Fs : FA) : FA := fun ρ μ => (Fs ρ μ).bind fun ds μ1 => match ds with
  | [.tup xs, .tup ys] => .ok ((xs.zip ys).map fun p => .tup [p.1, p.2]) μ1
  | [.lst xs, .lst ys] => .ok ((xs.zip ys).map fun p => .tup [p.1, p.2]) μ1
  | _ => .no
def numbered (xs : List D) : List D := xs.zipIdx.map fun p => .tup [.int (p.2 : Nat), p.1]
def fItE (Fs : FA) : FA := fun ρ μ => (Fs ρ μ).bind fun ds μ1 => match ds with
  | [.lst xs] => .ok (numbered xs) μ1
  | _ => .no
section
variable {K : PySem.W.Frag} {E : XK}
theorem walks_tup {w : Wd} {a : Addr} {vs : List V} {ds : List D} (t : TupAt K w a vs) (l : HvL K w vs ds) : Walks K (Itt K a) w ds where
  go := fun w' i d e h => by
    obtain ⟨v, h1, _⟩ := l.get h
    exact ⟨vs, v, (t.wk e.wk).sq, h1⟩
  yld := fun w' i d x H' μ e r h y => by
    obtain ⟨rfl, y⟩ := y
    obtain ⟨v, h1, h2⟩ := l.get h
    have z := y vs (t.wk e.wk).sq
    rw [h1] at z; cases z
    exact ⟨w', rfl, Ext.refl _, r, h2.ext e⟩
  stop := fun w' e => ⟨vs, (t.wk e.wk).sq, by rw [l.length]; exact Nat.le_refl _⟩
theorem walks_lst {w : Wd} {a : Addr} {vs : List V} {ds : List D} (t : LstAt K w a vs) (l : HvL K w vs ds) : Walks K (Itl K a) w ds where
  go := fun w' i d e h => by
    obtain ⟨v, h1, _⟩ := l.get h
    exact ⟨vs, v, (t.wk e.wk).sq, h1⟩
  yld := fun w' i d x H' μ e r h y => by
    obtain ⟨rfl, y⟩ := y
    obtain ⟨v, h1, h2⟩ := l.get h
    have z := y vs (t.wk e.wk).sq
    rw [h1] at z; cases z
    exact ⟨w', rfl, Ext.refl _, r, h2.ext e⟩
  stop := fun w' e => ⟨vs, (t.wk e.wk).sq, by rw [l.length]; exact Nat.le_refl _⟩
theorem walks_str {w : Wd} (x : Str) : Walks K (Its x) w (x.cps.toList.map sign) where
  go := fun w' i d e h => by
    rw [List.getElem?_map] at h
    cases q : x.cps.toList[i]? with
    | none => rw [q] at h; cases h
    | some c => exact (List.getElem?_eq_some_iff.mp q).1
  yld := fun w' i d v H' μ e r h y => by
    obtain ⟨rfl, c, y1, rfl⟩ := y
    have q : x.cps.toList[i]? = some c := by rw [Array.getElem?_toList]; exact y1
    rw [List.getElem?_map, q] at h
    cases h
    exact ⟨w', rfl, Ext.refl _, r, .str _⟩
  stop := fun w' e => by
    show x.cps.size ≤ _
    simp
theorem walks_range {w : Wd} (lo : Int) (n : Nat) : Walks K (Itr lo n) w (upto lo n) where
  go := fun w' i d e h => by
    have h1 := (List.getElem?_eq_some_iff.mp h).1
    show i < n
    simpa [upto] using h1
  yld := fun w' i d v H' μ e r h y => by
    obtain ⟨rfl, rfl⟩ := y
    have h1 := (List.getElem?_eq_some_iff.mp h).1
    have h2 : i < n := by simpa [upto] using h1
    unfold upto at h
    rw [List.getElem?_map, List.getElem?_range h2] at h
    cases h
    exact ⟨w', rfl, Ext.refl _, r, .int _⟩
  stop := fun w' e => by
    show n ≤ _
    simp [upto]
/-- a new pair at each turn -/
theorem pair_new {w : Wd} {μ : Mu} {x y : V} {d e : D} {T : Addr} (r : Rep K w μ) (h : w.H T = none) (hx : Hv K w x d) (hy : Hv K w y e) : ∃ w'', w''.H = upd w.H T (.tup [x, y]) ∧ Ext w w'' ∧ Rep K w'' μ ∧ Hv K w'' (.ref T) (.tup [d, e]) :=
  ⟨w.new T _, rfl, Ext.new h, r.new h, new_tup r h (.cons hx (.cons hy .nil))⟩
theorem zip_get {xs ys : List D} {i : Nat} {d : D} (h : ((xs.zip ys).map fun p => D.tup [p.1, p.2])[i]? = some d) : ∃ x y, xs[i]? = some x ∧ ys[i]? = some y ∧ d = .tup [x, y] := by
  rw [List.getElem?_map] at h
  cases q : (xs.zip ys)[i]? with
  | none => rw [q] at h; cases h
  | some p =>
    rw [q] at h
    cases h
    obtain ⟨h1, h2⟩ := List.getElem?_zip_eq_some.mp q
    exact ⟨p.1, p.2, h1, h2, rfl⟩
theorem walks_zipT {w : Wd} {a b : Addr} {vs us : List V} {ds es : List D} (t : TupAt K w a vs) (l : HvL K w vs ds) (t' : TupAt K w b us) (l' : HvL K w us es) : Walks K (ItzT K a b) w ((ds.zip es).map fun p => .tup [p.1, p.2]) where
  go := fun w' i d e h => by
    obtain ⟨x, y, h1, h2, _⟩ := zip_get h
    obtain ⟨v, g1, _⟩ := l.get h1
    obtain ⟨u, g2, _⟩ := l'.get h2
    exact ⟨vs, us, v, u, (t.wk e.wk).sq, (t'.wk e.wk).sq, g1, g2⟩
  yld := fun w' i d x H' μ e r h q => by
    obtain ⟨T, v1, v2, rfl, hT, rfl, y1, y2⟩ := q
    obtain ⟨x, y, h1, h2, rfl⟩ := zip_get h
    obtain ⟨v, g1, k1⟩ := l.get h1
    obtain ⟨u, g2, k2⟩ := l'.get h2
    have z1 := y1 vs (t.wk e.wk).sq
    have z2 := y2 us (t'.wk e.wk).sq
    rw [g1] at z1; cases z1
    rw [g2] at z2; cases z2
    exact pair_new r hT (k1.ext e) (k2.ext e)
  stop := fun w' e => ⟨vs, us, (t.wk e.wk).sq, (t'.wk e.wk).sq, by
    have h1 := l.length
    have h2 := l'.length
    rw [List.length_map, List.length_zip]
    omega⟩
theorem walks_zipL {w : Wd} {a b : Addr} {vs us : List V} {ds es : List D} (t : LstAt K w a vs) (l : HvL K w vs ds) (t' : LstAt K w b us) (l' : HvL K w us es) : Walks K (Itz K a b) w ((ds.zip es).map fun p => .tup [p.1, p.2]) where
  go := fun w' i d e h => by
    obtain ⟨x, y, h1, h2, _⟩ := zip_get h
    obtain ⟨v, g1, _⟩ := l.get h1
    obtain ⟨u, g2, _⟩ := l'.get h2
    exact ⟨vs, us, v, u, (t.wk e.wk).sq, (t'.wk e.wk).sq, g1, g2⟩
  yld := fun w' i d x H' μ e r h q => by
    obtain ⟨T, v1, v2, rfl, hT, rfl, y1, y2⟩ := q
    obtain ⟨x, y, h1, h2, rfl⟩ := zip_get h
    obtain ⟨v, g1, k1⟩ := l.get h1
    obtain ⟨u, g2, k2⟩ := l'.get h2
    have z1 := y1 vs (t.wk e.wk).sq
    have z2 := y2 us (t'.wk e.wk).sq
    rw [g1] at z1; cases z1
    rw [g2] at z2; cases z2
    exact pair_new r hT (k1.ext e) (k2.ext e)
  stop := fun w' e => ⟨vs, us, (t.wk e.wk).sq, (t'.wk e.wk).sq, by
    have h1 := l.length
    have h2 := l'.length
    rw [List.length_map, List.length_zip]
    omega⟩
theorem numbered_get {xs : List D} {i : Nat} {d : D} (h : (numbered xs)[i]? = some d) : ∃ x, xs[i]? = some x ∧ d = .tup [.int (i : Nat), x] := by
  unfold numbered at h
  rw [List.getElem?_map, List.getElem?_zipIdx] at h
  cases q : xs[i]? with
  | none => rw [q] at h; cases h
  | some x =>
    rw [q] at h
    cases h
    exact ⟨x, rfl, by simp⟩
theorem walks_enum {w : Wd} {a : Addr} {vs : List V} {ds : List D} (t : LstAt K w a vs) (l : HvL K w vs ds) : Walks K (Ite K a) w (numbered ds) where
  go := fun w' i d e h => by
    obtain ⟨x, h1, _⟩ := numbered_get h
    obtain ⟨v, g1, _⟩ := l.get h1
    exact ⟨vs, v, (t.wk e.wk).sq, g1⟩
  yld := fun w' i d x H' μ e r h q => by
    obtain ⟨T, v1, rfl, hT, rfl, y1⟩ := q
    obtain ⟨x, h1, rfl⟩ := numbered_get h
    obtain ⟨v, g1, k1⟩ := l.get h1
    have z1 := y1 vs (t.wk e.wk).sq
    rw [g1] at z1; cases z1
    exact pair_new r hT (.int _) (k1.ext e)
  stop := fun w' e => ⟨vs, (t.wk e.wk).sq, by
    have h1 := l.length
    simp [numbered]
    omega⟩
/-- the shape that all share -/
theorem adI_of {F : FE} {f : D → Mu → Rs (List D)} {wi : TI} {w : Wd} {σ : L2.St} {ρ : Rho} {μ : Mu} {R : It → Hp → Prop} (sr : SR K σ w ρ μ)
    (h : match (F ρ μ).bind f with
      | .ok ds μ1 => ∀ J w', Ext w w' → Rep K w' μ1 → Walks K J w' ds → R J w'.H
      | .ex C fs μ1 => ∀ dx w', Ext w w' → Rep K w' μ1 → XAt K w' dx fs → E (.ref C) dx w'.H
      | .no => False) (Q : VK)
    (k : ∀ d μ1 v w1, Ext w w1 → Rep K w1 μ1 → Hv K w1 v d → (match f d μ1 with
      | .ok ds μ2 => ∀ J w', Ext w1 w' → Rep K w' μ2 → Walks K J w' ds → R J w'.H
      | .ex C fs μ1 => ∀ dx w', Ext w1 w' → Rep K w' μ1 → XAt K w' dx fs → E (.ref C) dx w'.H
      | .no => False) → Q v w1.H) : tD K E F σ w.H Q := by
  refine ⟨w, ρ, μ, rfl, sr, ?_⟩
  cases q : F ρ μ with
  | no => rw [q] at h; exact h
  | ex C fs μ1 => rw [q] at h; exact h
  | ok d μ1 =>
    rw [q] at h
    have h : match f d μ1 with
      | .ok ds μ1 => ∀ J w', Ext w w' → Rep K w' μ1 → Walks K J w' ds → R J w'.H
      | .ex C fs μ1 => ∀ dx w', Ext w w' → Rep K w' μ1 → XAt K w' dx fs → E (.ref C) dx w'.H
      | .no => False := h
    intro v w1 e1 r1 h1
    refine k d μ1 v w1 e1 r1 h1 ?_
    cases q2 : f d μ1 with
    | no => rw [q2] at h; exact h
    | ex C fs μ2 => rw [q2] at h; exact fun dx w' e => h dx w' (e1.trans e)
    | ok ds μ2 => rw [q2] at h; exact fun J w' e => h J w' (e1.trans e)
theorem adI_ofA {F : FA} {f : List D → Mu → Rs (List D)} {w : Wd} {σ : L2.St} {ρ : Rho} {μ : Mu} {R : It → Hp → Prop} (sr : SR K σ w ρ μ)
    (h : match (F ρ μ).bind f with
      | .ok ds μ1 => ∀ J w', Ext w w' → Rep K w' μ1 → Walks K J w' ds → R J w'.H
      | .ex C fs μ1 => ∀ dx w', Ext w w' → Rep K w' μ1 → XAt K w' dx fs → E (.ref C) dx w'.H
      | .no => False) (Q : List V → Hp → Prop)
    (k : ∀ d μ1 v w1, Ext w w1 → Rep K w1 μ1 → HvL K w1 v d → (match f d μ1 with
      | .ok ds μ2 => ∀ J w', Ext w1 w' → Rep K w' μ2 → Walks K J w' ds → R J w'.H
      | .ex C fs μ1 => ∀ dx w', Ext w1 w' → Rep K w' μ1 → XAt K w' dx fs → E (.ref C) dx w'.H
      | .no => False) → Q v w1.H) : tDa K E F σ w.H Q := by
  refine ⟨w, ρ, μ, rfl, sr, ?_⟩
  cases q : F ρ μ with
  | no => rw [q] at h; exact h
  | ex C fs μ1 => rw [q] at h; exact h
  | ok d μ1 =>
    rw [q] at h
    have h : match f d μ1 with
      | .ok ds μ1 => ∀ J w', Ext w w' → Rep K w' μ1 → Walks K J w' ds → R J w'.H
      | .ex C fs μ1 => ∀ dx w', Ext w w' → Rep K w' μ1 → XAt K w' dx fs → E (.ref C) dx w'.H
      | .no => False := h
    intro v w1 e1 r1 h1
    refine k d μ1 v w1 e1 r1 h1 ?_
    cases q2 : f d μ1 with
    | no => rw [q2] at h; exact h
    | ex C fs μ2 => rw [q2] at h; exact fun dx w' e => h dx w' (e1.trans e)
    | ok ds μ2 => rw [q2] at h; exact fun J w' e => h J w' (e1.trans e)
theorem ai_tup {F : FE} : AdI K E (fItT F) (iTup K (tD K E F)) := fun σ w ρ μ R sr h => adI_of (wi := iTup K (tD K E F)) sr h _ fun d μ1 v w1 e1 r1 h1 q => by
  cases h1 with
  | tup t l => exact ⟨_, rfl, ⟨_, t.sq⟩, q _ w1 (Ext.refl _) r1 (walks_tup t l)⟩
  | _ => exact q.elim
theorem ai_lst {F : FE} : AdI K E (fItL F) (iList K (tD K E F)) := fun σ w ρ μ R sr h => adI_of (wi := iList K (tD K E F)) sr h _ fun d μ1 v w1 e1 r1 h1 q => by
  cases h1 with
  | lst n t l => exact ⟨_, rfl, ⟨_, .of t⟩, q _ w1 (Ext.refl _) r1 (walks_lst (.inl ⟨n, .inl t⟩) l)⟩
  | rol t l => exact ⟨_, rfl, ⟨_, t.sq⟩, q _ w1 (Ext.refl _) r1 (walks_lst t l)⟩
  | _ => exact q.elim
theorem ai_str {F : FE} : AdI K E (fItS F) (iStr (tD K E F)) := fun σ w ρ μ R sr h => adI_of (wi := iStr (tD K E F)) sr h _ fun d μ1 v w1 e1 r1 h1 q => by
  cases h1 with
  | str x => exact ⟨_, rfl, q _ w1 (Ext.refl _) r1 (walks_str x)⟩
  | _ => exact q.elim
theorem ai_range1 {Fs : FA} : AdI K E (fItR1 Fs) (iRng1 (tDa K E Fs)) := fun σ w ρ μ R sr h => adI_ofA sr h _ fun ds μ1 vs w1 e1 r1 h1 q => by
  match ds, h1, q with
  | [.int j], .cons (.int _) .nil, q =>
    by_cases hz : -(2 ^ 62) ≤ j ∧ j < 2 ^ 62
    · simp only [if_pos hz] at q
      exact ⟨j, rfl, hz.1, hz.2, q _ w1 (Ext.refl _) r1 (walks_range 0 j.toNat)⟩
    · simp only [if_neg hz] at q
theorem ai_range2 {Fs : FA} : AdI K E (fItR2 Fs) (iRng2 (tDa K E Fs)) := fun σ w ρ μ R sr h => adI_ofA sr h _ fun ds μ1 vs w1 e1 r1 h1 q => by
  match ds, h1, q with
  | [.int i, .int j], .cons (.int _) (.cons (.int _) .nil), q =>
    by_cases hz : -(2 ^ 62) ≤ i ∧ i < 2 ^ 62 ∧ -(2 ^ 62) ≤ j ∧ j < 2 ^ 62
    · simp only [if_pos hz] at q
      exact ⟨i, j, rfl, hz, q _ w1 (Ext.refl _) r1 (walks_range i (j - i).toNat)⟩
    · simp only [if_neg hz] at q
theorem ai_zip {Fs : FA} : AdI K E (fItZ Fs) (iZipA K (tDa K E Fs)) := fun σ w ρ μ R sr h => adI_ofA sr h _ fun ds μ1 vs w1 e1 r1 h1 q => by
  match ds, h1, q with
  | [.tup xs, .tup ys], .cons (.tup t l) (.cons (.tup t' l') .nil), q => exact ⟨_, _, _, _, rfl, .inr ⟨t.sq, t'.sq, q _ w1 (Ext.refl _) r1 (walks_zipT t l t' l')⟩⟩
  | [.lst xs, .lst ys], .cons (.lst n t l) (.cons (.lst n' t' l') .nil), q => exact ⟨_, _, _, _, rfl, .inl ⟨.of t, .of t', q _ w1 (Ext.refl _) r1 (walks_zipL (.inl ⟨n, .inl t⟩) l (.inl ⟨n', .inl t'⟩) l')⟩⟩
theorem ai_enum {Fs : FA} : AdI K E (fItE Fs) (iEnum K (tDa K E Fs)) := fun σ w ρ μ R sr h => adI_ofA sr h _ fun ds μ1 vs w1 e1 r1 h1 q => by
  match ds, h1, q with
  | [.lst xs], .cons (.lst n t l) .nil, q => exact ⟨_, _, rfl, .of t, q _ w1 (Ext.refl _) r1 (walks_enum (.inl ⟨n, .inl t⟩) l)⟩
end

/-! ### comprehensions -/
def fYes : FB := fun _ μ => .ok true μ
section
variable {X : Cx} {E : XK}
theorem dts_nil : PTs X [] (tDb X.K E fYes) := ⟨fun pins s σ H Q I ⟨w, ρ, μ, hw, sr, p⟩ => pts_nil.run pins s σ H Q I (hw ▸ post_here p sr.rep rfl)⟩
theorem dts_one {c : Expr} {B : FB} (h : PT X c (tDb X.K E B)) : PTs X [c] (tDb X.K E B) := pts_one h
theorem de_comp {elt tg iter : Expr} {ifs : List Expr} {scope : Scope} {own : List (Str × Nat)} {pos : Pos} {wi : TI} {g : TG} {Fi : FA} {T : FT} {t : FB} {F : FE} (hc : X.calm = true) (hN : X.N.Nodup) (hi : PI X tg iter wi) (ai : AdI X.K E Fi wi) (ok : BlkOk X.N X.env.scope scope own)
    (hg : ∀ (s : Shared) (H : Hp) (C : Addr) (cl : List (Str × Addr)) (fp : List Addr), PG (X.blk s H scope (compEnvC scope cl C X.env) fp) tg g) (ad : AdTw X.K T g (own.map (·.2)))
    (ht : ∀ (s : Shared) (H : Hp) (C : Addr) (cl : List (Str × Addr)) (fp : List Addr), PTs (X.blk s H scope (compEnvC scope cl C X.env) fp) ifs (tDb X.K (fun _ _ _ => False) t))
    (he : ∀ (s : Shared) (H : Hp) (C : Addr) (cl : List (Str × Addr)) (fp : List Addr), PE (X.blk s H scope (compEnvC scope cl C X.env) fp) elt (tD X.K (fun _ _ _ => False) F)) (hs : ∀ x, foldedSetIterable iter X.env x = pure x := by intro _; rfl) :
    PE X (.ListComp elt [⟨tg, iter, ifs, 0⟩] scope pos) (tD X.K E (fComp (own.map (·.2)) Fi T t F)) :=
  (pe_lc hc hN hi ok hg ht he hs).imp fun _ _ _ => tD_comp ai ad
theorem d_setComp {i : Nat} {y : Str} {py : Pos} {elt tg iter : Expr} {ifs : List Expr} {scope : Scope} {own : List (Str × Nat)} {pos spos : Pos} {wi : TI} {g : TG} {Fi : FA} {T : FT} {t : FB} {F : FE} (hc : X.calm = true) (hN : X.N.Nodup) (hy : X.N[i]? = some y) (hyl : X.env.scope.names.lookup y = some .local)
    (hsw : swapsWith (.ListComp elt [⟨tg, iter, ifs, 0⟩] scope pos) (some (.Name y py)) spos.line X.env = pure true) (hi : PI X tg iter wi) (ai : AdI X.K E Fi wi) (ok : BlkOk X.N X.env.scope scope own)
    (hg : ∀ (s : Shared) (H : Hp) (C : Addr) (cl : List (Str × Addr)) (fp : List Addr), PG (X.blk s H scope (compEnvC scope cl C X.env) fp) tg g) (ad : AdTw X.K T g (own.map (·.2)))
    (ht : ∀ (s : Shared) (H : Hp) (C : Addr) (cl : List (Str × Addr)) (fp : List Addr), PTs (X.blk s H scope (compEnvC scope cl C X.env) fp) ifs (tDb X.K (fun _ _ _ => False) t))
    (he : ∀ (s : Shared) (H : Hp) (C : Addr) (cl : List (Str × Addr)) (fp : List Addr), PE (X.blk s H scope (compEnvC scope cl C X.env) fp) elt (tD X.K (fun _ _ _ => False) F)) (hs : ∀ x, foldedSetIterable iter X.env x = pure x := by intro _; rfl) :
    PS X (.Assign [.Name y py] (.ListComp elt [⟨tg, iter, ifs, 0⟩] scope pos) spos) (tS X.K E (gSet (fComp (own.map (·.2)) Fi T t F) (tgN i))) :=
  (ps_setLc hc hN hy hyl hsw hi ok hg ht he hs).imp fun _ _ _ h => by
    obtain ⟨w, ρ, μ, hw, sr, p⟩ := h
    refine tD_comp ai ad ⟨w, ρ, μ, hw, sr, PostS.thn p fun d μ1 v w1 e1 r1 h1 p1 => ?_⟩
    exact adT_name i w1 μ1 _ ρ _ v d _ (sr.ext e1 r1) h1 rfl fun σ' sr' => p1 σ' w1 (Ext.refl w1) sr'
theorem de_compM {elt tg iter : Expr} {ifs : List Expr} {scope : Scope} {own : List (Str × Nat)} {pos : Pos} {wi : TI} {g : TG} {Fi : FA} {T : FT} {t : FB} {F : FE} (hc : X.calm = true) (hN : X.N.Nodup) (hi : PI X tg iter wi) (ai : AdI X.K E Fi wi) (ok : BlkOk X.N X.env.scope scope own)
    (hg : ∀ (s : Shared) (H : Hp) (C : Addr) (cl : List (Str × Addr)) (fp : List Addr), PG (X.blk s H scope (compEnvC scope cl C X.env) fp) tg g) (ad : AdTw X.K T g (own.map (·.2)))
    (ht : ∀ (s : Shared) (H : Hp) (C : Addr) (cl : List (Str × Addr)) (fp : List Addr), PTs (X.blk s H scope (compEnvC scope cl C X.env) fp) ifs (tDb X.K (fun _ _ _ => False) t))
    (he : ∀ (s : Shared) (H : Hp) (C : Addr) (cl : List (Str × Addr)) (fp : List Addr), PE (X.blk s H scope (compEnvC scope cl C X.env) fp) elt (tD X.K (fun _ _ _ => False) F)) (hs : ∀ x, foldedSetIterable iter X.env x = pure x := by intro _; rfl) :
    PE X (.ListComp elt [⟨tg, iter, ifs, 0⟩] scope pos) (tD X.K E (fCompM (own.map (·.2)) Fi T t F)) :=
  (pe_lc hc hN hi ok hg ht he hs).imp fun _ _ _ => tD_compM ai ad
theorem d_setCompM {i : Nat} {y : Str} {py : Pos} {elt tg iter : Expr} {ifs : List Expr} {scope : Scope} {own : List (Str × Nat)} {pos spos : Pos} {wi : TI} {g : TG} {Fi : FA} {T : FT} {t : FB} {F : FE} (hc : X.calm = true) (hN : X.N.Nodup) (hy : X.N[i]? = some y) (hyl : X.env.scope.names.lookup y = some .local)
    (hsw : swapsWith (.ListComp elt [⟨tg, iter, ifs, 0⟩] scope pos) (some (.Name y py)) spos.line X.env = pure true) (hi : PI X tg iter wi) (ai : AdI X.K E Fi wi) (ok : BlkOk X.N X.env.scope scope own)
    (hg : ∀ (s : Shared) (H : Hp) (C : Addr) (cl : List (Str × Addr)) (fp : List Addr), PG (X.blk s H scope (compEnvC scope cl C X.env) fp) tg g) (ad : AdTw X.K T g (own.map (·.2)))
    (ht : ∀ (s : Shared) (H : Hp) (C : Addr) (cl : List (Str × Addr)) (fp : List Addr), PTs (X.blk s H scope (compEnvC scope cl C X.env) fp) ifs (tDb X.K (fun _ _ _ => False) t))
    (he : ∀ (s : Shared) (H : Hp) (C : Addr) (cl : List (Str × Addr)) (fp : List Addr), PE (X.blk s H scope (compEnvC scope cl C X.env) fp) elt (tD X.K (fun _ _ _ => False) F)) (hs : ∀ x, foldedSetIterable iter X.env x = pure x := by intro _; rfl) :
    PS X (.Assign [.Name y py] (.ListComp elt [⟨tg, iter, ifs, 0⟩] scope pos) spos) (tS X.K E (gSet (fCompM (own.map (·.2)) Fi T t F) (tgN i))) :=
  (ps_setLc hc hN hy hyl hsw hi ok hg ht he hs).imp fun _ _ _ h => by
    obtain ⟨w, ρ, μ, hw, sr, p⟩ := h
    refine tD_compM ai ad ⟨w, ρ, μ, hw, sr, PostS.thn p fun d μ1 v w1 e1 r1 h1 p1 => ?_⟩
    exact adT_name i w1 μ1 _ ρ _ v d _ (sr.ext e1 r1) h1 rfl fun σ' sr' => p1 σ' w1 (Ext.refl w1) sr'
end

/-! ### a def -/
mutual
def D.inn (n : Nat) : D → Bool
  | .tup ds => innL n ds
  | .lst ds => innL n ds
  | .rol ds => innL n ds
  | .dct kvs => innD n kvs
  | .ref k => decide (k < n)
  | .non => true
  | .bl _ => true
  | .int _ => true
  | .str _ => true
  | .ty _ => true
  | .cls _ => true
def innL (n : Nat) : List D → Bool
  | [] => true
  | d :: ds => d.inn n && innL n ds
def innD (n : Nat) : List (Key × D) → Bool
  | [] => true
  | (_, d) :: ds => d.inn n && innD n ds
end
def Ob.inn (n : Nat) : Ob → Bool
  | .lst ds => innL n ds
  | .dct kvs => innD n kvs
/-- how a def's end lies for its caller: nothing of its own is left, or its own objects are forgotten (one of them may be handed back, frozen) -/
inductive Leave (μ : Mu) (d0 : D) (μ0 : Mu) : D → Mu → Prop
  | all : Leave μ d0 μ0 d0 μ0
  | cut (h : ∀ k o, k < μ.length → μ0[k]? = some o → μ[k]? = some o ∨ o.inn μ.length = true) (hd : d0.inn μ.length = true) : Leave μ d0 μ0 d0 (μ0.take μ.length)
  | frz {k : Nat} {ds : List D} (h : ∀ k o, k < μ.length → μ0[k]? = some o → μ[k]? = some o ∨ o.inn μ.length = true) (e : d0 = .ref k) (hk : μ.length ≤ k) (ho : μ0[k]? = some (.lst ds)) (hd : innL μ.length ds = true) : Leave μ d0 μ0 (.lst ds) (μ0.take μ.length)
  | frzD {k : Nat} {kvs : List (Key × D)} (h : ∀ k o, k < μ.length → μ0[k]? = some o → μ[k]? = some o ∨ o.inn μ.length = true) (e : d0 = .ref k) (hk : μ.length ≤ k) (ho : μ0[k]? = some (.dct kvs)) (hd : innD μ.length kvs = true) : Leave μ d0 μ0 (.dct kvs) (μ0.take μ.length)
/-- the body's result and the def's -/
def Exit (μ : Mu) (r : Rs Ot) (r' : Rs D) : Prop := match r' with
  | .no => True
  | .ok d μ1 => (∃ d0 μ0, r = .ok (.rt d0) μ0 ∧ Leave μ d0 μ0 d μ1) ∨ ∃ ρ μ0, r = .ok (.nx ρ) μ0 ∧ Leave μ .non μ0 d μ1
  | .ex C fs μ1 => r = .ex C fs μ1
section
variable {K : PySem.W.Frag} {w w' : Wd}
mutual
theorem Hv.inn : ∀ {v : V} {d : D}, Hv K w v d → d.inn w.loc.length = true
  | _, _, .non => rfl
  | _, _, .bl _ => rfl
  | _, _, .int _ => rfl
  | _, _, .str _ => rfl
  | _, _, .tup _ l => HvL.inn l
  | _, _, .lst _ _ l => HvL.inn l
  | _, _, .rol _ l => HvL.inn l
  | _, _, .dct _ _ l => HvD.inn l
  | _, _, .ref h => decide_eq_true (List.getElem?_eq_some_iff.mp h).1
  | _, _, .ty _ => rfl
  | _, _, .cls _ => rfl
theorem HvL.inn : ∀ {vs : List V} {ds : List D}, HvL K w vs ds → innL w.loc.length ds = true
  | _, _, .nil => rfl
  | _, _, .cons h l => Bool.and_eq_true_iff.mpr ⟨Hv.inn h, HvL.inn l⟩
theorem HvD.inn : ∀ {us : List (Key × V)} {kvs : List (Key × D)}, HvD K w us kvs → innD w.loc.length kvs = true
  | _, _, .nil => rfl
  | _, _, .cons h l => Bool.and_eq_true_iff.mpr ⟨Hv.inn h, HvD.inn l⟩
end
theorem ObAt.inn {a : Addr} {o : Ob} (h : ObAt K w a o) : o.inn w.loc.length = true := by
  cases o with
  | lst ds => obtain ⟨_, _, l⟩ := h; exact l.inn
  | dct kvs => obtain ⟨_, _, l⟩ := h; exact l.inn
/-- the world behind the def: the caller's objects alone are mutable -/
def Wd.back (w w' : Wd) (h : ∀ b ∈ w.loc, b ∈ w'.ban ∧ b ∉ w'.loc.drop w.loc.length) : Wd := ⟨w.loc, w'.ban.filter fun b => decide (b ∉ w'.loc.drop w.loc.length), w'.H, fun b hb =>
  List.mem_filter.mpr ⟨(h b hb).1, decide_eq_true (h b hb).2⟩⟩
structure Back (w w' : Wd) (n : Nat) : Prop where
  loc : ∃ more, w'.loc = w.loc ++ more
  kept : ∀ b o, w'.H b = some o → w.H b = some o
  n : w.loc.length = n
theorem take_loc {l m : List Addr} : (l ++ m).drop l.length = m := by simp
mutual
/-- data of the callee's world, in the world behind -/
theorem Hv.back {hb : ∀ b ∈ w.loc, b ∈ w'.ban ∧ b ∉ w'.loc.drop w.loc.length} (e : ∃ m, w'.loc = w.loc ++ m) : ∀ {v : V} {d : D}, Hv K w' v d → d.inn w.loc.length = true → Hv K (w.back w' hb) v d
  | _, _, .non, _ => .non
  | _, _, .bl b, _ => .bl b
  | _, _, .int i, _ => .int i
  | _, _, .str x, _ => .str x
  | _, _, .ty n, _ => .ty n
  | _, _, .cls C, _ => .cls C
  | _, _, .tup h l, q => .tup (h.elim (fun z => .inl ⟨fun m => z.1 (List.mem_filter.mp m).1, z.2⟩) .inr) (HvL.back e l q)
  | _, _, .lst n h l, q => .lst (fun m => n (List.mem_filter.mp m).1) h (HvL.back e l q)
  | _, _, .rol h l, q => .rol (h.elim (fun z => .inl ⟨fun m => z.1 (List.mem_filter.mp m).1, z.2⟩) .inr) (HvL.back e l q)
  | _, _, .dct n h l, q => .dct (fun m => n (List.mem_filter.mp m).1) h (HvD.back e l q)
  | _, _, .ref (k := k) h, q => .ref (by
    obtain ⟨m, z⟩ := e
    have hk : k < w.loc.length := of_decide_eq_true q
    rw [z, List.getElem?_append_left hk] at h
    exact h)
theorem HvL.back {hb : ∀ b ∈ w.loc, b ∈ w'.ban ∧ b ∉ w'.loc.drop w.loc.length} (e : ∃ m, w'.loc = w.loc ++ m) : ∀ {vs : List V} {ds : List D}, HvL K w' vs ds → innL w.loc.length ds = true → HvL K (w.back w' hb) vs ds
  | _, _, .nil, _ => .nil
  | _, _, .cons h l, q => .cons (Hv.back e h (Bool.and_eq_true_iff.mp q).1) (HvL.back e l (Bool.and_eq_true_iff.mp q).2)
theorem HvD.back {hb : ∀ b ∈ w.loc, b ∈ w'.ban ∧ b ∉ w'.loc.drop w.loc.length} (e : ∃ m, w'.loc = w.loc ++ m) : ∀ {us : List (Key × V)} {kvs : List (Key × D)}, HvD K w' us kvs → innD w.loc.length kvs = true → HvD K (w.back w' hb) us kvs
  | _, _, .nil, _ => .nil
  | _, _, .cons h l, q => .cons (Hv.back e h (Bool.and_eq_true_iff.mp q).1) (HvD.back e l (Bool.and_eq_true_iff.mp q).2)
end
end
section
variable {K : PySem.W.Frag} {w w' : Wd} {μ μ0 : Mu}
theorem back_ok (r : Rep K w μ) (r' : Rep K w' μ0) (e : Ext w w') : ∀ b ∈ w.loc, b ∈ w'.ban ∧ b ∉ w'.loc.drop w.loc.length := fun b hb => by
  obtain ⟨m, z⟩ := e.loc
  refine ⟨e.ban b (w.sub b hb), fun q => ?_⟩
  rw [z, take_loc] at q
  have nd := r'.nd
  rw [z] at nd
  exact (List.nodup_append.mp nd).2.2 b hb b q rfl
theorem back_rep (r : Rep K w μ) (r' : Rep K w' μ0) (e : Ext w w') (h : ∀ k o, k < μ.length → μ0[k]? = some o → μ[k]? = some o ∨ o.inn μ.length = true) :
    Ext w (w.back w' (back_ok r r' e)) ∧ Rep K (w.back w' (back_ok r r' e)) (μ0.take μ.length) := by
  obtain ⟨m, z⟩ := e.loc
  have hl : μ0.length = w.loc.length + m.length := by rw [← r'.len, z, List.length_append]
  have hm : μ.length = w.loc.length := r.len.symm
  refine ⟨⟨⟨[], (List.append_nil _).symm⟩, e.kept, fun _ _ _ n => n, fun b o q n s => e.fre b o q n (List.mem_filter.mp s).1, fun b hb => ?_⟩, ?_, r.nd, fun b hb => r'.has b (List.mem_filter.mp hb).1, fun k a o h1 h2 => ?_⟩
  · refine List.mem_filter.mpr ⟨e.ban b hb, decide_eq_true fun q => ?_⟩
    by_cases hloc : b ∈ w.loc
    · exact (back_ok r r' e b hloc).2 q
    · obtain ⟨o, ho⟩ := r.has b hb
      refine e.out b o ho hloc ?_
      rw [z] at q ⊢
      rw [take_loc] at q
      exact List.mem_append_right _ q
  · show w.loc.length = (μ0.take μ.length).length
    rw [List.length_take]
    omega
  · have h1 : w.loc[k]? = some a := h1
    have hk : k < w.loc.length := (List.getElem?_eq_some_iff.mp h1).1
    rw [List.getElem?_take_of_lt (by omega)] at h2
    have x := r'.ob k a o (by rw [z, List.getElem?_append_left hk]; exact h1) h2
    have hi : o.inn w.loc.length = true := by
      rcases h k o (by omega) h2 with q | q
      · exact (r.ob k a o h1 q).inn
      · rw [← hm]; exact q
    cases o with
    | lst ds => obtain ⟨vs, g1, g2⟩ := x; exact ⟨vs, g1, g2.back e.loc hi⟩
    | dct kvs => obtain ⟨vs, g1, g2⟩ := x; exact ⟨vs, g1, g2.back e.loc hi⟩
theorem Leave.use {d0 d : D} {μ1 : Mu} (r : Rep K w μ) (l : Leave μ d0 μ0 d μ1) {v : V} (e : Ext w w') (r' : Rep K w' μ0) (h : Hv K w' v d0) {Q : VK} (q : ∀ v w2, Ext w w2 → Rep K w2 μ1 → Hv K w2 v d → Q v w2.H) : Q v w'.H := by
  have hm : μ.length = w.loc.length := r.len.symm
  cases l with
  | all => exact q v w' e r' h
  | cut h1 hd =>
    obtain ⟨b1, b2⟩ := back_rep r r' e h1
    exact q v (w.back w' (back_ok r r' e)) b1 b2 (h.back e.loc (by rw [← hm]; exact hd))
  | @frz k ds h1 e1 hk ho hd =>
    obtain ⟨b1, b2⟩ := back_rep r r' e h1
    subst e1
    cases h with
    | @ref a _ hr =>
      obtain ⟨vs, g1, g2⟩ := r'.ob k a _ hr ho
      refine q (.ref a) (w.back w' (back_ok r r' e)) b1 b2 (.lst (fun s => ?_) g1 (g2.back e.loc (by rw [← hm]; exact hd)))
      refine of_decide_eq_true (List.mem_filter.mp s).2 ?_
      refine List.mem_of_getElem? (i := k - w.loc.length) ?_
      rw [List.getElem?_drop, show w.loc.length + (k - w.loc.length) = k by omega]
      exact hr
  | @frzD k kvs h1 e1 hk ho hd =>
    obtain ⟨b1, b2⟩ := back_rep r r' e h1
    subst e1
    cases h with
    | @ref a _ hr =>
      obtain ⟨us, g1, g2⟩ := r'.ob k a _ hr ho
      refine q (.ref a) (w.back w' (back_ok r r' e)) b1 b2 (.dct (fun s => ?_) (.inl g1) (g2.back e.loc (by rw [← hm]; exact hd)))
      refine of_decide_eq_true (List.mem_filter.mp s).2 ?_
      refine List.mem_of_getElem? (i := k - w.loc.length) ?_
      rw [List.getElem?_drop, show w.loc.length + (k - w.loc.length) = k by omega]
      exact hr
end
/-- the slots at a def's entry -/
def enter (n : Nat) (ds : List D) : Rho := ds.map some ++ List.replicate (n - ds.length) none
theorem sr_start {K : PySem.W.Frag} {w : Wd} {μ : Mu} {N : List Str} {vs : List V} {ds : List D} (r : Rep K w μ) (l : HvL K w vs ds) : SR K (L2.start N vs) w (enter N.length ds) μ := by
  have hl := l.length
  refine ⟨r, by unfold L2.start enter; simp [hl], fun i d h => ?_⟩
  unfold enter at h
  by_cases hi : i < ds.length
  · rw [List.getElem?_append_left (by simpa using hi), List.getElem?_map] at h
    cases q : ds[i]? with
    | none => rw [q] at h; cases h
    | some d' =>
      rw [q] at h
      cases h
      obtain ⟨v, h1, h2⟩ := l.get q
      refine ⟨v, ?_, h2⟩
      unfold L2.start
      rw [List.getElem?_append_left (by simpa [hl] using hi), List.getElem?_map, h1]
      rfl
  · rw [List.getElem?_append_right (by simpa using hi), List.getElem?_replicate] at h
    split at h <;> cases h
/-- THE RULE for a def that no exception leaves: its body is read as G, and G's results are the promise's -/
theorem def_ok {P : Program} {w : World} {K : PySem.W.Frag} {mg : Str → Option Value} {base : Heap} {x qual : Str} {st : Stmt} {f : Addr} {fd : FuncData} {N ps : List Str} {k n : Nat} {g : GL} {G : FS} (F : Fun K x qual st f fd) (S : FnScope N ps (defScope st)) (hn : ps.length = n)
    (hbody : ∀ (cdv : Value) (A : Around) (outer : List Env) (s : Shared) (H : Hp) (E : XK), Room k (A.deeper (envOfC qual (defScope st) s.heap.objs.size f cdv)) → PSs (cxOf CX0 P w K mg base N qual (defScope st) f cdv A outer s H E).nox (defBody st) (tS K E0 G))
    (hg : ∀ ds μ, ds.length = n → Exit μ (G (enter N.length ds) μ) (g ds μ)) (hx : ∀ ds μ C fs μ1, g ds μ ≠ .ex C fs μ1) : FnOk P w K mg base CX0 (k + 1) f fd ps (spF K n g) := by
  refine F.ok S (fun vs H Q E h => h.1.trans hn.symm) fun cdv A outer s H vs Q E hr h => ?_
  obtain ⟨hl, w1, ds, μ, rfl, r, l, p⟩ := h
  refine ⟨_, hbody cdv A outer s w1.H E hr, w1, enter N.length ds, μ, rfl, sr_start r l, ?_⟩
  have hlen : ds.length = n := by rw [← l.length]; exact hl
  have ex := hg ds μ hlen
  cases q : g ds μ with
  | no => rw [q] at p; exact p.elim
  | ex C fs μ1 => exact absurd q (hx _ _ _ _ _)
  | ok d μ1 =>
    rw [q] at p ex
    rcases ex with ⟨d0, μ0, e0, lv⟩ | ⟨ρ, μ0, e0, lv⟩
    · rw [e0]
      exact fun v w2 e2 r2 h2 => Leave.use r lv e2 r2 h2 p
    · rw [e0]
      exact fun σ w2 e2 s2 => Leave.use (v := .non) r lv e2 s2.rep .non p
end FL
/-! FL: the operators and built-ins, by data. -/
namespace FL
open PySem PySem.Spec PyProof.Rows L2
set_option autoImplicit false

/-! ### + - * // % ** -/
def gAdd : G2 := fun a b μ => match a, b with
  | .int i, .int j => .ok (.int (i + j)) μ
  | .str x, .str y => if x.length + y.length ≤ sizeLine then .ok (.str (x ++ y)) μ else .no
  | .tup xs, .tup ys => if xs.length + ys.length ≤ sizeLine then .ok (.tup (xs ++ ys)) μ else .no
  | .lst xs, .lst ys => if xs.length + ys.length ≤ sizeLine then .ok (.lst (xs ++ ys)) μ else .no
  | _, _ => .no
def gSub : G2 := fun a b μ => match a, b with
  | .int i, .int j => .ok (.int (i - j)) μ
  | _, _ => .no
def gMul : G2 := fun a b μ => match a, b with
  | .int i, .int j => if i.natAbs.log2 + j.natAbs.log2 < 1000000 then .ok (.int (i * j)) μ else .no
  | _, _ => .no
def gFdiv : G2 := fun a b μ => match a, b with
  | .int i, .int j => if 0 < j ∧ j.natAbs.log2 < 9000 then .ok (.int (i / j)) μ else .no
  | _, _ => .no
def gMod : G2 := fun a b μ => match a, b with
  | .int i, .int j => if 0 < j then .ok (.int (i % j)) μ else .no
  | _, _ => .no
def gPow : G2 := fun a b μ => match a, b with
  | .int i, .int j => if 0 ≤ j ∧ (Builtin.Int.intBits i : Int) * j ≤ 2 ^ 27 then .ok (.int (i ^ j.toNat)) μ else .no
  | _, _ => .no
def gRep : G2 := fun a b μ => match a, b with
  | .tup xs, .int k => if xs ≠ [] ∧ 2 ≤ k ∧ k ≤ 1000 ∧ xs.length ≤ 1000 then .ok (.tup (List.replicate k.toNat xs).flatten) μ else .no
  | .lst xs, .int k => if 2 ≤ k ∧ k ≤ 1000 ∧ xs.length ≤ 1000 then .ok (.lst (List.replicate k.toNat xs).flatten) μ else .no
  | _, _ => .no
def gNeg : G1 := fun a μ => match a with
  | .int i => .ok (.int (-i)) μ
  | _ => .no
theorem HvL.rep {K : PySem.W.Frag} {w : Wd} {vs : List V} {ds : List D} (l : HvL K w vs ds) : ∀ n : Nat, HvL K w (List.replicate n vs).flatten (List.replicate n ds).flatten
  | 0 => .nil
  | n + 1 => by
    rw [List.replicate_succ, List.replicate_succ, List.flatten_cons, List.flatten_cons]
    exact l.append (HvL.rep l n)
section
variable {K : PySem.W.Frag} {E : XK} {X : Cx}
abbrev rAdd3 (K : PySem.W.Frag) : R2 := fun x y H Q => rI0 (fun i j => .int (i + j)) x y H Q ∨ (∃ i j, x = .str i ∧ y = .str j ∧ i.length + j.length ≤ sizeLine ∧ Q (.str (i ++ j)) H) ∨ rCatA K x y H Q ∨ rCat x y H Q
theorem o_add : OpR X (binaryOp .Add) (rAdd3 X.K) := op_add.or (op_add_str.or (op_catA.or op_cat))
theorem ad_add : Ad2 K E gAdd (rAdd3 K) := fun w μ x y a b Q r h1 h2 p => by
  cases h1 with
  | int i =>
    cases h2 with
    | int j => exact .inl ⟨i, j, rfl, rfl, post_here p r (.int _)⟩
    | _ => exact p.elim
  | str i =>
    cases h2 with
    | str j =>
      by_cases hz : i.length + j.length ≤ sizeLine
      · simp only [gAdd, if_pos hz] at p
        exact .inr (.inl ⟨i, j, rfl, rfl, hz, post_here p r (.str _)⟩)
      · simp only [gAdd, if_neg hz] at p
        exact p.elim
    | _ => exact p.elim
  | @tup q vs xs t l =>
    cases h2 with
    | @tup q' us ys t' l' =>
      by_cases hz : xs.length + ys.length ≤ sizeLine
      · simp only [gAdd, if_pos hz] at p
        refine .inr (.inr (.inl ⟨q, q', vs, us, rfl, rfl, t.sq, t'.sq, by rw [l.length, l'.length]; exact hz, fun e => ?_, fun _ e => ?_, fun _ _ => post_tup p r (l.append l')⟩))
        · subst e
          cases l
          exact post_here p r (.tup t' l')
        · subst e
          cases l'
          rw [List.append_nil] at p
          exact post_here p r (.tup t l)
      · simp only [gAdd, if_neg hz] at p
        exact p.elim
    | _ => exact p.elim
  | @lst q vs xs n t l =>
    cases h2 with
    | @lst q' us ys n' t' l' =>
      by_cases hz : xs.length + ys.length ≤ sizeLine
      · simp only [gAdd, if_pos hz] at p
        exact .inr (.inr (.inr ⟨q, q', vs, us, rfl, rfl, t, t', by rw [l.length, l'.length]; exact hz, post_lst p r (l.append l')⟩))
      · simp only [gAdd, if_neg hz] at p
        exact p.elim
    | _ => exact p.elim
  | _ => exact p.elim
theorem ad_sub : Ad2 K E gSub (rI0 fun i j => .int (i - j)) := fun w μ x y a b Q r h1 h2 p => by
  cases h1 with
  | int i =>
    cases h2 with
    | int j => exact ⟨i, j, rfl, rfl, post_here p r (.int _)⟩
    | _ => exact p.elim
  | _ => exact p.elim
theorem ad_mul : Ad2 K E gMul (rI CMulW fun i j => .int (i * j)) := fun w μ x y a b Q r h1 h2 p => by
  cases h1 with
  | int i =>
    cases h2 with
    | int j =>
      by_cases hz : i.natAbs.log2 + j.natAbs.log2 < 1000000
      · simp only [gMul, if_pos hz] at p
        exact ⟨i, j, rfl, rfl, hz, post_here p r (.int _)⟩
      · simp only [gMul, if_neg hz] at p
        exact p.elim
    | _ => exact p.elim
  | _ => exact p.elim
theorem ad_fdiv : Ad2 K E gFdiv (rI CDivW fun i j => .int (i / j)) := fun w μ x y a b Q r h1 h2 p => by
  cases h1 with
  | int i =>
    cases h2 with
    | int j =>
      by_cases hz : 0 < j ∧ j.natAbs.log2 < 9000
      · simp only [gFdiv, if_pos hz] at p
        exact ⟨i, j, rfl, rfl, hz, post_here p r (.int _)⟩
      · simp only [gFdiv, if_neg hz] at p
        exact p.elim
    | _ => exact p.elim
  | _ => exact p.elim
theorem ad_mod : Ad2 K E gMod (rI (fun _ j => 0 < j) fun i j => .int (i % j)) := fun w μ x y a b Q r h1 h2 p => by
  cases h1 with
  | int i =>
    cases h2 with
    | int j =>
      by_cases hz : 0 < j
      · simp only [gMod, if_pos hz] at p
        exact ⟨i, j, rfl, rfl, hz, post_here p r (.int _)⟩
      · simp only [gMod, if_neg hz] at p
        exact p.elim
    | _ => exact p.elim
  | _ => exact p.elim
theorem o_pow : OpR X (binaryOp .Pow) (rI (fun i j => 0 ≤ j ∧ (Builtin.Int.intBits i : Int) * j ≤ 2 ^ 27) fun i j => .int (i ^ j.toNat)) := opI fun _ _ _ _ _ _ _ hc q => pow_int hc.1 hc.2 q
theorem ad_pow : Ad2 K E gPow (rI (fun i j => 0 ≤ j ∧ (Builtin.Int.intBits i : Int) * j ≤ 2 ^ 27) fun i j => .int (i ^ j.toNat)) := fun w μ x y a b Q r h1 h2 p => by
  cases h1 with
  | int i =>
    cases h2 with
    | int j =>
      by_cases hz : 0 ≤ j ∧ (Builtin.Int.intBits i : Int) * j ≤ 2 ^ 27
      · simp only [gPow, if_pos hz] at p
        exact ⟨i, j, rfl, rfl, hz, post_here p r (.int _)⟩
      · simp only [gPow, if_neg hz] at p
        exact p.elim
    | _ => exact p.elim
  | _ => exact p.elim
abbrev rRep2 (K : PySem.W.Frag) : R2 := fun x y H Q => rRepT K x y H Q ∨ rRep x y H Q
theorem o_rep : OpR X (binaryOp .Mult) (rRep2 X.K) := op_repT.or op_rep
theorem ad_rep : Ad2 K E gRep (rRep2 K) := fun w μ x y a b Q r h1 h2 p => by
  cases h1 with
  | @tup q vs xs t l =>
    cases h2 with
    | int k =>
      by_cases hz : xs ≠ [] ∧ 2 ≤ k ∧ k ≤ 1000 ∧ xs.length ≤ 1000
      · simp only [gRep, if_pos hz] at p
        refine .inl ⟨q, k, vs, rfl, rfl, t.sq, fun e => ?_, hz.2.1, hz.2.2.1, by rw [l.length]; exact hz.2.2.2, post_tup p r (l.rep _)⟩
        subst e
        cases l
        exact hz.1 rfl
      · simp only [gRep, if_neg hz] at p
        exact p.elim
    | _ => exact p.elim
  | @lst q vs xs n t l =>
    cases h2 with
    | int k =>
      by_cases hz : 2 ≤ k ∧ k ≤ 1000 ∧ xs.length ≤ 1000
      · simp only [gRep, if_pos hz] at p
        refine .inr ⟨q, k, vs, rfl, rfl, t, by omega, by omega, ?_, post_lst p r (l.rep _)⟩
        have h3 : vs.length * k.toNat ≤ 1000 * 1000 := Nat.mul_le_mul (by rw [l.length]; exact hz.2.2) (by omega)
        exact Nat.le_trans h3 (by decide)
      · simp only [gRep, if_neg hz] at p
        exact p.elim
    | _ => exact p.elim
  | _ => exact p.elim
theorem ad_neg : Ad1 K E gNeg (rU fun i => .int (-i)) := fun w μ x a Q r h1 p => by
  cases h1 with
  | int i => exact ⟨i, rfl, post_here p r (.int _)⟩
  | _ => exact p.elim
end

/-! ### comparisons -/
def gCmp (f : Int → Int → Bool) : G2 := fun a b μ => match a, b with
  | .int i, .int j => .ok (.bl (f i j)) μ
  | _, _ => .no
abbrev gLt : G2 := gCmp fun i j => decide (i < j)
abbrev gLe : G2 := gCmp fun i j => decide (i ≤ j)
abbrev gGt : G2 := gCmp fun i j => decide (j < i)
abbrev gGe : G2 := gCmp fun i j => decide (j ≤ i)
def gIsN : G2 := fun a b μ => match a, b with
  | .non, .non => .ok (.bl true) μ
  | _, .non => .ok (.bl false) μ
  | _, _ => .no
def gNotN : G2 := fun a b μ => match a, b with
  | .non, .non => .ok (.bl false) μ
  | _, .non => .ok (.bl true) μ
  | _, _ => .no
mutual
/-- data without dicts as the library's -/
def D.py : D → Option PyData
  | .non => some .none
  | .bl b => some (.bool b)
  | .int i => some (.int i)
  | .str x => some (.str x)
  | .tup ds => (pyL ds).map .tuple
  | .lst ds => (pyL ds).map .list
  | .rol ds => (pyL ds).map .list
  | .dct _ => none
  | .ref _ => none
  | .ty _ => none
  | .cls _ => none
def pyL : List D → Option (List PyData)
  | [] => some []
  | d :: ds => (D.py d).bind fun x => (pyL ds).map fun xs => x :: xs
end
def D.sc : D → Option V
  | .non => some .non
  | .bl b => some (.bl b)
  | .int i => some (.int i)
  | .str x => some (.str x)
  | _ => none
/-- a dict beside a text -/
def D.far : D → D → Bool
  | .dct _, .str _ => true
  | _, _ => false
def eqD (a b : D) : Option Bool := match a.sc, b.sc with
  | some x, some y => if scal x y = true then some (decide (x = y)) else match a.py, b.py with
    | some p, some q => some (PyData.eqv p q)
    | _, _ => none
  | _, _ => match a.py, b.py with
    | some p, some q => if SeqAt.shaped p = true ∧ SeqAt.shaped q = true then some (PyData.eqv p q) else none
    | _, _ => if a.far b = true then some false else none
def gEq : G2 := fun a b μ => match eqD a b with
  | some k => .ok (.bl k) μ
  | none => .no
def gNe : G2 := fun a b μ => match eqD a b with
  | some k => .ok (.bl (!k)) μ
  | none => .no
section
variable {K : PySem.W.Frag} {w : Wd}
mutual
theorem Hv.dp : ∀ {v : V} {d : D} {p : PyData}, Hv K w v d → d.py = some p → Dp K w.H v p
  | _, _, _, .non, e => by cases e; exact .non
  | _, _, _, .bl b, e => by cases e; exact .bl b
  | _, _, _, .int i, e => by cases e; exact .int i
  | _, _, _, .str x, e => by cases e; exact .str x
  | _, _, _, .tup (ds := ds) t l, e => by
    unfold D.py at e
    cases q : pyL ds with
    | none => rw [q] at e; cases e
    | some ps => rw [q] at e; cases e; exact .tup t.sq (HvL.dp l q)
  | _, _, _, .lst (ds := ds) n t l, e => by
    unfold D.py at e
    cases q : pyL ds with
    | none => rw [q] at e; cases e
    | some ps => rw [q] at e; cases e; exact .lst (.of t) (HvL.dp l q)
  | _, _, _, .rol (ds := ds) t l, e => by
    unfold D.py at e
    cases q : pyL ds with
    | none => rw [q] at e; cases e
    | some ps => rw [q] at e; cases e; exact .lst t.sq (HvL.dp l q)
  | _, _, _, .dct _ _ _, e => by cases e
  | _, _, _, .ref _, e => by cases e
  | _, _, _, .ty _, e => by cases e
  | _, _, _, .cls _, e => by cases e
theorem HvL.dp : ∀ {vs : List V} {ds : List D} {ps : List PyData}, HvL K w vs ds → pyL ds = some ps → DpAll K w.H vs ps
  | _, _, _, .nil, e => by cases e; exact .nil
  | _, _, _, .cons (d := d) (ds := ds) h l, e => by
    unfold pyL at e
    cases q : d.py with
    | none => rw [q] at e; cases e
    | some p =>
      rw [q] at e
      cases q2 : pyL ds with
      | none => rw [q2] at e; cases e
      | some ps => rw [q2] at e; cases e; exact .cons (Hv.dp h q) (HvL.dp l q2)
end
theorem Hv.sc : ∀ {v : V} {d : D} {x : V}, Hv K w v d → d.sc = some x → v = x
  | _, _, _, .non, e => by cases e; rfl
  | _, _, _, .bl b, e => by cases e; rfl
  | _, _, _, .int i, e => by cases e; rfl
  | _, _, _, .str x, e => by cases e; rfl
  | _, _, _, .tup _ _, e => by cases e
  | _, _, _, .lst _ _ _, e => by cases e
  | _, _, _, .rol _ _, e => by cases e
  | _, _, _, .dct _ _ _, e => by cases e
  | _, _, _, .ref _, e => by cases e
  | _, _, _, .ty _, e => by cases e
  | _, _, _, .cls _, e => by cases e
end
theorem ns_shaped : ∀ (a b : D) {u v : V} {p q : PyData}, a.sc = some u → b.sc = some v → ¬ scal u v = true → a.py = some p → b.py = some q → SeqAt.shaped p = true ∧ SeqAt.shaped q = true
  | .non, b, _, _, _, _, e1, e2, h, _, _ => by cases e1; cases b <;> cases e2 <;> exact absurd rfl h
  | .str _, b, _, _, _, _, e1, e2, h, _, _ => by cases e1; cases b <;> cases e2 <;> exact absurd rfl h
  | .bl _, b, _, _, _, _, e1, e2, h, g1, g2 => by
    cases e1
    cases g1
    cases b <;> cases e2 <;> first | exact absurd rfl h | (cases g2; exact ⟨rfl, rfl⟩)
  | .int _, b, _, _, _, _, e1, e2, h, g1, g2 => by
    cases e1
    cases g1
    cases b <;> cases e2 <;> first | exact absurd rfl h | (cases g2; exact ⟨rfl, rfl⟩)
  | .tup _, _, _, _, _, _, e1, _, _, _, _ => by cases e1
  | .lst _, _, _, _, _, _, e1, _, _, _, _ => by cases e1
  | .rol _, _, _, _, _, _, e1, _, _, _, _ => by cases e1
  | .dct _, _, _, _, _, _, e1, _, _, _, _ => by cases e1
  | .ref _, _, _, _, _, _, e1, _, _, _, _ => by cases e1
  | .ty _, _, _, _, _, _, e1, _, _, _, _ => by cases e1
  | .cls _, _, _, _, _, _, e1, _, _, _, _ => by cases e1
/-- two data compared: a scalar pair, or by the library's data, or a dict beside a text -/
def rCmpD (K : PySem.W.Frag) (neg : Bool) : R2 := fun x y H Q => (scal x y = true ∧ Q (.bl (neg ^^ decide (x = y))) H) ∨ (∃ d e, Dp K H x d ∧ Dp K H y e ∧ SeqAt.shaped d = true ∧ SeqAt.shaped e = true ∧ Q (.bl (neg ^^ PyData.eqv d e)) H) ∨
  (∃ a us z, x = .ref a ∧ y = .str z ∧ Rd H a (.dK us) ∧ Q (.bl neg) H)
theorem eqD_use {K : PySem.W.Frag} {E : XK} {neg : Bool} {w : Wd} {μ : Mu} {x y : V} {a b : D} {Q : VK} {g : G2} (r : Rep K w μ) (h1 : Hv K w x a) (h2 : Hv K w y b)
    (p : Post K E (Hv K) w Q (match eqD a b with
      | some k => .ok (.bl (neg ^^ k)) μ
      | none => .no)) : rCmpD K neg x y w.H Q := by
  unfold eqD at p
  split at p
  · rename_i k e
    split at e
    · rename_i u v e1 e2
      have g1 := h1.sc e1
      have g2 := h2.sc e2
      subst g1
      subst g2
      split at e
      · rename_i hs
        cases e
        exact .inl ⟨hs, post_here p r (.bl _)⟩
      · split at e
        · rename_i hs _ _ p1 p2 q1 q2
          cases e
          obtain ⟨s1, s2⟩ := ns_shaped _ _ e1 e2 hs q1 q2
          exact .inr (.inl ⟨p1, p2, h1.dp q1, h2.dp q2, s1, s2, post_here p r (.bl _)⟩)
        · cases e
    · split at e
      · rename_i p1 p2 q1 q2
        split at e
        · rename_i hs
          cases e
          exact .inr (.inl ⟨p1, p2, h1.dp q1, h2.dp q2, hs.1, hs.2, post_here p r (.bl _)⟩)
        · cases e
      · split at e
        · rename_i hf
          cases e
          unfold D.far at hf
          split at hf
          · cases h1 with
            | dct n t l =>
              cases h2 with
              | str =>
                rw [Bool.xor_false] at p
                exact .inr (.inr ⟨_, _, _, rfl, rfl, t, post_here p r (.bl _)⟩)
          · cases hf
        · cases e
  · exact p.elim
theorem ad_eq {K : PySem.W.Frag} {E : XK} : Ad2 K E gEq (rCmpD K false) := fun w μ x y a b Q r h1 h2 p => eqD_use (g := gEq) r h1 h2 (by
  unfold gEq at p
  cases q : eqD a b with
  | none => rw [q] at p; exact p
  | some k => rw [q] at p; simp only [Bool.false_xor]; exact p)
theorem ad_ne {K : PySem.W.Frag} {E : XK} : Ad2 K E gNe (rCmpD K true) := fun w μ x y a b Q r h1 h2 p => eqD_use (g := gNe) r h1 h2 (by
  unfold gNe at p
  cases q : eqD a b with
  | none => rw [q] at p; exact p
  | some k => rw [q] at p; simp only [Bool.true_xor]; exact p)
/-! ### a dict beside a text -/
section
open Sem Builtin SeqAt AutoSeq1 MeetsSeq
theorem sub_sd : isSubtype (.type "str") (.type "dict") = pure false := by first | exact F.sub_str_dict | kernel_rfl | rfl
theorem sub_ds : isSubtype (.type "dict") (.type "str") = pure false := by first | exact F.sub_dict_str | kernel_rfl | rfl
theorem dict_ne_str (l : Addr) (o : Obj) (hc : o.cls = .type "dict") (b : Str) (u : Tok) :
    Meets (Builtin.«dict.__ne__» ⟨[.ref l, .str b u], []⟩) (fun _ R s => s.heap.get? l = some o ∧ R (.ok (.ret .notImplemented)) s) :=
  .of_wp fun prog w A R s h => by
    obtain ⟨hp, g, d, tk, os⟩ := s
    obtain ⟨hl, h⟩ := h
    obtain ⟨cl, dd, da, sl⟩ := o
    subst hc
    wp_walk using wpAny_loadPart' hl
    refine wpAny_of_eq sub_sd ?_
    wp_walk
    exact ⟨_, rfl, h⟩
theorem str_ne_dict (l : Addr) (o : Obj) (es : Array DictEntry) (n : Nat) (hc : o.data = .dict es n) (b : Str) (u : Tok) :
    Meets (Builtin.«str.__ne__» ⟨[.str b u, .ref l], []⟩) (fun _ R s => s.heap.get? l = some o ∧ R (.ok (.ret .notImplemented)) s) :=
  .of_wp fun prog w A R s h => by
    obtain ⟨hp, g, d, tk, os⟩ := s
    obtain ⟨hl, h⟩ := h
    obtain ⟨cl, dd, da, sl⟩ := o
    subst hc
    wp_walk using wpAny_loadPart' hl, wpAny_load hl
    exact ⟨_, rfl, h⟩
theorem rc_ne_dict_str {prog : Program} {w : World} {A : Around} {s : Shared} {l : Addr} {o : Obj} (b : Str) (u : Tok) (ho : s.heap.get? l = some o) (hc : o.cls = .type "dict") {es : Array DictEntry} {n : Nat} (hd : o.data = .dict es n) (hu : A.units < cLine) {E Q : Value → Shared → Prop} (h : Q (.bool true) s) : wpAny (model prog w) A (richCompare .NotEq (.ref l) (.str b u)) Q E s :=
  rc_ne_decline_or (k := false) ⟨_, ho, hc⟩ (typeIs_str s b u) (by decide) sub_sd F.slot_dict_ne F.slot_str_ne_refl
    (fun _ hq => call_meets F.slot_dict_ne ⟨_, ho, hc⟩ F.entry_dict_ne (F.args_dict_ne_2 _ _) (dict_ne_str l o hc b u) ⟨ho, hq⟩)
    (fun _ hq => call_meets F.slot_str_ne_refl (typeIs_str s b u) F.entry_str_ne (F.args_str_ne_2 _ _) (str_ne_dict l o es n hd b u) ⟨ho, hq⟩)
    (fun _ hq => wpAny_of_eq (rfl : isSame (.ref l) (.str b u) = pure false) hq) (.inr hu) h
end
section
variable {X : Cx}
def rFarNe : R2 := fun x y H Q => ∃ a us z, x = .ref a ∧ y = .str z ∧ Rd H a (.dK us) ∧ Q (.bl true) H
theorem op_ne_far (hu : X.A.units < cLine) : OpR X (compareOp .NotEq) rFarNe := by
  intro pins s σ H x y v u Q I rx ry h
  obtain ⟨a, us, z, rfl, rfl, hd, q⟩ := h
  cases rx
  obtain ⟨t, rfl⟩ := ry
  obtain ⟨_, _, vs, _, o, es, ep, h1, h2, h3, _⟩ := hd.ok I.hok
  exact rc_ne_dict_str z t h1 h2.1 h3 hu ⟨.bl true, H, I, rfl, q⟩
theorem o_ne (hu : X.A.units + 64 < cLine) : OpR X (compareOp .NotEq) (rCmpD X.K true) := by
  intro pins s σ H x y v u Q I rx ry h
  rcases h with ⟨h1, h2⟩ | ⟨d, e, h1, h2, h3, h4, h5⟩ | h
  · exact op_ne pins s σ H x y v u Q I rx ry ⟨h1, by rw [Bool.true_xor] at h2; exact h2⟩
  · exact op_neD hu pins s σ H x y v u Q I rx ry ⟨d, e, h1, h2, h3, h4, by rw [Bool.true_xor] at h5; exact h5⟩
  · exact op_ne_far (by omega) pins s σ H x y v u Q I rx ry h
end
end FL
/-! FL: in, is, subscripts, slices, built-in functions. -/
namespace FL
open PySem PySem.Spec PyProof.Rows L2
set_option autoImplicit false

/-! ### in, is None -/
def scL : List D → Option (List V)
  | [] => some []
  | d :: ds => d.sc.bind fun x => (scL ds).map fun xs => x :: xs
def D.items : D → Option (List D)
  | .tup ds => some ds
  | .lst ds => some ds
  | .rol ds => some ds
  | _ => none
def inD (a b : D) : Option Bool := match a, b with
  | .str x, .str z => match x.cps.toList with
    | [c] => some (decide (c ∈ z.cps.toList))
    | _ => none
  | a, b => match a.sc, b.items.bind scL with
    | some x, some vs => some (inV x vs)
    | _, _ => none
def gIn (neg : Bool) : G2 := fun a b μ => match inD a b with
  | some k => .ok (.bl (neg ^^ k)) μ
  | none => .no
abbrev rIn2 (K : PySem.W.Frag) (neg : Bool) : R2 := fun x y H Q => rIn K neg x y H Q ∨ (∃ (c : Nat) (z : Str), x = .str ⟨#[c]⟩ ∧ y = .str z ∧ Q (.bl (neg ^^ decide (c ∈ z.cps.toList))) H)
section
variable {K : PySem.W.Frag} {E : XK} {X : Cx} {w : Wd}
theorem sc_flat {d : D} {x : V} (h : d.sc = some x) : flatV x = true := by cases d <;> cases h <;> rfl
theorem HvL.sc : ∀ {vs : List V} {ds : List D} {xs : List V}, HvL K w vs ds → scL ds = some xs → vs = xs ∧ xs.all flatV = true
  | _, _, _, .nil, e => by cases e; exact ⟨rfl, rfl⟩
  | _, _, _, .cons (d := d) (ds := ds) h l, e => by
    unfold scL at e
    cases q : d.sc with
    | none => rw [q] at e; cases e
    | some x =>
      rw [q] at e
      cases q2 : scL ds with
      | none => rw [q2] at e; cases e
      | some xs =>
        rw [q2] at e
        cases e
        obtain ⟨e1, e2⟩ := HvL.sc l q2
        exact ⟨by rw [h.sc q, e1], by rw [List.all_cons, sc_flat q, e2]; rfl⟩
theorem o_in : OpR X (compareOp .In) (rIn2 X.K false) := op_in_seq.or fun pins s σ H x y v u Q I rx ry h => op_in_sign pins s σ H x y v u Q I rx ry (by
  obtain ⟨c, z, e1, e2, q⟩ := h
  exact ⟨c, z, e1, e2, by rw [Bool.false_xor] at q; exact q⟩)
theorem o_notin : OpR X (compareOp .NotIn) (rIn2 X.K true) := op_notIn_seq.or fun pins s σ H x y v u Q I rx ry h => op_notIn_sign pins s σ H x y v u Q I rx ry (by
  obtain ⟨c, z, e1, e2, q⟩ := h
  exact ⟨c, z, e1, e2, by rw [Bool.true_xor] at q; exact q⟩)
theorem Hv.items {v : V} {d : D} {ds : List D} (h : Hv K w v d) (e : d.items = some ds) : ∃ a vs, v = .ref a ∧ HvL K w vs ds ∧ (SqL K w.H a vs ∨ SqT K w.H a vs) := by
  cases h with
  | tup t l => cases e; exact ⟨_, _, rfl, l, .inr t.sq⟩
  | lst n t l => cases e; exact ⟨_, _, rfl, l, .inl (.of t)⟩
  | rol t l => cases e; exact ⟨_, _, rfl, l, .inl t.sq⟩
  | _ => cases e
theorem ad_in (neg : Bool) : Ad2 K E (gIn neg) (rIn2 K neg) := fun w μ x y a b Q r h1 h2 p => by
  unfold gIn at p
  cases q : inD a b with
  | none => rw [q] at p; exact p.elim
  | some k =>
    rw [q] at p
    unfold inD at q
    split at q
    · split at q
      · rename_i c hc
        cases q
        cases h1 with
        | str x =>
          cases h2 with
          | str =>
            refine .inr ⟨c, _, ?_, rfl, post_here p r (.bl _)⟩
            have e : ∀ y : Str, y.cps.toList = [c] → y = ⟨#[c]⟩ := fun y hy => by
              obtain ⟨l⟩ := y
              have e2 : l = #[c] := by
                apply Array.ext'
                simpa using hy
              rw [e2]
            rw [e _ hc]
      · cases q
    · split at q
      · rename_i x' vs' e1 e2
        cases q
        cases qi : b.items with
        | none => rw [qi] at e2; cases e2
        | some ds =>
          rw [qi] at e2
          obtain ⟨adr, vs, rfl, l, sq⟩ := h2.items qi
          obtain ⟨g1, g2⟩ := l.sc e2
          have g3 := h1.sc e1
          subst g1
          subst g3
          refine .inl ⟨adr, vs, rfl, sq, sc_flat e1, g2, ?_⟩
          have p' := post_here p r (.bl _)
          cases neg with
          | true => rw [Bool.true_xor] at p'; exact p'
          | false => rw [Bool.false_xor] at p'; exact p'
      · cases q
theorem ad_isN : Ad2 K E gIsN (fun x y H Q => y = .non ∧ Q (.bl (decide (x = .non))) H) := fun w μ x y a b Q r h1 h2 p => by
  cases h2 with
  | non =>
    refine ⟨rfl, ?_⟩
    cases h1 with
    | non => exact post_here p r (.bl true)
    | _ => exact post_here p r (.bl false)
  | _ => cases h1 <;> exact p.elim
theorem ad_notN : Ad2 K E gNotN (fun x y H Q => y = .non ∧ Q (.bl (!decide (x = .non))) H) := fun w μ x y a b Q r h1 h2 p => by
  cases h2 with
  | non =>
    refine ⟨rfl, ?_⟩
    cases h1 with
    | non => exact post_here p r (.bl false)
    | _ => exact post_here p r (.bl true)
  | _ => cases h1 <;> exact p.elim
theorem ad_cmp (f : Int → Int → Bool) : Ad2 K E (gCmp f) (rI0 fun i j => .bl (f i j)) := fun w μ x y a b Q r h1 h2 p => by
  cases h1 with
  | int i =>
    cases h2 with
    | int j => exact ⟨i, j, rfl, rfl, post_here p r (.bl _)⟩
    | _ => exact p.elim
  | _ => exact p.elim
end

/-! ### subscripts -/
def gIx : G2 := fun a b μ => match a, b with
  | .str z, .int i => if z.length ≤ sizeLine then (match atI z.cps.toList i with
    | some c => .ok (sign c) μ
    | none => .no) else .no
  | .ref k, .int i => match μ[k]? with
    | some (.lst ds) => (match atI ds i with
      | some d => .ok d μ
      | none => .no)
    | _ => .no
  | a, .int i => match a.items.bind fun ds => atI ds i with
    | some d => .ok d μ
    | none => .no
  | _, _ => .no
theorem HvL.atI {K : PySem.W.Frag} {w : Wd} {vs : List V} {ds : List D} {i : Int} {d : D} (l : HvL K w vs ds) (h : L2.atI ds i = some d) : ∃ v, L2.atI vs i = some v ∧ Hv K w v d := by
  unfold L2.atI at h ⊢
  rw [l.length]
  cases q : ixN ds.length i with
  | none => rw [q] at h; cases h
  | some j =>
    rw [q] at h
    exact l.get h
section
variable {K : PySem.W.Frag} {E : XK} {X : Cx}
theorem o_ix : IxR X (rIx X.K) := ix_seq
theorem ad_ix : Ad2 K E gIx (rIx K) := fun w μ x y a b Q r h1 h2 p => by
  cases h2 with
  | int i =>
    cases h1 with
    | str z =>
      simp only [gIx] at p
      by_cases hz : z.length ≤ sizeLine
      · rw [if_pos hz] at p
        cases q : atI z.cps.toList i with
        | none => rw [q] at p; exact p.elim
        | some c => rw [q] at p; exact .inr (.inr ⟨z, i, c, rfl, rfl, hz, q, post_here p r (.str _)⟩)
      · rw [if_neg hz] at p; exact p.elim
    | @ref adr k hk =>
      simp only [gIx] at p
      cases q : μ[k]? with
      | none => rw [q] at p; exact p.elim
      | some o =>
        cases o with
        | lst ds =>
          rw [q] at p
          obtain ⟨vs, g1, g2⟩ := r.ob k adr _ hk q
          cases q2 : atI ds i with
          | none => simp only [q2] at p; exact p.elim
          | some d =>
            simp only [q2] at p
            obtain ⟨v, g3, g4⟩ := g2.atI q2
            exact .inl ⟨adr, vs, i, v, rfl, rfl, .of g1, g3, post_here p r g4⟩
        | dct kvs => rw [q] at p; exact p.elim
    | @tup adr vs ds t l =>
      simp only [gIx, D.items, Option.bind_some] at p
      cases q2 : atI ds i with
      | none => simp only [q2] at p; exact p.elim
      | some d =>
        simp only [q2] at p
        obtain ⟨v, g3, g4⟩ := l.atI q2
        exact .inr (.inl ⟨adr, vs, i, v, rfl, rfl, t.sq, g3, post_here p r g4⟩)
    | @lst adr vs ds n t l =>
      simp only [gIx, D.items, Option.bind_some] at p
      cases q2 : atI ds i with
      | none => simp only [q2] at p; exact p.elim
      | some d =>
        simp only [q2] at p
        obtain ⟨v, g3, g4⟩ := l.atI q2
        exact .inl ⟨adr, vs, i, v, rfl, rfl, .of t, g3, post_here p r g4⟩
    | @rol adr vs ds t l =>
      simp only [gIx, D.items, Option.bind_some] at p
      cases q2 : atI ds i with
      | none => simp only [q2] at p; exact p.elim
      | some d =>
        simp only [q2] at p
        obtain ⟨v, g3, g4⟩ := l.atI q2
        exact .inl ⟨adr, vs, i, v, rfl, rfl, t.sq, g3, post_here p r g4⟩
    | _ => exact p.elim
  | _ => cases h1 <;> exact p.elim
variable {a b : Expr} {pos p2 : Pos} {Fa Fb : FE}
theorem de_ix (ha : PE X a (tD X.K E Fa)) (hb : PE X b (tD X.K E Fb)) (hs : PlainIx b := by exact fun _ _ => rfl) : PE X (.Subscript a b pos) (tD X.K E (fBin gIx Fa Fb)) := (pe_ix o_ix ha hb hs).imp fun _ _ _ => tD_op ad_ix

/-! ### slices -/
abbrev FO := Rho → Mu → Rs (Option Int)
def tDo (K : PySem.W.Frag) (E : XK) (F : FO) : TO := fun σ H Q => ∃ w ρ μ, w.H = H ∧ SR K σ w ρ μ ∧ Post K E (fun _ (b c : Option Int) => b = c) w Q (F ρ μ)
def fNoP : FO := fun _ μ => .ok none μ
def fP (F : FE) : FO := fun ρ μ => (F ρ μ).bind fun d μ => match d with
  | .int i => .ok (some i) μ
  | _ => .no
def cutD (xs : List D) (lo hi : Option Int) : List D := (xs.drop (HT.sIx xs.length 0 lo)).take (HT.sIx xs.length xs.length hi - HT.sIx xs.length 0 lo)
def gSl : D → Option Int → Option Int → Mu → Rs D := fun a lo hi μ => match a with
  | .tup ds => .ok (.tup (cutD ds lo hi)) μ
  | .lst ds => .ok (.lst (cutD ds lo hi)) μ
  | .rol ds => .ok (.lst (cutD ds lo hi)) μ
  | .str z => if z.length ≤ sizeLine then .ok (.str (cutS z lo hi)) μ else .no
  | _ => .no
def fSl (F : FE) (Fl Fh : FO) : FE := fun ρ μ => (F ρ μ).bind fun d μ1 => (Fl ρ μ1).bind fun lo μ2 => (Fh ρ μ2).bind fun hi μ3 => gSl d lo hi μ3
abbrev rSl3 (K : PySem.W.Frag) : V → Option Int → Option Int → Hp → VK → Prop := fun x lo hi H Q => rSlA K x lo hi H Q ∨ rSlL K x lo hi H Q ∨ rSlS x lo hi H Q
theorem o_sl : SlR X (rSl3 X.K) := sl_tupA.or (sl_list.or sl_str)
theorem HvL.cut {w : Wd} {vs : List V} {ds : List D} (l : HvL K w vs ds) (lo hi : Option Int) : HvL K w (cutV vs lo hi) (cutD ds lo hi) := by
  unfold cutV cutD
  rw [l.length]
  exact (l.drop _).take _
theorem cut_all {xs : List D} {lo hi : Option Int} (h : HT.sIx xs.length 0 lo = 0 ∧ HT.sIx xs.length xs.length hi = xs.length) : cutD xs lo hi = xs := by
  unfold cutD
  rw [h.1, h.2]
  simp
theorem ad_sl {w : Wd} {μ : Mu} {x : V} {d : D} {lo hi : Option Int} {Q : VK} (r : Rep K w μ) (h : Hv K w x d) (p : Post K E (Hv K) w Q (gSl d lo hi μ)) : rSl3 K x lo hi w.H Q := by
  cases h with
  | @tup adr vs ds t l =>
    refine .inl ⟨adr, vs, rfl, t.sq, fun e => ?_, fun _ => post_tup p r (l.cut lo hi)⟩
    rw [l.length] at e
    have p : Post K E (Hv K) w Q (.ok (.tup (cutD ds lo hi)) μ) := p
    rw [cut_all e] at p
    exact post_here p r (.tup t l)
  | @lst adr vs ds n t l => exact .inr (.inl ⟨adr, vs, rfl, .of t, post_lst p r (l.cut lo hi)⟩)
  | @rol adr vs ds t l => exact .inr (.inl ⟨adr, vs, rfl, t.sq, post_lst p r (l.cut lo hi)⟩)
  | str z =>
    simp only [gSl] at p
    by_cases hz : z.length ≤ sizeLine
    · rw [if_pos hz] at p
      exact .inr (.inr ⟨z, rfl, hz, post_here p r (.str _)⟩)
    · rw [if_neg hz] at p; exact p.elim
  | _ => exact p.elim
theorem do_none : PO X none (tDo X.K E fNoP) := ⟨fun pins s σ H Q I ⟨w, ρ, μ, hw, sr, p⟩ => po_none.run pins s σ H Q I (hw ▸ post_here p sr.rep rfl)⟩
theorem do_some (h : PE X a (tD X.K E Fa)) : PO X (some a) (tDo X.K E (fP Fa)) := ⟨fun pins s σ H Q I ⟨w, ρ, μ, hw, sr, p⟩ => (po_some h).run pins s σ H Q I ⟨w, ρ, μ, hw, sr, Post.thn p fun d μ1 x w1 e1 r1 h1 p1 => by
  cases h1 with
  | int i => exact ⟨i, rfl, post_here p1 r1 rfl⟩
  | _ => exact p1.elim⟩⟩
theorem de_sl {lo hi : Option Expr} {Fl Fh : FO} (ha : PE X a (tD X.K E Fa)) (hl : PO X lo (tDo X.K E Fl)) (hh : PO X hi (tDo X.K E Fh)) : PE X (.Subscript a (.Slice lo hi none p2) pos) (tD X.K E (fSl Fa Fl Fh)) :=
  (pe_slice o_sl ha hl hh).imp fun _ _ _ ⟨w, ρ, μ, hw, sr, p⟩ => ⟨w, ρ, μ, hw, sr, Post.thn p fun d μ1 x w1 e1 r1 h1 p1 => ⟨w1, ρ, μ1, rfl, sr.ext e1 r1, Post.thn p1 fun l μ2 l' w2 e2 r2 h2 p2 => by
    subst h2
    exact ⟨w2, ρ, μ2, rfl, (sr.ext e1 r1).ext e2 r2, Post.thn p2 fun u μ3 u' w3 e3 r3 h3 p3 => by
      subst h3
      exact ad_sl r3 ((h1.ext e2).ext e3) p3⟩⟩⟩
end

/-! ### built-in functions -/
def gLen : GL := fun ds μ => match ds with
  | [.str x] => if x.length ≤ sizeLine then .ok (.int (x.length : Nat)) μ else .no
  | [.ref k] => match μ[k]? with
    | some (.lst ds) => .ok (.int (ds.length : Nat)) μ
    | _ => .no
  | [d] => match d.items with
    | some ds => .ok (.int (ds.length : Nat)) μ
    | none => .no
  | _ => .no
def D.kind (μ : Mu) : D → Option String
  | .non => some "NoneType"
  | .bl _ => some "bool"
  | .int _ => some "int"
  | .str _ => some "str"
  | .tup _ => some "tuple"
  | .lst _ => some "list"
  | .dct _ => some "dict"
  | .ref k => match μ[k]? with
    | some (.lst _) => some "list"
    | some (.dct _) => some "dict"
    | none => none
  | _ => none
def isK (t n : String) : Option Bool := match n with
  | "int" => some (t == "int" || t == "bool")
  | "bool" => some (t == "bool")
  | "str" => some (t == "str")
  | "tuple" => some (t == "tuple")
  | "list" => some (t == "list")
  | "dict" => some (t == "dict")
  | _ => none
def gIsi : GL := fun ds μ => match ds with
  | [d, .ty n] => match (d.kind μ).bind fun t => isK t n with
    | some b => .ok (.bl b) μ
    | none => .no
  | _ => .no
def gStr : GL := fun ds μ => match ds with
  | [.int i] => if i.natAbs.log2 < 1920 then .ok (.str (toString i)) μ else .no
  | [.str x] => .ok (.str x) μ
  | _ => .no
def gInt : GL := fun ds μ => match ds with
  | [.int i] => .ok (.int i) μ
  | [.bl b] => .ok (.int (if b = true then 1 else 0)) μ
  | [.str x] => match PySem.intText? x with
    | some n => if x.length ≤ 640 then .ok (.int n) μ else .no
    | none => .no
  | _ => .no
def gAbs : GL := fun ds μ => match ds with
  | [.int i] => .ok (.int (if i < 0 then -i else i)) μ
  | _ => .no
def gMax2 : GL := fun ds μ => match ds with
  | [.int i, .int j] => .ok (.int (if j > i then j else i)) μ
  | _ => .no
def gMin2 : GL := fun ds μ => match ds with
  | [.int i, .int j] => .ok (.int (if j < i then j else i)) μ
  | _ => .no
def blL : List D → Option (List Bool)
  | [] => some []
  | .bl b :: ds => (blL ds).map fun xs => b :: xs
  | _ :: _ => none
def gAll : GL := fun ds μ => match ds with
  | [.lst xs] => match blL xs with
    | some bs => .ok (.bl (bs.all id)) μ
    | none => .no
  | _ => .no
def gTuple : GL := fun ds μ => match ds with
  | [.lst xs] => .ok (.tup xs) μ
  | [.rol xs] => .ok (.tup xs) μ
  | [.tup xs] => .ok (.tup xs) μ
  | [.ref k] => match μ[k]? with
    | some (.lst xs) => .ok (.tup xs) μ
    | _ => .no
  | [.str x] => if x.cps.size ≤ sizeLine then .ok (.tup (x.cps.toList.map sign)) μ else .no
  | _ => .no
/-- a new list: frozen -/
def gList : GL := fun ds μ => match ds with
  | [.str x] => if x.cps.size ≤ sizeLine then .ok (.lst (x.cps.toList.map sign)) μ else .no
  | [d] => match d.items with
    | some xs => .ok (.lst xs) μ
    | none => .no
  | _ => .no
/-- a new list: to be changed -/
def gListM : GL := fun ds μ => match ds with
  | [.str x] => if x.cps.size ≤ sizeLine then .ok (.ref μ.length) (μ ++ [.lst (x.cps.toList.map sign)]) else .no
  | [d] => match d.items with
    | some xs => .ok (.ref μ.length) (μ ++ [.lst xs])
    | none => .no
  | _ => .no
section
variable {K : PySem.W.Frag} {E : XK} {X : Cx}
theorem ad_len : AdL K E gLen (fun xs H Q => ∃ x n, xs = [x] ∧ LenV K x H n ∧ Q (.int (n : Nat)) H) := fun w μ vs ds Q r h p => by
  match ds, h, p with
  | [], _, p => exact p.elim
  | _ :: _ :: _, .cons h1 (.cons h2 l), p => cases h1 <;> exact p.elim
  | [d], .cons h1 .nil, p =>
    cases h1 with
    | str x =>
      simp only [gLen] at p
      by_cases hz : x.length ≤ sizeLine
      · rw [if_pos hz] at p
        exact ⟨_, x.length, rfl, ⟨hz, rfl⟩, post_here p r (.int _)⟩
      · rw [if_neg hz] at p; exact p.elim
    | @ref adr k hk =>
      simp only [gLen] at p
      cases q : μ[k]? with
      | none => rw [q] at p; exact p.elim
      | some o =>
        cases o with
        | lst ds =>
          rw [q] at p
          obtain ⟨us, g1, g2⟩ := r.ob k adr _ hk q
          exact ⟨_, _, rfl, .inl ⟨us, .of g1, rfl⟩, by rw [g2.length]; exact post_here p r (.int _)⟩
        | dct kvs => rw [q] at p; exact p.elim
    | tup t l => exact ⟨_, _, rfl, .inr ⟨_, t.sq, rfl⟩, by rw [l.length]; exact post_here p r (.int _)⟩
    | lst n t l => exact ⟨_, _, rfl, .inl ⟨_, .of t, rfl⟩, by rw [l.length]; exact post_here p r (.int _)⟩
    | rol t l => exact ⟨_, _, rfl, .inl ⟨_, t.sq, rfl⟩, by rw [l.length]; exact post_here p r (.int _)⟩
    | _ => exact p.elim
theorem kit_isK : ∀ {t n : String} {b : Bool}, t ∈ ["NoneType", "bool", "int", "str", "tuple", "list", "dict"] → isK t n = some b → PySem.W.kitOne K (.type t) (.type n) = some b := fun {t n b} ht h => by
  unfold isK at h
  simp only [List.mem_cons, List.not_mem_nil, or_false] at ht
  split at h
  all_goals try cases h
  all_goals (rcases ht with rfl | rfl | rfl | rfl | rfl | rfl | rfl <;> exact kit_ty (by decide +kernel))
theorem kind_ty {w : Wd} {μ : Mu} {x : V} {d : D} {t : String} (r : Rep K w μ) (h : Hv K w x d) (e : d.kind μ = some t) : TyX K w.H x (.type t) ∧ t ∈ ["NoneType", "bool", "int", "str", "tuple", "list", "dict"] := by
  cases h with
  | non => cases e; exact ⟨.base .non, by decide⟩
  | bl b => cases e; exact ⟨.base (.bl b), by decide⟩
  | int i => cases e; exact ⟨.base (.int i), by decide⟩
  | str x => cases e; exact ⟨.base (.str x), by decide⟩
  | tup t l =>
    cases e
    refine ⟨?_, by decide⟩
    rcases t with ⟨_, t | ⟨o, t⟩⟩ | t
    · exact .base (.tup t)
    · exact .fTuple t
    · rcases t with (t | ⟨o, t⟩) | ⟨o, its, n, t, c, _⟩
      · cases t
      · cases t
      · exact .kTuple t c
  | lst n t l => cases e; exact ⟨.base (.lst t), by decide⟩
  | dct n t l =>
    cases e
    refine ⟨?_, by decide⟩
    rcases t with t | ⟨o, t⟩
    · exact .base (.dK t)
    · exact .fDict t
  | @ref adr k hk =>
    have e : (match μ[k]? with
      | some (.lst _) => some "list"
      | some (.dct _) => some "dict"
      | none => none) = some t := e
    cases q : μ[k]? with
    | none => rw [q] at e; cases e
    | some o =>
      cases o with
      | lst ds => rw [q] at e; cases e; obtain ⟨us, g1, g2⟩ := r.ob k adr _ hk q; exact ⟨.base (.lst g1), by decide⟩
      | dct kvs => rw [q] at e; cases e; obtain ⟨us, g1, g2⟩ := r.ob k adr _ hk q; exact ⟨.base (.dK g1), by decide⟩
  | rol _ _ => cases e
  | ty _ => cases e
  | cls _ => cases e
theorem ad_isi : AdL K E gIsi (rIsi K) := fun w μ vs ds Q r h p => by
  match ds, h, p with
  | [d, .ty n], .cons h1 (.cons (.ty _) .nil), p =>
    simp only [gIsi] at p
    cases q : (d.kind μ).bind fun t => isK t n with
    | none => rw [q] at p; exact p.elim
    | some b =>
      rw [q] at p
      cases q1 : d.kind μ with
      | none => rw [q1] at q; cases q
      | some t =>
        rw [q1] at q
        obtain ⟨g1, g2⟩ := kind_ty r h1 q1
        exact ⟨_, _, _, _, b, rfl, .ty n, g1, kit_isK g2 q, post_here p r (.bl _)⟩
theorem ad_str : AdL K E gStr (fun xs H Q => (∃ i, xs = [.int i] ∧ i.natAbs.log2 < 1920 ∧ Q (.str (toString i)) H) ∨ ∃ a, xs = [.str a] ∧ Q (.str a) H) := fun w μ vs ds Q r h p => by
  match ds, h, p with
  | [.int i], .cons (.int _) .nil, p =>
    simp only [gStr] at p
    by_cases hz : i.natAbs.log2 < 1920
    · rw [if_pos hz] at p
      exact .inl ⟨i, rfl, hz, post_here p r (.str _)⟩
    · rw [if_neg hz] at p; exact p.elim
  | [.str x], .cons (.str _) .nil, p => exact .inr ⟨x, rfl, post_here p r (.str _)⟩
theorem _root_.L2.CallR.or' {f : Value} {r r' : List V → Hp → VK → Prop} (h : CallR X f r) (h' : CallR X f r') : CallR X f (fun xs H Q => r xs H Q ∨ r' xs H Q) := fun pins s σ H xs us Q I rv q => q.elim (h pins s σ H xs us Q I rv) (h' pins s σ H xs us Q I rv)
theorem c_str : CallR X (.type "str") (fun xs H Q => (∃ i, xs = [.int i] ∧ i.natAbs.log2 < 1920 ∧ Q (.str (toString i)) H) ∨ ∃ a, xs = [.str a] ∧ Q (.str a) H) := call_str_int.or' SkE.call_str_str
abbrev rInt2 : List V → Hp → VK → Prop := fun xs H Q => ((∃ i, xs = [.int i] ∧ Q (.int i) H) ∨ ∃ k, xs = [.bl k] ∧ Q (.int (if k then 1 else 0)) H) ∨ ∃ a n, xs = [.str a] ∧ PySem.intText? a = some n ∧ a.length ≤ 640 ∧ Q (.int n) H
theorem c_int : CallR X (.type "int") rInt2 := call_int1.or' call_int_str
theorem ad_int : AdL K E gInt rInt2 := fun w μ vs ds Q r h p => by
  match ds, h, p with
  | [.int i], .cons (.int _) .nil, p => exact .inl (.inl ⟨i, rfl, post_here p r (.int _)⟩)
  | [.bl b], .cons (.bl _) .nil, p => exact .inl (.inr ⟨b, rfl, post_here p r (.int _)⟩)
  | [.str x], .cons (.str _) .nil, p =>
    simp only [gInt] at p
    cases q : PySem.intText? x with
    | none => rw [q] at p; exact p.elim
    | some n =>
      rw [q] at p
      simp only at p
      by_cases hz : x.length ≤ 640
      · rw [if_pos hz] at p
        exact .inr ⟨x, n, rfl, q, hz, post_here p r (.int _)⟩
      · rw [if_neg hz] at p; exact p.elim
theorem ad_abs : AdL K E gAbs (fun xs H Q => ∃ i, xs = [.int i] ∧ Q (.int (if i < 0 then -i else i)) H) := fun w μ vs ds Q r h p => by
  match ds, h, p with
  | [.int i], .cons (.int _) .nil, p => exact ⟨i, rfl, post_here p r (.int _)⟩
theorem ad_max2 : AdL K E gMax2 (fun xs H Q => ∃ i j, xs = [.int i, .int j] ∧ Q (.int (if j > i then j else i)) H) := fun w μ vs ds Q r h p => by
  match ds, h, p with
  | [.int i, .int j], .cons (.int _) (.cons (.int _) .nil), p => exact ⟨i, j, rfl, post_here p r (.int _)⟩
theorem ad_min2 : AdL K E gMin2 (fun xs H Q => ∃ i j, xs = [.int i, .int j] ∧ Q (.int (if j < i then j else i)) H) := fun w μ vs ds Q r h p => by
  match ds, h, p with
  | [.int i, .int j], .cons (.int _) (.cons (.int _) .nil), p => exact ⟨i, j, rfl, post_here p r (.int _)⟩
theorem blL_hv {w : Wd} : ∀ {vs : List V} {ds : List D} {bs : List Bool}, HvL K w vs ds → blL ds = some bs → vs = bs.map V.bl
  | _, _, _, .nil, e => by cases e; rfl
  | _, _, _, .cons (d := d) (ds := ds) h l, e => by
    cases h with
    | bl b =>
      have e : (blL ds).map (fun xs => b :: xs) = some _ := e
      cases q : blL ds with
      | none => rw [q] at e; cases e
      | some xs => rw [q] at e; cases e; rw [blL_hv l q]; rfl
    | _ => cases e
theorem ad_all : AdL K E gAll (rAll K) := fun w μ vs ds Q r h p => by
  match ds, h, p with
  | [.lst xs], .cons (.lst n t l) .nil, p =>
    simp only [gAll] at p
    cases q : blL xs with
    | none => rw [q] at p; exact p.elim
    | some bs =>
      rw [q] at p
      exact ⟨_, bs, rfl, by rw [← blL_hv l q]; exact .of t, post_here p r (.bl _)⟩
abbrev rTuple2 (K : PySem.W.Frag) : List V → Hp → VK → Prop := fun xs H Q => (∃ p ys, xs = [.ref p] ∧ ((SqL K H p ys ∧ ∀ l, H l = none → Q (.ref l) (upd H l (.tup ys))) ∨ (SqT K H p ys ∧ Q (.ref p) H))) ∨
  ∃ x : Str, xs = [.str x] ∧ x.cps.size ≤ sizeLine ∧ ∀ l, H l = none → Q (.ref l) (upd H l (.tup (x.cps.toList.map fun c => V.str ⟨#[c]⟩)))
theorem signs_vals {x : Str} {acc : Array Value} (h : ItemsOf (SignAt x) acc x.cps.size) : Vals (x.cps.toList.map fun c => V.str ⟨#[c]⟩) acc.toList := by
  obtain ⟨h1, h2⟩ := h
  have key : ∀ (cs : List Nat) (vs : List Value), cs.length = vs.length → (∀ (j : Nat) (v : Value), vs[j]? = some v → ∃ c u, cs[j]? = some c ∧ v = .str ⟨#[c]⟩ u) → Vals (cs.map fun c => V.str ⟨#[c]⟩) vs := by
    intro cs
    induction cs with
    | nil =>
      intro vs hl _
      cases vs with
      | nil => exact .nil
      | cons v vs => cases hl
    | cons c cs ih =>
      intro vs hl k
      cases vs with
      | nil => cases hl
      | cons v vs =>
        refine .cons ?_ (ih vs (Nat.succ.inj hl) fun j v hj => ?_)
        · obtain ⟨c', u, e1, e2⟩ := k 0 v rfl
          cases e1
          exact ⟨u, e2⟩
        · exact k (j + 1) v (by simpa using hj)
  refine key x.cps.toList acc.toList (by simp [h1]) fun j v hj => ?_
  obtain ⟨c, u, e1, e2⟩ := h2 j v (by rw [← Array.getElem?_toList]; exact hj)
  exact ⟨c, u, by rw [Array.getElem?_toList]; exact e1, e2⟩
theorem c_tupleS (hc : X.calm = true) : CallR X (.type "tuple") (fun xs H Q => ∃ x : Str, xs = [.str x] ∧ x.cps.size ≤ sizeLine ∧ ∀ l, H l = none → Q (.ref l) (upd H l (.tup (x.cps.toList.map fun c => V.str ⟨#[c]⟩)))) := by
  intro pins s σ H xs us Q I rv h
  obtain ⟨x, rfl, hz, q⟩ := h
  obtain ⟨u, rfl, rx⟩ := vals1 rv
  obtain ⟨t, rfl⟩ := rx
  refine call_tuple_str (I.ok.hd hc) x t (fun h' tk acc kp it => ?_) hz
  have I1 : Inv X pins σ H { s with heap := h', toks := tk } := I.kept kp
  have v := signs_vals it
  have I2 : Inv X pins σ (upd H h'.objs.size (.tup (x.cps.toList.map fun c => V.str ⟨#[c]⟩))) { s with heap := h'.push { cls := .type "tuple", data := .seq acc }, toks := tk } :=
    I1.laid (t' := tk) (fun b o e => Heap.get?_push_of_some _ e) (Nat.le_refl _) ⟨by rw [List.length_map]; simpa using hz, acc.toList, v, ⟨_, Heap.get?_push_size _ rfl, rfl, _, rfl⟩⟩
  exact ⟨.ref h'.objs.size, _, I2, rfl, q _ (I1.hok.fresh (Nat.le_refl _))⟩
theorem c_tuple (hc : X.calm = true) : CallR X (.type "tuple") (rTuple2 X.K) := call_tuple_of.or' (c_tupleS hc)
theorem hv_signs {w : Wd} : ∀ l : List Nat, HvL K w (l.map fun c => V.str ⟨#[c]⟩) (l.map sign)
  | [] => .nil
  | c :: l => .cons (.str _) (hv_signs l)
theorem ad_tuple : AdL K E gTuple (rTuple2 K) := fun w μ vs ds Q r h p => by
  match ds, h, p with
  | [], _, p => exact p.elim
  | _ :: _ :: _, .cons h1 (.cons h2 l), p => cases h1 <;> exact p.elim
  | [d], .cons h1 .nil, p =>
    cases h1 with
    | str x =>
      simp only [gTuple] at p
      by_cases hz : x.cps.size ≤ sizeLine
      · rw [if_pos hz] at p
        exact .inr ⟨x, rfl, hz, post_tup p r (hv_signs _)⟩
      · rw [if_neg hz] at p; exact p.elim
    | @ref adr k hk =>
      simp only [gTuple] at p
      cases q : μ[k]? with
      | none => rw [q] at p; exact p.elim
      | some o =>
        cases o with
        | lst ds =>
          rw [q] at p
          obtain ⟨us, g1, g2⟩ := r.ob k adr _ hk q
          exact .inl ⟨adr, us, rfl, .inl ⟨.of g1, post_tup p r g2⟩⟩
        | dct kvs => rw [q] at p; exact p.elim
    | tup t l => exact .inl ⟨_, _, rfl, .inr ⟨t.sq, post_here p r (.tup t l)⟩⟩
    | lst n t l => exact .inl ⟨_, _, rfl, .inl ⟨.of t, post_tup p r l⟩⟩
    | rol t l => exact .inl ⟨_, _, rfl, .inl ⟨t.sq, post_tup p r l⟩⟩
    | _ => exact p.elim
abbrev rList2 (K : PySem.W.Frag) : List V → Hp → VK → Prop := fun xs H Q => (∃ p ys, xs = [.ref p] ∧ (SqL K H p ys ∨ SqT K H p ys) ∧ ∀ l, H l = none → Q (.ref l) (upd H l (.lst ys))) ∨
  ∃ x : Str, xs = [.str x] ∧ x.cps.size ≤ sizeLine ∧ ∀ l, H l = none → Q (.ref l) (upd H l (.lst (x.cps.toList.map fun c => V.str ⟨#[c]⟩)))
theorem c_listS (hc : X.calm = true) : CallR X (.type "list") (fun xs H Q => ∃ x : Str, xs = [.str x] ∧ x.cps.size ≤ sizeLine ∧ ∀ l, H l = none → Q (.ref l) (upd H l (.lst (x.cps.toList.map fun c => V.str ⟨#[c]⟩)))) := by
  intro pins s σ H xs us Q I rv h
  obtain ⟨x, rfl, hz, q⟩ := h
  obtain ⟨u, rfl, rx⟩ := vals1 rv
  obtain ⟨t, rfl⟩ := rx
  refine call_list_str (I.ok.hd hc) x t (fun h' tk acc c' kp hS it => ?_) hz
  have v := signs_vals it
  have I2 : Inv X pins σ (upd H s.heap.objs.size (.lst (x.cps.toList.map fun c => V.str ⟨#[c]⟩))) { s with heap := h', toks := tk } :=
    I.laid (t' := tk) kp (Nat.le_refl _) ⟨by rw [List.length_map]; simpa using hz, acc.toList, c', v, hS⟩
  exact ⟨.ref s.heap.objs.size, _, I2, rfl, q _ (I.hok.fresh (Nat.le_refl _))⟩
theorem c_list (hc : X.calm = true) : CallR X (.type "list") (rList2 X.K) := call_list_of.or' (c_listS hc)
theorem ad_list : AdL K E gList (rList2 K) := fun w μ vs ds Q r h p => by
  match ds, h, p with
  | [], _, p => exact p.elim
  | _ :: _ :: _, .cons h1 (.cons h2 l), p => cases h1 <;> exact p.elim
  | [d], .cons h1 .nil, p =>
    cases h1 with
    | str x =>
      simp only [gList] at p
      by_cases hz : x.cps.size ≤ sizeLine
      · rw [if_pos hz] at p
        exact .inr ⟨x, rfl, hz, post_lst p r (hv_signs _)⟩
      · rw [if_neg hz] at p; exact p.elim
    | tup t l => exact .inl ⟨_, _, rfl, .inr t.sq, post_lst p r l⟩
    | lst n t l => exact .inl ⟨_, _, rfl, .inl (.of t), post_lst p r l⟩
    | rol t l => exact .inl ⟨_, _, rfl, .inl t.sq, post_lst p r l⟩
    | _ => exact p.elim
theorem ad_listM : AdL K E gListM (rList2 K) := fun w μ vs ds Q r h p => by
  match ds, h, p with
  | [], _, p => exact p.elim
  | _ :: _ :: _, .cons h1 (.cons h2 l), p => cases h1 <;> exact p.elim
  | [d], .cons h1 .nil, p =>
    cases h1 with
    | str x =>
      simp only [gListM] at p
      by_cases hz : x.cps.size ≤ sizeLine
      · rw [if_pos hz] at p
        exact .inr ⟨x, rfl, hz, post_mut p r (hv_signs _)⟩
      · rw [if_neg hz] at p; exact p.elim
    | tup t l => exact .inl ⟨_, _, rfl, .inr t.sq, post_mut p r l⟩
    | lst n t l => exact .inl ⟨_, _, rfl, .inl (.of t), post_mut p r l⟩
    | rol t l => exact .inl ⟨_, _, rfl, .inl t.sq, post_mut p r l⟩
    | _ => exact p.elim
/-- a built-in class as a value -/
theorem de_ty {e : Expr} {n : String} (h : PE X e (tC (.ty n))) : PE X e (tD X.K E (fC (.ty n))) := de_c h fun _ => .ty n
theorem de_cls {e : Expr} {C : Addr} (h : PE X e (tC (.ref C))) : PE X e (tD X.K E (fC (.cls C))) := de_c h fun _ => .cls C
end
end FL
/-! FL: methods, stores, dicts, sorted, f-strings. -/
namespace FL
open PySem PySem.Spec PyProof.Rows L2
set_option autoImplicit false

/-! ### methods of built-in types -/
abbrev GM := D → List D → Mu → Rs D
def tyOk (T : String) (μ : Mu) : D → Bool
  | .str _ => T == "str"
  | .lst _ => T == "list"
  | .ref k => match μ[k]? with
    | some (.lst _) => T == "list"
    | some (.dct _) => T == "dict"
    | none => false
  | _ => false
def fMeth (T : String) (g : GM) (F : FE) (Fs : FA) : FE := fun ρ μ => (F ρ μ).bind fun d μ1 => if tyOk T μ1 d = true then (Fs ρ μ1).bind fun ds μ2 => g d ds μ2 else .no
def AdM (K : PySem.W.Frag) (E : XK) (g : GM) (r : V → List V → Hp → VK → Prop) : Prop := ∀ (w : Wd) (μ : Mu) (x : V) (d : D) (vs : List V) (ds : List D) (Q : VK), Rep K w μ → Hv K w x d → HvL K w vs ds → Post K E (Hv K) w Q (g d ds μ) → r x vs w.H Q
theorem tyOk_v {K : PySem.W.Frag} {T : String} {w : Wd} {μ : Mu} {x : V} {d : D} (r : Rep K w μ) (h : Hv K w x d) (e : tyOk T μ d = true) : tyV K T x w.H := by
  cases h with
  | str y => exact beq_iff_eq.mp e
  | lst n t l => exact .inl ⟨beq_iff_eq.mp e, _, .of t⟩
  | @ref a k hk =>
    simp only [tyOk] at e
    cases q : μ[k]? with
    | none => rw [q] at e; cases e
    | some o =>
      cases o with
      | lst ds =>
        rw [q] at e
        obtain ⟨vs, g1, g2⟩ := r.ob k a _ hk q
        exact .inl ⟨beq_iff_eq.mp e, vs, .of g1⟩
      | dct kvs =>
        rw [q] at e
        obtain ⟨us, g1, g2⟩ := r.ob k a _ hk q
        exact .inr (.inr (.inl ⟨beq_iff_eq.mp e, .inl ⟨us, g1⟩⟩))
  | _ => cases e
theorem post_put {K : PySem.W.Frag} {E : XK} {w : Wd} {μ : Mu} {k : Nat} {a : Addr} {d : D} {v : V} {vs : List V} {ds : List D} {Q : VK} (p : Post K E (Hv K) w Q (.ok d (μ.set k (.lst ds)))) (r : Rep K w μ) (hk : w.loc[k]? = some a) (l : HvL K w vs ds) (h : Hv K w v d) : Q v (upd w.H a (.lst vs)) :=
  p v (w.new a (.lst vs)) (Ext.put hk) (r.put hk ⟨vs, upd_same, l.ext (Ext.put hk)⟩) (h.ext (Ext.put hk))
section
variable {X : Cx} {E : XK} {K : PySem.W.Frag} {o e : Expr} {es : List Expr} {name : Str} {apos cpos : Pos} {T id : String} {r : V → List V → Hp → VK → Prop} {g : GM} {Fo : FE} {Fs : FA}
theorem de_bm (pa : PlainAttrs T) (slot : Slot T name id) (hty : typeOf (.builtin id) = pure (.type "method_descriptor")) (hm : MtR X id r) (ad : AdM X.K E g r) (ho : PE X o (tD X.K E Fo)) (ha : PA X (e :: es) (tDa X.K E Fs))
    (hbase : attributeBase o name X.env (eval o X.env) = eval o X.env := by rfl)
    (hfew : ((backTo cpos (starEach (e :: es) X.env)).all (fun x => !x.1) && (backToKw cpos (keywordEach [] X.env)).all (fun x => x.1.isSome) && decide ((e :: es).length + ([] : List Keyword).length + (if ([] : List Keyword).isEmpty then 0 else 1) < 30)) = true := by rfl)
    (hline : (apos.endLine == cpos.line) = true := by rfl) (hs : starEach (e :: es) X.env = (false, eval e X.env) :: starEach es X.env := by rfl) (hplain : (backTo cpos (starEach es X.env)).any (·.1) = false := by rfl) :
    PE X (.Call (.Attribute o name apos) (e :: es) [] cpos) (tD X.K E (fMeth T g Fo Fs)) :=
  (pe_bm pa slot hty hm ho ha hbase hfew hline hs hplain).imp fun _ _ _ ⟨w, ρ, μ, hw, sr, p⟩ => ⟨w, ρ, μ, hw, sr, Post.thn p fun d μ1 x w1 e1 r1 h1 p1 => by
    by_cases ht : tyOk T μ1 d = true
    · rw [if_pos ht] at p1
      exact ⟨tyOk_v r1 h1 ht, w1, ρ, μ1, rfl, sr.ext e1 r1, Post.thn p1 fun ds μ2 vs w2 e2 r2 h2 p2 => ad w2 μ2 x d vs ds _ r2 (h1.ext e2) h2 p2⟩
    · rw [if_neg ht] at p1
      exact p1.elim⟩
theorem de_bm0 (pa : PlainAttrs T) (slot : Slot T name id) (hty : typeOf (.builtin id) = pure (.type "method_descriptor")) (hm : MtR X id r) (ad : AdM X.K E g r) (ho : PE X o (tD X.K E Fo))
    (hbase : attributeBase o name X.env (eval o X.env) = eval o X.env := by rfl) (hline : (apos.endLine == cpos.line) = true := by rfl) :
    PE X (.Call (.Attribute o name apos) [] [] cpos) (tD X.K E (fMeth T g Fo fNil)) :=
  (pe_bm0 pa slot hty hm ho hbase hline).imp fun _ _ _ ⟨w, ρ, μ, hw, sr, p⟩ => ⟨w, ρ, μ, hw, sr, Post.thn p fun d μ1 x w1 e1 r1 h1 p1 => by
    by_cases ht : tyOk T μ1 d = true
    · rw [if_pos ht] at p1
      exact ⟨tyOk_v r1 h1 ht, ad w1 μ1 x d [] [] _ r1 h1 .nil p1⟩
    · rw [if_neg ht] at p1
      exact p1.elim⟩
def gAppend : GM := fun d ds μ => match d, ds with
  | .ref k, [y] => match μ[k]? with
    | some (.lst xs) => if xs.length < sizeLine then .ok .non (μ.set k (.lst (xs ++ [y]))) else .no
    | _ => .no
  | _, _ => .no
def gExtend : GM := fun d ds μ => match d, ds with
  | .ref k, [.lst ys] => match μ[k]? with
    | some (.lst xs) => if xs.length + ys.length ≤ sizeLine then .ok .non (μ.set k (.lst (xs ++ ys))) else .no
    | _ => .no
  | _, _ => .no
def gPop : GM := fun d ds μ => match d, ds with
  | .ref k, [] => match μ[k]? with
    | some (.lst xs) => match xs[xs.length - 1]? with
      | some y => .ok y (μ.set k (.lst xs.dropLast))
      | none => .no
    | _ => .no
  | _, _ => .no
def gPopAt : GM := fun d ds μ => match d, ds with
  | .ref k, [.int i] => match μ[k]? with
    | some (.lst xs) => if 0 ≤ i ∧ i < 2 ^ 63 then (match xs[i.toNat]? with
      | some y => .ok y (μ.set k (.lst (xs.eraseIdx i.toNat)))
      | none => .no) else .no
    | _ => .no
  | _, _ => .no
def stL : List D → Option (List Str)
  | [] => some []
  | .str x :: ds => (stL ds).map fun xs => x :: xs
  | _ :: _ => none
def gJoin : GM := fun d ds μ => match d, ds with
  | .str a, [e] => match e.items.bind stL with
    | some ys => if (ys.map (·.length)).sum + ys.length * a.length ≤ 16777216 then .ok (.str (Txt.join a ys)) μ else .no
    | none => .no
  | _, _ => .no
def gSplit : GM := fun d ds μ => match d, ds with
  | .str a, [.str b] => if (b.length == 0) = false ∧ a.length + 2 ≤ sizeLine then .ok (.lst ((Txt.split a b).map .str)) μ else .no
  | _, _ => .no
def gPartition : GM := fun d ds μ => match d, ds with
  | .str a, [.str b] => if (b.length == 0) = false ∧ a.length ≤ sizeLine then .ok (.tup [.str (Txt.partition a b).1, .str (Txt.partition a b).2.1, .str (Txt.partition a b).2.2]) μ else .no
  | _, _ => .no
theorem stL_hv {w : Wd} : ∀ {vs : List V} {ds : List D} {xs : List Str}, HvL K w vs ds → stL ds = some xs → vs = xs.map V.str
  | _, _, _, .nil, e => by cases e; rfl
  | _, _, _, .cons (d := d) (ds := ds) h l, e => by
    cases h with
    | str x =>
      have e : (stL ds).map (fun xs => x :: xs) = some _ := e
      cases q : stL ds with
      | none => rw [q] at e; cases e
      | some xs => rw [q] at e; cases e; rw [stL_hv l q]; rfl
    | _ => cases e
theorem hv_strs {w : Wd} : ∀ xs : List Str, HvL K w (xs.map V.str) (xs.map D.str)
  | [] => .nil
  | x :: xs => .cons (.str x) (hv_strs xs)
theorem ad_append : AdM K E gAppend rAppend := fun w μ x d vs ds Q r h l p => by
  cases h with
  | @ref a k hk =>
    match ds, l, p with
    | [], _, p => exact p.elim
    | _ :: _ :: _, .cons h1 (.cons h2 l), p => exact p.elim
    | [y], .cons h1 .nil, p =>
      simp only [gAppend] at p
      cases q : μ[k]? with
      | none => rw [q] at p; exact p.elim
      | some o =>
        cases o with
        | dct kvs => rw [q] at p; exact p.elim
        | lst xs =>
          rw [q] at p
          obtain ⟨us, g1, g2⟩ := r.ob k a _ hk q
          by_cases hz : xs.length < sizeLine
          · simp only [if_pos hz] at p
            exact ⟨a, us, _, rfl, rfl, g1, by rw [g2.length]; exact hz, post_put p r hk (g2.append (.cons h1 .nil)) .non⟩
          · simp only [if_neg hz] at p; exact p.elim
  | _ => exact p.elim
theorem ad_extend : AdM K E gExtend rExtend := fun w μ x d vs ds Q r h l p => by
  cases h with
  | @ref a k hk =>
    match ds, l, p with
    | [.lst ys], .cons (.lst n t l) .nil, p =>
      simp only [gExtend] at p
      cases q : μ[k]? with
      | none => rw [q] at p; exact p.elim
      | some o =>
        cases o with
        | dct kvs => rw [q] at p; exact p.elim
        | lst xs =>
          rw [q] at p
          obtain ⟨us, g1, g2⟩ := r.ob k a _ hk q
          by_cases hz : xs.length + ys.length ≤ sizeLine
          · simp only [if_pos hz] at p
            exact ⟨a, _, us, _, rfl, rfl, g1, t, by rw [g2.length, l.length]; exact hz, post_put p r hk (g2.append l) .non⟩
          · simp only [if_neg hz] at p; exact p.elim
  | _ => exact p.elim
theorem HvL.dropLast {w : Wd} : ∀ {vs : List V} {ds : List D}, HvL K w vs ds → HvL K w vs.dropLast ds.dropLast
  | _, _, .nil => .nil
  | _, _, .cons _ .nil => .nil
  | _, _, .cons h (.cons h2 l) => .cons h (HvL.dropLast (.cons h2 l))
theorem HvL.eraseIdx {w : Wd} : ∀ {vs : List V} {ds : List D} (n : Nat), HvL K w vs ds → HvL K w (vs.eraseIdx n) (ds.eraseIdx n)
  | _, _, _, .nil => .nil
  | _, _, 0, .cons _ l => l
  | _, _, n + 1, .cons h l => .cons h (HvL.eraseIdx n l)
theorem ad_pop : AdM K E gPop rPop := fun w μ x d vs ds Q r h l p => by
  cases h with
  | @ref a k hk =>
    match ds, l, p with
    | _ :: _, .cons h1 l, p => exact p.elim
    | [], .nil, p =>
      simp only [gPop] at p
      cases q : μ[k]? with
      | none => rw [q] at p; exact p.elim
      | some o =>
        cases o with
        | dct kvs => rw [q] at p; exact p.elim
        | lst xs =>
          rw [q] at p
          obtain ⟨us, g1, g2⟩ := r.ob k a _ hk q
          cases q2 : xs[xs.length - 1]? with
          | none => simp only [q2] at p; exact p.elim
          | some y =>
            simp only [q2] at p
            obtain ⟨v, g3, g4⟩ := g2.get q2
            exact ⟨a, us, v, rfl, rfl, g1, by rw [g2.length]; exact g3, post_put p r hk g2.dropLast g4⟩
  | _ => exact p.elim
theorem ad_popAt : AdM K E gPopAt rPopAt := fun w μ x d vs ds Q r h l p => by
  cases h with
  | @ref a k hk =>
    match ds, l, p with
    | [.int i], .cons (.int _) .nil, p =>
      simp only [gPopAt] at p
      cases q : μ[k]? with
      | none => rw [q] at p; exact p.elim
      | some o =>
        cases o with
        | dct kvs => rw [q] at p; exact p.elim
        | lst xs =>
          rw [q] at p
          obtain ⟨us, g1, g2⟩ := r.ob k a _ hk q
          by_cases hz : 0 ≤ i ∧ i < 2 ^ 63
          · simp only [if_pos hz] at p
            cases q2 : xs[i.toNat]? with
            | none => simp only [q2] at p; exact p.elim
            | some y =>
              simp only [q2] at p
              obtain ⟨v, g3, g4⟩ := g2.get q2
              have hl : i.toNat < us.length := (List.getElem?_eq_some_iff.mp g3).1
              exact ⟨a, us, i, i.toNat, v, rfl, rfl, g1, by omega, hz.2, seqIndex_of hz.1 (by omega), g3, post_put p r hk (g2.eraseIdx _) g4⟩
          · simp only [if_neg hz] at p; exact p.elim
  | _ => exact p.elim
theorem ad_join : AdM K E gJoin (fun x xs H Q => ∃ a p, ∃ ys : List Str, x = .str a ∧ xs = [.ref p] ∧ (SqL K H p (ys.map V.str) ∨ SqT K H p (ys.map V.str)) ∧ (ys.map (·.length)).sum + ys.length * a.length ≤ 16777216 ∧ Q (.str (Txt.join a ys)) H) := fun w μ x d vs ds Q r h l p => by
  cases h with
  | str a =>
    match ds, l, p with
    | [], _, p => exact p.elim
    | _ :: _ :: _, .cons h1 (.cons h2 l), p => exact p.elim
    | [e], .cons h1 .nil, p =>
      simp only [gJoin] at p
      cases q : e.items with
      | none => rw [q] at p; exact p.elim
      | some xs =>
        rw [q] at p
        simp only [Option.bind_some] at p
        cases q2 : stL xs with
        | none => rw [q2] at p; exact p.elim
        | some ys =>
          rw [q2] at p
          simp only at p
          obtain ⟨adr, us, rfl, l, sq⟩ := h1.items q
          have e := stL_hv l q2
          subst e
          by_cases hz : (ys.map (·.length)).sum + ys.length * a.length ≤ 16777216
          · rw [if_pos hz] at p
            exact ⟨a, adr, ys, rfl, rfl, sq, hz, post_here p r (.str _)⟩
          · rw [if_neg hz] at p; exact p.elim
  | _ => cases l <;> exact p.elim
theorem ad_split : AdM K E gSplit (fun x xs H Q => ∃ a b, x = .str a ∧ xs = [.str b] ∧ (b.length == 0) = false ∧ a.length + 2 ≤ sizeLine ∧ rNewStrs (Txt.split a b) H Q) := fun w μ x d vs ds Q r h l p => by
  cases h with
  | str a =>
    match ds, l, p with
    | [.str b], .cons (.str _) .nil, p =>
      simp only [gSplit] at p
      by_cases hz : (b.length == 0) = false ∧ a.length + 2 ≤ sizeLine
      · rw [if_pos hz] at p
        exact ⟨a, b, rfl, rfl, hz.1, hz.2, post_lst p r (hv_strs _)⟩
      · rw [if_neg hz] at p; exact p.elim
  | _ => cases l <;> exact p.elim
theorem ad_partition : AdM K E gPartition (fun x xs H Q => ∃ a b, x = .str a ∧ xs = [.str b] ∧ (b.length == 0) = false ∧ a.length ≤ sizeLine ∧ ∀ p, H p = none → Q (.ref p) (upd H p (.tup [.str (Txt.partition a b).1, .str (Txt.partition a b).2.1, .str (Txt.partition a b).2.2]))) := fun w μ x d vs ds Q r h l p => by
  cases h with
  | str a =>
    match ds, l, p with
    | [.str b], .cons (.str _) .nil, p =>
      simp only [gPartition] at p
      by_cases hz : (b.length == 0) = false ∧ a.length ≤ sizeLine
      · rw [if_pos hz] at p
        exact ⟨a, b, rfl, rfl, hz.1, hz.2, post_tup p r (.cons (.str _) (.cons (.str _) (.cons (.str _) .nil)))⟩
      · rw [if_neg hz] at p; exact p.elim
  | _ => cases l <;> exact p.elim
end

/-! ### an item stored -/
def gPutL (d i v : D) (μ : Mu) : Option Mu := match d, i with
  | .ref k, .int j => match μ[k]? with
    | some (.lst xs) => match ixN xs.length j with
      | some n => some (μ.set k (.lst (xs.set n v)))
      | none => none
    | _ => none
  | _, _ => none
def gStoreL (Fv Fo Fi : FE) : FS := fun ρ μ => (Fv ρ μ).bind fun v μ1 => (Fo ρ μ1).bind fun o μ2 => (Fi ρ μ2).bind fun i μ3 => match gPutL o i v μ3 with
  | some μ4 => .ok (.nx ρ) μ4
  | none => .no
section
variable {X : Cx} {E : XK} {o i e : Expr} {pos pos' : Pos} {Fo Fi Fv : FE}
theorem d_storeL (he : PE X e (tD X.K E Fv)) (ho : PE X o (tD X.K E Fo)) (hi : PE X i (tD X.K E Fi))
    (ha : ∀ v, assign (.Subscript o i pos') X.env v = (do
      let ov ← holding [v] (eval o X.env)
      let iv ← holding [v, ov] (eval i X.env)
      standAt pos'
      holding [v, ov, iv] (setItem ov iv v)
      release [v, ov, iv] []) := by intro _; rfl) (hs : swapsWithSole [.Subscript o i pos'] e pos.line X.env = pure false := by rfl) (hw : swappedStores [.Subscript o i pos'] e X.env = pure none := by rfl)
    (h1 : (assignEach [.Subscript o i pos'] X.env).map (·.2) = [assign (.Subscript o i pos') X.env] := by rfl) : PS X (.Assign [.Subscript o i pos'] e pos) (tS X.K E (gStoreL Fv Fo Fi)) :=
  (ps_asg he (pg_sub ho hi set_list ha) hs hw h1).imp fun Z σ H ⟨w, ρ, μ, hw, sr, p⟩ => ⟨w, ρ, μ, hw, sr, PostS.thn p fun dv μ1 v w1 e1 r1 h1 p1 =>
    ⟨w1, ρ, μ1, rfl, sr.ext e1 r1, PostS.thn p1 fun d μ2 x w2 e2 r2 h2 p2 => ⟨w2, ρ, μ2, rfl, (sr.ext e1 r1).ext e2 r2, PostS.thn p2 fun di μ3 y w3 e3 r3 h3 p3 => by
      have hv := (h1.ext e2).ext e3
      have ho := h2.ext e3
      have sr3 := ((sr.ext e1 r1).ext e2 r2).ext e3 r3
      unfold gPutL at p3
      cases ho with
      | @ref a k hk =>
        cases h3 with
        | int j =>
          cases q : μ3[k]? with
          | none => simp only [q] at p3; exact p3.elim
          | some ob =>
            cases ob with
            | dct kvs => simp only [q] at p3; exact p3.elim
            | lst xs =>
              simp only [q] at p3
              obtain ⟨us, g1, g2⟩ := r3.ob k a _ hk q
              cases q2 : ixN xs.length j with
              | none => simp only [q2] at p3; exact p3.elim
              | some n =>
                simp only [q2] at p3
                refine ⟨a, us, j, n, rfl, rfl, g1, by rw [g2.length]; exact q2, ?_⟩
                exact p3 σ (w3.new a (.lst (us.set n v))) (Ext.put hk) (sr3.ext (Ext.put hk) (r3.put hk ⟨_, upd_same, (g2.set n hv).ext (Ext.put hk)⟩))
        | _ => exact p3.elim
      | _ => exact p3.elim⟩⟩⟩
end

/-! ### dicts -/
def D.key : D → Option Key
  | .int i => some (.inl i)
  | .str x => some (.inr x)
  | _ => none
def valD (kvs : List (Key × D)) (k : Key) : Option D := (kvs.find? fun kv => decide (kv.1 = k)).map (·.2)
def putD (kvs : List (Key × D)) (k : Key) (v : D) : List (Key × D) := if (kvs.any fun kv => decide (kv.1 = k)) = true then kvs.map (fun kv => if kv.1 = k then (kv.1, v) else kv) else kvs ++ [(k, v)]
section
variable {K : PySem.W.Frag} {w : Wd}
theorem Hv.key {v : V} {d : D} {k : Key} (h : Hv K w v d) (e : d.key = some k) : v = kV k := by
  cases h with
  | int i => cases e; rfl
  | str x => cases e; rfl
  | _ => cases e
theorem HvD.val : ∀ {us : List (Key × V)} {kvs : List (Key × D)} {k : Key} {d : D}, HvD K w us kvs → valD kvs k = some d → ∃ v, valV us k = some v ∧ Hv K w v d
  | _, _, _, _, .nil, e => by cases e
  | _, _, k, d, .cons (k := k') (v := v) (d := d') (us := us) (kvs := kvs) h l, e => by
    unfold valD at e
    unfold valV
    rw [List.find?_cons] at e ⊢
    by_cases hk : k' = k
    · simp only [hk, decide_true, Option.map_some, Option.some.injEq] at e ⊢
      exact ⟨v, rfl, e ▸ h⟩
    · simp only [hk, decide_false] at e ⊢
      exact HvD.val l e
theorem HvD.any {k : Key} : ∀ {us : List (Key × V)} {kvs : List (Key × D)}, HvD K w us kvs → (us.any fun kv => decide (kv.1 = k)) = kvs.any fun kv => decide (kv.1 = k)
  | _, _, .nil => rfl
  | _, _, .cons h l => by rw [List.any_cons, List.any_cons, HvD.any l]
theorem HvD.over {k : Key} {v : V} {d : D} (hv : Hv K w v d) : ∀ {us : List (Key × V)} {kvs : List (Key × D)}, HvD K w us kvs → HvD K w (us.map fun kv => if kv.1 = k then (kv.1, v) else kv) (kvs.map fun kv => if kv.1 = k then (kv.1, d) else kv)
  | _, _, .nil => .nil
  | _, _, .cons (k := k') h l => by
    rw [List.map_cons, List.map_cons]
    by_cases e : k' = k
    · simp only [e, if_true]
      exact .cons hv (HvD.over hv l)
    · simp only [e, if_false]
      exact .cons h (HvD.over hv l)
theorem HvD.append : ∀ {us ws : List (Key × V)} {kvs lvs : List (Key × D)}, HvD K w us kvs → HvD K w ws lvs → HvD K w (us ++ ws) (kvs ++ lvs)
  | _, _, _, _, .nil, l => l
  | _, _, _, _, .cons h t, l => .cons h (HvD.append t l)
theorem HvD.put {k : Key} {v : V} {d : D} (hv : Hv K w v d) {us : List (Key × V)} {kvs : List (Key × D)} (l : HvD K w us kvs) : HvD K w (putK us k v) (putD kvs k d) := by
  unfold putK putD
  rw [l.any]
  split
  · exact l.over hv
  · exact l.append (.cons hv .nil)
theorem HvD.length : ∀ {us : List (Key × V)} {kvs : List (Key × D)}, HvD K w us kvs → us.length = kvs.length
  | _, _, .nil => rfl
  | _, _, .cons _ l => congrArg (· + 1) (HvD.length l)
theorem HvD.keys : ∀ {us : List (Key × V)} {kvs : List (Key × D)}, HvD K w us kvs → us.map (·.1) = kvs.map (·.1)
  | _, _, .nil => rfl
  | _, _, .cons _ l => by rw [List.map_cons, List.map_cons, HvD.keys l]
end
/-- a dict's pairs -/
def D.pairs (μ : Mu) : D → Option (List (Key × D))
  | .dct kvs => some kvs
  | .ref k => match μ[k]? with
    | some (.dct kvs) => some kvs
    | _ => none
  | _ => none
theorem Hv.pairs {K : PySem.W.Frag} {w : Wd} {μ : Mu} {x : V} {d : D} {kvs : List (Key × D)} (r : Rep K w μ) (h : Hv K w x d) (e : d.pairs μ = some kvs) : ∃ a us, x = .ref a ∧ Rd w.H a (.dK us) ∧ HvD K w us kvs := by
  cases h with
  | dct n t l => cases e; exact ⟨_, _, rfl, t, l⟩
  | @ref a k hk =>
    simp only [D.pairs] at e
    cases q : μ[k]? with
    | none => rw [q] at e; cases e
    | some o =>
      cases o with
      | lst ds => rw [q] at e; cases e
      | dct lvs =>
        rw [q] at e
        cases e
        obtain ⟨us, g1, g2⟩ := r.ob k a _ hk q
        exact ⟨a, us, rfl, .inl g1, g2⟩
  | _ => cases e
def gDGet : G2 := fun a b μ => match a.pairs μ, b.key with
  | some kvs, some k => match valD kvs k with
    | some d => .ok d μ
    | none => .no
  | _, _ => .no
def fDNew : FE := fun _ μ => .ok (.dct []) μ
def fDNewM : FE := fun _ μ => .ok (.ref μ.length) (μ ++ [.dct []])
def gStoreD (Fv Fo Fi : FE) : FS := fun ρ μ => (Fv ρ μ).bind fun v μ1 => (Fo ρ μ1).bind fun o μ2 => (Fi ρ μ2).bind fun i μ3 => match o, i.key with
  | .ref k, some y => match μ3[k]? with
    | some (.dct kvs) => if kvs.length < sizeLine then .ok (.nx ρ) (μ3.set k (.dct (putD kvs y v))) else .no
    | _ => .no
  | _, _ => .no
section
variable {X : Cx} {E : XK} {o i e : Expr} {pos pos' : Pos} {Fo Fi Fv : FE}
theorem de_dget (hu : X.A.units + 1 < cLine) (ho : PE X o (tD X.K E Fo)) (hi : PE X i (tD X.K E Fi)) (hs : NoSl i := by exact fun _ _ => rfl) : PE X (.Subscript o i pos) (tD X.K E (fBin gDGet Fo Fi)) :=
  (pe_dget hu ho hi hs).imp fun σ H Q ⟨w, ρ, μ, hw, sr, p⟩ => ⟨w, ρ, μ, hw, sr, Post.thn p fun a μ1 x w1 e1 r1 h1 p1 => ⟨w1, ρ, μ1, rfl, sr.ext e1 r1, Post.thn p1 fun b μ2 y w2 e2 r2 h2 p2 => by
    unfold gDGet at p2
    cases q : a.pairs μ2 with
    | none => rw [q] at p2; exact p2.elim
    | some kvs =>
      cases q2 : b.key with
      | none => rw [q, q2] at p2; exact p2.elim
      | some k =>
        rw [q, q2] at p2
        simp only at p2
        cases q3 : valD kvs k with
        | none => rw [q3] at p2; exact p2.elim
        | some d =>
          rw [q3] at p2
          obtain ⟨adr, us, rfl, g1, g2⟩ := Hv.pairs r2 (h1.ext e2) q
          obtain ⟨v, g3, g4⟩ := g2.val q3
          exact ⟨adr, v, rfl, .inl ⟨us, k, g1, h2.key q2, g3.symm⟩, post_here p2 r2 g4⟩⟩⟩
theorem de_dnew : PE X (.Dict [] [] pos) (tD X.K E fDNew) := pe_dnewK.imp fun σ H Q ⟨w, ρ, μ, hw, sr, p⟩ => by
  subst hw
  exact fun q hq => p _ (w.new q (.dK [])) (Ext.new hq) (sr.rep.new hq) (new_dct sr.rep hq .nil)
theorem de_dnewM : PE X (.Dict [] [] pos) (tD X.K E fDNewM) := pe_dnewK.imp fun σ H Q ⟨w, ρ, μ, hw, sr, p⟩ => by
  subst hw
  exact fun q hq => p _ (w.add q (.dK [])) (Ext.add hq) (sr.rep.add hq ⟨[], upd_same, .nil⟩) (new_mut sr.rep)
theorem d_storeD (hu : X.A.units + 1 < cLine) (he : PE X e (tD X.K E Fv)) (ho : PE X o (tD X.K E Fo)) (hi : PE X i (tD X.K E Fi)) (hs : swapsWith e (some (.Subscript o i pos')) pos.line X.env = pure false := by rfl) : PS X (.Assign [.Subscript o i pos'] e pos) (tS X.K E (gStoreD Fv Fo Fi)) :=
  (ps_dput hu ho hi he hs).imp fun Z σ H ⟨w, ρ, μ, hw, sr, p⟩ => ⟨w, ρ, μ, hw, sr, PostS.thn p fun dv μ1 v w1 e1 r1 h1 p1 =>
    ⟨w1, ρ, μ1, rfl, sr.ext e1 r1, PostS.thn p1 fun d μ2 x w2 e2 r2 h2 p2 => ⟨w2, ρ, μ2, rfl, (sr.ext e1 r1).ext e2 r2, PostS.thn p2 fun di μ3 y w3 e3 r3 h3 p3 => by
      have hv := (h1.ext e2).ext e3
      have ho := h2.ext e3
      have sr3 := ((sr.ext e1 r1).ext e2 r2).ext e3 r3
      cases ho with
      | @ref a k hk =>
        cases q0 : di.key with
        | none => simp only [q0] at p3; exact p3.elim
        | some ky =>
          simp only [q0] at p3
          cases q : μ3[k]? with
          | none => simp only [q] at p3; exact p3.elim
          | some ob =>
            cases ob with
            | lst xs => simp only [q] at p3; exact p3.elim
            | dct kvs =>
              simp only [q] at p3
              obtain ⟨us, g1, g2⟩ := r3.ob k a _ hk q
              by_cases hz : kvs.length < sizeLine
              · rw [if_pos hz] at p3
                refine ⟨a, _, rfl, .inl ⟨us, ky, g1, h3.key q0, by rw [g2.length]; exact hz, rfl⟩, ?_⟩
                exact p3 σ (w3.new a (.dK (putK us ky v))) (Ext.put hk) (sr3.ext (Ext.put hk) (r3.put hk ⟨_, upd_same, (g2.put hv).ext (Ext.put hk)⟩))
              · rw [if_neg hz] at p3; exact p3.elim
      | _ => exact p3.elim⟩⟩⟩
end

/-! ### sorted -/
def inL : List D → Option (List Int)
  | [] => some []
  | .int i :: ds => (inL ds).map fun xs => i :: xs
  | _ :: _ => none
def leS (x y : Str) : Bool := !ltCps y.cps.toList x.cps.toList
def keyS : List Key → Option (List Str)
  | [] => some []
  | .inr x :: ks => (keyS ks).map fun xs => x :: xs
  | .inl _ :: _ => none
def gSorted : GL := fun ds μ => match ds with
  | [.lst xs] => match inL xs with
    | some ns => .ok (.lst ((ns.mergeSort fun i j => decide (i ≤ j)).map .int)) μ
    | none => match stL xs with
      | some ys => if ys.length < 64 then .ok (.lst ((ys.mergeSort leS).map .str)) μ else .no
      | none => .no
  | [d] => match (d.pairs μ).bind fun kvs => keyS (kvs.map (·.1)) with
    | some ys => if ys.length < 64 then .ok (.lst ((ys.mergeSort leS).map .str)) μ else .no
    | none => .no
  | _ => .no
end FL
/-! FL: sorted, f-strings, an iterable's item list. -/
namespace FL
open PySem PySem.Spec PyProof.Rows L2
set_option autoImplicit false

theorem leS_iff (x y : Str) : leS x y = true ↔ x.cps.toList ≤ y.cps.toList := by
  unfold leS
  rw [ltCps_eq]
  simp [List.not_lt]
theorem leS_trans (a b c : Str) (h1 : leS a b = true) (h2 : leS b c = true) : leS a c = true := (leS_iff _ _).mpr (List.le_trans ((leS_iff _ _).mp h1) ((leS_iff _ _).mp h2))
theorem leS_total (a b : Str) : (leS a b || leS b a) = true := by
  rcases List.le_total a.cps.toList b.cps.toList with h | h
  · rw [(leS_iff a b).mpr h]; rfl
  · rw [(leS_iff b a).mpr h, Bool.or_true]
theorem str_ext {a b : Str} (h : a.cps.toList = b.cps.toList) : a = b := by
  obtain ⟨x⟩ := a
  obtain ⟨y⟩ := b
  have e : x = y := Array.ext' h
  rw [e]
theorem leS_anti (a b : Str) (h1 : leS a b = true) (h2 : leS b a = true) : a = b := str_ext (List.le_antisymm ((leS_iff _ _).mp h1) ((leS_iff _ _).mp h2))
theorem rising_pw : ∀ (p : Str) (ss : List Str), risingS p ss = true → (p :: ss).Pairwise (fun a b => leS a b = true)
  | p, [], _ => List.pairwise_singleton _ _
  | p, x :: r, h => by
    obtain ⟨h1, h2⟩ := Bool.and_eq_true_iff.mp (show (!ltCps x.cps.toList p.cps.toList && risingS x r) = true from h)
    have ih := rising_pw x r h2
    refine List.pairwise_cons.mpr ⟨fun y hy => ?_, ih⟩
    rcases List.mem_cons.mp hy with rfl | hy
    · exact h1
    · exact leS_trans p x y h1 ((List.pairwise_cons.mp ih).1 y hy)
theorem sorted_strs {ys xs : List Str} (h : ys.Perm xs) (s : sortedS ys = true) : ys = xs.mergeSort leS := by
  refine List.Perm.eq_of_pairwise (le := fun a b => leS a b = true) (fun a b _ _ => leS_anti a b) ?_ (List.pairwise_mergeSort leS_trans leS_total xs) (h.trans (List.mergeSort_perm xs leS).symm)
  cases ys with
  | nil => exact .nil
  | cons p r => exact rising_pw p r s
theorem sorted_ints {ys xs : List Int} (h : ys.Perm xs) (s : ys.Pairwise (· ≤ ·)) : ys = xs.mergeSort fun i j => decide (i ≤ j) := by
  refine List.Perm.eq_of_pairwise (le := fun a b => decide (a ≤ b) = true) (fun a b _ _ h1 h2 => ?_) (s.imp fun h => decide_eq_true h) (List.pairwise_mergeSort (fun a b c h1 h2 => ?_) (fun a b => ?_) xs) (h.trans (List.mergeSort_perm xs _).symm)
  · have h1 := of_decide_eq_true h1
    have h2 := of_decide_eq_true h2
    omega
  · have h1 := of_decide_eq_true h1
    have h2 := of_decide_eq_true h2
    exact decide_eq_true (by omega)
  · by_cases h : a ≤ b
    · simp [h]
    · have : b ≤ a := by omega
      simp [this]
abbrev rSort3 (K : PySem.W.Frag) : List V → Hp → VK → Prop := fun vs H Q => rSortedI K vs H Q ∨ rSortedS K vs H Q ∨ ∃ (a : Addr) (kvs : List (Key × V)) (ks : List Str), vs = [.ref a] ∧ Rd H a (.dK kvs) ∧ kvs.map (·.1) = ks.map Sum.inr ∧ ks.length < 64 ∧
  ∀ ys p, ys.Perm ks → sortedS ys = true → H p = none → Q (.ref p) (upd H p (.lst (ys.map V.str)))
section
variable {K : PySem.W.Frag} {E : XK} {X : Cx}
theorem c_sorted (hc : X.calm = true) : CallR X (.builtin "sorted") (rSort3 X.K) := cr_sortedI.or' (cr_sortedS.or' (call_sortedD hc))
theorem inL_hv {w : Wd} : ∀ {vs : List V} {ds : List D} {xs : List Int}, HvL K w vs ds → inL ds = some xs → vs = xs.map V.int
  | _, _, _, .nil, e => by cases e; rfl
  | _, _, _, .cons (d := d) (ds := ds) h l, e => by
    cases h with
    | int x =>
      have e : (inL ds).map (fun xs => x :: xs) = some _ := e
      cases q : inL ds with
      | none => rw [q] at e; cases e
      | some xs => rw [q] at e; cases e; rw [inL_hv l q]; rfl
    | _ => cases e
theorem hv_ints {w : Wd} : ∀ xs : List Int, HvL K w (xs.map V.int) (xs.map D.int)
  | [] => .nil
  | x :: xs => .cons (.int x) (hv_ints xs)
theorem keyS_eq : ∀ {ks : List Key} {xs : List Str}, keyS ks = some xs → ks = xs.map Sum.inr
  | [], _, e => by cases e; rfl
  | .inr x :: ks, _, e => by
    have e : (keyS ks).map (fun xs => x :: xs) = some _ := e
    cases q : keyS ks with
    | none => rw [q] at e; cases e
    | some xs => rw [q] at e; cases e; rw [keyS_eq q]; rfl
  | .inl _ :: _, _, e => by cases e
theorem ad_sorted : AdL K E gSorted (rSort3 K) := fun w μ vs ds Q r h p => by
  match ds, h, p with
  | [], _, p => exact p.elim
  | _ :: _ :: _, .cons h1 (.cons h2 l), p => cases h1 <;> exact p.elim
  | [d], .cons h1 .nil, p =>
    have dict : ∀ x : V, Hv K w x d → Post K E (Hv K) w Q (match (d.pairs μ).bind fun kvs => keyS (kvs.map (·.1)) with
      | some ys => if ys.length < 64 then .ok (.lst ((ys.mergeSort leS).map .str)) μ else .no
      | none => .no) → rSort3 K [x] w.H Q := fun x h1 p => by
      cases q : d.pairs μ with
      | none => rw [q] at p; exact p.elim
      | some kvs =>
        rw [q] at p
        simp only [Option.bind_some] at p
        cases q2 : keyS (kvs.map (·.1)) with
        | none => rw [q2] at p; exact p.elim
        | some ys =>
          rw [q2] at p
          simp only at p
          obtain ⟨a, us, rfl, g1, g2⟩ := Hv.pairs r h1 q
          by_cases hz : ys.length < 64
          · rw [if_pos hz] at p
            refine .inr (.inr ⟨a, us, ys, rfl, g1, by rw [g2.keys, keyS_eq q2], hz, fun zs q hp hs hq => ?_⟩)
            rw [sorted_strs hp hs]
            exact post_lst p r (hv_strs _) q hq
          · rw [if_neg hz] at p; exact p.elim
    cases h1 with
    | @lst a us xs n t l =>
      simp only [gSorted] at p
      cases q : inL xs with
      | some ns =>
        rw [q] at p
        have e := inL_hv l q
        subst e
        refine .inl ⟨a, ns, rfl, .of t, fun zs q hp hs hq => ?_⟩
        rw [sorted_ints hp hs]
        exact post_lst p r (hv_ints _) q hq
      | none =>
        rw [q] at p
        simp only at p
        cases q2 : stL xs with
        | none => rw [q2] at p; exact p.elim
        | some ys =>
          rw [q2] at p
          simp only at p
          have e := stL_hv l q2
          subst e
          by_cases hz : ys.length < 64
          · rw [if_pos hz] at p
            refine .inr (.inl ⟨a, ys, rfl, .of t, hz, fun zs q hp hs hq => ?_⟩)
            rw [sorted_strs hp hs]
            exact post_lst p r (hv_strs _) q hq
          · rw [if_neg hz] at p; exact p.elim
    | dct n t l => exact dict _ (.dct n t l) p
    | ref hk => exact dict _ (.ref hk) p
    | _ => exact p.elim
end

/-! ### f-strings -/
def fFmt (F : FE) : FE := fun ρ μ => (F ρ μ).bind fun d μ => match d with
  | .str y => if y.length ≤ sizeLine then .ok (.str y) μ else .no
  | .int i => if i.natAbs.log2 < 1920 then .ok (.str (toString i)) μ else .no
  | _ => .no
def fJs : List FE → Str → FE
  | [], acc => fun _ μ => .ok (.str acc) μ
  | F :: Fs, acc => fun ρ μ => (F ρ μ).bind fun d μ1 => match d with
    | .str y => if (acc ++ y).length ≤ sizeLine then fJs Fs (acc ++ y) ρ μ1 else .no
    | _ => .no
section
variable {X : Cx} {E : XK} {e : Expr} {pos : Pos} {F : FE}
theorem de_fmt (he : PE X e (tD X.K E F)) : PE X (.FormattedValue e (-1) none pos) (tD X.K E (fFmt F)) := (pe_fmt he).imp fun σ H Q ⟨w, ρ, μ, hw, sr, p⟩ => ⟨w, ρ, μ, hw, sr, Post.thn p fun d μ1 x w1 e1 r1 h1 p1 => by
  cases h1 with
  | str y =>
    simp only at p1
    by_cases hz : y.length ≤ sizeLine
    · rw [if_pos hz] at p1
      exact .inl ⟨y, rfl, hz, post_here p1 r1 (.str _)⟩
    · rw [if_neg hz] at p1; exact p1.elim
  | int i =>
    simp only at p1
    by_cases hz : i.natAbs.log2 < 1920
    · rw [if_pos hz] at p1
      exact .inr ⟨i, rfl, hz, post_here p1 r1 (.str _)⟩
    · rw [if_neg hz] at p1; exact p1.elim
  | _ => exact p1.elim⟩
/-- the parts -/
inductive DJ (X : Cx) (E : XK) : List Expr → List FE → Prop where
  | nil : DJ X E [] []
  | cons {e : Expr} {F : FE} {es : List Expr} {Fs : List FE} (h : PE X e (tD X.K E F)) (r : DJ X E es Fs) : DJ X E (e :: es) (F :: Fs)
theorem dj_pj : ∀ {es : List Expr} {Fs : List FE}, DJ X E es Fs → PJ X es (Fs.map fun F => tD X.K E F)
  | _, _, .nil => .nil
  | _, _, .cons h r => .cons h (dj_pj r)
theorem js_use {K : PySem.W.Frag} {σ : L2.St} {Q : VK} : ∀ (Fs : List FE) (acc : Str) (w : Wd) (ρ : Rho) (μ : Mu), SR K σ w ρ μ → Post K E (Hv K) w Q (fJs Fs acc ρ μ) → tJs (Fs.map fun F => tD K E F) acc σ w.H (fun out H1 => Q (.str out) H1)
  | [], acc, w, ρ, μ, sr, p => post_here p sr.rep (.str _)
  | F :: Fs, acc, w, ρ, μ, sr, p => ⟨w, ρ, μ, rfl, sr, Post.thn p fun d μ1 x w1 e1 r1 h1 p1 => by
    cases h1 with
    | str y =>
      simp only at p1
      by_cases hz : (acc ++ y).length ≤ sizeLine
      · rw [if_pos hz] at p1
        exact ⟨y, rfl, hz, js_use Fs (acc ++ y) w1 ρ μ1 (sr.ext e1 r1) p1⟩
      · rw [if_neg hz] at p1; exact p1.elim
    | _ => exact p1.elim⟩
theorem de_joined {v1 v2 : Expr} {rest : List Expr} {Fs : List FE} (h : DJ X E (v1 :: v2 :: rest) Fs) : PE X (.JoinedStr (v1 :: v2 :: rest) pos) (tD X.K E (fJs Fs Str.empty)) := (pe_joined (dj_pj h)).imp fun σ H Q ⟨w, ρ, μ, hw, sr, p⟩ => by
  subst hw
  exact js_use Fs Str.empty w ρ μ sr p
end
end FL
/-! FL: stars in displays, x += e, branches that are never run, ==, constants of the module. -/
namespace FL
open PySem PySem.Spec PyProof.Rows L2
set_option autoImplicit false

def fStar (F : FE) (Fs : FA) : FA := fun ρ μ => (F ρ μ).bind fun d μ1 => match d.items with
  | some xs => (Fs ρ μ1).bind fun ys μ2 => .ok (xs ++ ys) μ2
  | none => match d with
    | .ref k => match μ1[k]? with
      | some (.lst xs) => (Fs ρ μ1).bind fun ys μ2 => .ok (xs ++ ys) μ2
      | _ => .no
    | _ => .no
def gNo : FS := fun _ _ => .no
def gAug (i : Nat) (F : FE) : FS := fun ρ μ => match ρ[i]? with
  | some (some a) => (F ρ μ).bind fun b μ1 => match a, b with
    | .int x, .int y => .ok (.nx (ρ.set i (some (.int (x + y))))) μ1
    | .str x, .str y => if x.length + y.length ≤ sizeLine then .ok (.nx (ρ.set i (some (.str (x ++ y))))) μ1 else .no
    | _, _ => .no
  | _ => .no
section
variable {X : Cx} {E : XK} {e : Expr} {es : List Expr} {p pos pos' : Pos} {F : FE} {Fs : FA} {x : Str}
theorem da_star (he : PE X e (tD X.K E F)) (hr : PA X es (tDa X.K E Fs)) (hs : starEach (.Starred e p :: es) X.env = (true, eval e X.env) :: starEach es X.env := by rfl) : PA X (.Starred e p :: es) (tDa X.K E (fStar F Fs)) :=
  (StX.pa_star he hr hs).imp fun σ H Q ⟨w, ρ, μ, hw, sr, q⟩ => ⟨w, ρ, μ, hw, sr, Post.thn q fun d μ1 v w1 e1 r1 h1 q1 => by
    cases z : d.items with
    | some xs =>
      rw [z] at q1
      obtain ⟨a, vs, rfl, l, sq⟩ := h1.items z
      exact ⟨a, vs, rfl, sq.symm, w1, ρ, μ1, rfl, sr.ext e1 r1, Post.thn q1 fun ys μ2 us w2 e2 r2 h2 q2 => post_here q2 r2 ((l.ext e2).append h2)⟩
    | none =>
      rw [z] at q1
      cases h1 with
      | @ref a k hk =>
        simp only at q1
        cases z2 : μ1[k]? with
        | none => rw [z2] at q1; exact q1.elim
        | some o =>
          cases o with
          | dct kvs => rw [z2] at q1; exact q1.elim
          | lst xs =>
            rw [z2] at q1
            obtain ⟨vs, g1, g2⟩ := r1.ob k a _ hk z2
            exact ⟨a, vs, rfl, .inr (.of g1), w1, ρ, μ1, rfl, sr.ext e1 r1, Post.thn q1 fun ys μ2 us w2 e2 r2 h2 q2 => post_here q2 r2 ((g2.ext e2).append h2)⟩
      | _ => exact q1.elim⟩
theorem d_never {st : Stmt} : PS X st (tS X.K E gNo) := ps_never.imp fun Z σ H ⟨w, ρ, μ, hw, sr, p⟩ => p
abbrev rAug : TIp := fun x y H Q => (∃ i j, x = .int i ∧ y = .int j ∧ Q (.int (i + j)) H) ∨ ∃ i j, x = .str i ∧ y = .str j ∧ i.length + j.length ≤ sizeLine ∧ Q (.str (i ++ j)) H
theorem p_aug : PIp X .Add rAug := fun pins s σ H x y v u Q I r1 r2 h => h.elim (iop_add pins s σ H x y v u Q I r1 r2) (iop_add_str pins s σ H x y v u Q I r1 r2)
theorem d_aug {i : Nat} (hN : X.N.Nodup) (hi : X.N[i]? = some x) (hx : Loc X.env.scope x) (he : PE X e (tD X.K E F)) (hf : X.fn x = true ∨ X.env.scope.names.lookup x = some .local := by first | exact .inl rfl | exact .inr rfl) : PS X (.AugAssign (.Name x pos') .Add e pos) (tS X.K E (gAug i F)) :=
  (ps_aug hN hi hx he p_aug hf).imp fun Z σ H ⟨w, ρ, μ, hw, sr, q⟩ => by
    unfold gAug at q
    cases z : ρ[i]? with
    | none => rw [z] at q; exact q.elim
    | some o =>
      cases o with
      | none => rw [z] at q; exact q.elim
      | some a =>
        rw [z] at q
        obtain ⟨v, g1, g2⟩ := sr.env i a z
        refine ⟨v, g1, w, ρ, μ, hw, sr, PostS.thn q fun b μ1 u w1 e1 r1 h1 q1 => ?_⟩
        have g2 := g2.ext e1
        have sr1 := sr.ext e1 r1
        cases g2 with
        | int k =>
          cases h1 with
          | int j => exact .inl ⟨k, j, rfl, rfl, q1 _ w1 (Ext.refl _) (sr1.set i (.int _))⟩
          | _ => exact q1.elim
        | str k =>
          cases h1 with
          | str j =>
            simp only at q1
            by_cases hz : k.length + j.length ≤ sizeLine
            · rw [if_pos hz] at q1
              exact .inr ⟨k, j, rfl, rfl, hz, q1 _ w1 (Ext.refl _) (sr1.set i (.str _))⟩
            · rw [if_neg hz] at q1; exact q1.elim
          | _ => exact q1.elim
        | _ => cases h1 <;> exact q1.elim
/-! constants of the module -/
theorem de_gint {v : Int} {t : Tok} (hg : Gl X x) (hm : X.mg x = some (.int v t)) (hd : (x == ("__debug__" : Str)) = false := by decide) : PE X (.Name x pos) (tD X.K E (fC (.int v))) := de_c (v := .int v) (pe_glob hg hm ⟨t, rfl⟩ hd) fun _ => .int v
theorem de_gstr {v : Str} {t : Tok} (hg : Gl X x) (hm : X.mg x = some (.str v t)) (hd : (x == ("__debug__" : Str)) = false := by decide) : PE X (.Name x pos) (tD X.K E (fC (.str v))) := de_c (v := .str v) (pe_glob hg hm ⟨t, rfl⟩ hd) fun _ => .str v
theorem de_gref {a : Addr} {d : D} (hg : Gl X x) (hm : X.mg x = some (.ref a)) (h : ∀ w, Hv X.K w (.ref a) d) (hd : (x == ("__debug__" : Str)) = false := by decide) : PE X (.Name x pos) (tD X.K E (fC d)) := de_c (v := .ref a) (pe_glob hg hm rfl hd) h
end

/-! ### == -/
section
open Sem Builtin SeqAt AutoSeq1 MeetsSeq
theorem dict_eq_str (l : Addr) (o : Obj) (hc : o.cls = .type "dict") (b : Str) (u : Tok) :
    Meets (Builtin.«dict.__eq__» ⟨[.ref l, .str b u], []⟩) (fun _ R s => s.heap.get? l = some o ∧ R (.ok (.ret .notImplemented)) s) :=
  .of_wp fun prog w A R s h => by
    obtain ⟨hp, g, d, tk, os⟩ := s
    obtain ⟨hl, h⟩ := h
    obtain ⟨cl, dd, da, sl⟩ := o
    subst hc
    wp_walk using wpAny_loadPart' hl
    refine wpAny_of_eq sub_sd ?_
    wp_walk
    exact ⟨_, rfl, h⟩
theorem str_eq_dict (l : Addr) (o : Obj) (es : Array DictEntry) (n : Nat) (hc : o.data = .dict es n) (b : Str) (u : Tok) :
    Meets (Builtin.«str.__eq__» ⟨[.str b u, .ref l], []⟩) (fun _ R s => s.heap.get? l = some o ∧ R (.ok (.ret .notImplemented)) s) :=
  .of_wp fun prog w A R s h => by
    obtain ⟨hp, g, d, tk, os⟩ := s
    obtain ⟨hl, h⟩ := h
    obtain ⟨cl, dd, da, sl⟩ := o
    subst hc
    wp_walk using wpAny_loadPart' hl, wpAny_load hl
    exact ⟨_, rfl, h⟩
theorem rc_eq_dict_str {prog : Program} {w : World} {A : Around} {s : Shared} {l : Addr} {o : Obj} (b : Str) (u : Tok) (ho : s.heap.get? l = some o) (hc : o.cls = .type "dict") {es : Array DictEntry} {n : Nat} (hd : o.data = .dict es n) (hu : A.units < cLine) {E Q : Value → Shared → Prop} (h : Q (.bool false) s) : wpAny (model prog w) A (richCompare .Eq (.ref l) (.str b u)) Q E s :=
  rc_eq_decline_or (k := false) ⟨_, ho, hc⟩ (typeIs_str s b u) (by decide) sub_sd F.slot_dict_eq F.slot_str_eq_refl
    (fun _ hq => call_meets F.slot_dict_eq ⟨_, ho, hc⟩ F.entry_dict_eq (F.args_dict_eq_2 _ _) (dict_eq_str l o hc b u) ⟨ho, hq⟩)
    (fun _ hq => call_meets F.slot_str_eq_refl (typeIs_str s b u) F.entry_str_eq (F.args_str_eq_2 _ _) (str_eq_dict l o es n hd b u) ⟨ho, hq⟩)
    (fun _ hq => wpAny_of_eq (rfl : isSame (.ref l) (.str b u) = pure false) hq) (.inr hu) h
end
section
variable {X : Cx}
theorem o_eq (hu : X.A.units + 64 < cLine) : OpR X (compareOp .Eq) (rCmpD X.K false) := by
  intro pins s σ H x y v u Q I rx ry h
  rcases h with ⟨h1, h2⟩ | ⟨d, e, h1, h2, h3, h4, h5⟩ | ⟨a, us, z, rfl, rfl, hd, q⟩
  · exact op_eq pins s σ H x y v u Q I rx ry ⟨h1, by rw [Bool.false_xor] at h2; exact h2⟩
  · exact op_eqD hu pins s σ H x y v u Q I rx ry ⟨d, e, h1, h2, h3, h4, by rw [Bool.false_xor] at h5; exact h5⟩
  · cases rx
    obtain ⟨t, rfl⟩ := ry
    obtain ⟨_, _, vs, _, o, es, ep, h1, h2, h3, _⟩ := hd.ok I.hok
    exact rc_eq_dict_str z t h1 h2.1 h3 (by omega) ⟨.bl false, H, I, rfl, q⟩
end
end FL
/-! FL: a star target, t[::-1], lists of unlike lengths compared, (x := e) in a test, match over a list. -/
namespace FL
open PySem PySem.Spec PyProof.Rows L2
set_option autoImplicit false

/-! ### == of lists, whatever they hold, where their lengths differ -/
def lenNe : D → D → Bool
  | .lst xs, .lst ys => xs.length != ys.length
  | _, _ => false
def gEqq : G2 := fun a b μ => if lenNe a b = true then .ok (.bl false) μ else gEq a b μ
def gNee : G2 := fun a b μ => if lenNe a b = true then .ok (.bl true) μ else gNe a b μ
def rLen (neg : Bool) : R2 := fun x y H Q => ∃ l b vs us, x = .ref l ∧ y = .ref b ∧ H l = some (.lst vs) ∧ H b = some (.lst us) ∧ vs.length ≠ us.length ∧ Q (.bl neg) H
section
variable {X : Cx} {K : PySem.W.Frag} {E : XK}
theorem lst_is {its : List Value} {s : Shared} {l : Addr} {o : Obj} {n : Nat} (e : s.heap.get? l = some o) (hc : o.cls = .type "list") (hd : o.data = .seq its.toArray n) : s.heap.IsList l its.toArray := ⟨o, e, hc, n, hd⟩
theorem op_eq_len (hu : X.A.units < cLine) : OpR X (compareOp .Eq) (rLen false) := by
  intro pins s σ H x y v u Q I rx ry h
  obtain ⟨l, b, vs, us, rfl, rfl, h1, h2, hne, q⟩ := h
  cases rx
  cases ry
  obtain ⟨z, its, n, r, hl, e⟩ := I.lstM h1
  obtain ⟨z2, its2, n2, r2, hl2, e2⟩ := I.lstM h2
  refine SeqAt.eq_list_lengthsAt (lst_is e rfl rfl) (lst_is e2 rfl rfl) ?_ hu ⟨.bl false, H, I, rfl, q⟩
  rw [List.size_toArray, List.size_toArray, ← r.length, ← r2.length]
  simpa using hne
theorem op_ne_len (hu : X.A.units < cLine) : OpR X (compareOp .NotEq) (rLen true) := by
  intro pins s σ H x y v u Q I rx ry h
  obtain ⟨l, b, vs, us, rfl, rfl, h1, h2, hne, q⟩ := h
  cases rx
  cases ry
  obtain ⟨z, its, n, r, hl, e⟩ := I.lstM h1
  obtain ⟨z2, its2, n2, r2, hl2, e2⟩ := I.lstM h2
  refine SeqAt.RcNeAt.lists_lengths (lst_is e rfl rfl) (lst_is e2 rfl rfl) ?_ hu _ _ _ _ ⟨.bl true, H, I, rfl, q⟩
  rw [List.size_toArray, List.size_toArray, ← r.length, ← r2.length]
  simpa using hne
abbrev rEqq (K : PySem.W.Frag) (neg : Bool) : R2 := fun x y H Q => rCmpD K neg x y H Q ∨ rLen neg x y H Q
theorem o_eqq (hu : X.A.units + 64 < cLine) : OpR X (compareOp .Eq) (rEqq X.K false) := fun pins s σ H x y v u Q I rx ry h =>
  h.elim (o_eq hu pins s σ H x y v u Q I rx ry) (op_eq_len (by omega) pins s σ H x y v u Q I rx ry)
theorem o_nee (hu : X.A.units + 64 < cLine) : OpR X (compareOp .NotEq) (rEqq X.K true) := fun pins s σ H x y v u Q I rx ry h =>
  h.elim (o_ne hu pins s σ H x y v u Q I rx ry) (op_ne_len (by omega) pins s σ H x y v u Q I rx ry)
theorem lenNe_use {w : Wd} {x y : V} {a b : D} (h1 : Hv K w x a) (h2 : Hv K w y b) (h : lenNe a b = true) : ∃ l c vs us, x = .ref l ∧ y = .ref c ∧ w.H l = some (.lst vs) ∧ w.H c = some (.lst us) ∧ vs.length ≠ us.length := by
  unfold lenNe at h
  split at h
  · cases h1 with
    | lst n e l =>
      cases h2 with
      | lst n2 e2 l2 => exact ⟨_, _, _, _, rfl, rfl, e, e2, by rw [l.length, l2.length]; simpa using h⟩
  · cases h
theorem ad_eqq : Ad2 K E gEqq (rEqq K false) := fun w μ x y a b Q r h1 h2 p => by
  unfold gEqq at p
  by_cases h : lenNe a b = true
  · rw [if_pos h] at p
    obtain ⟨l, c, vs, us, e1, e2, e3, e4, e5⟩ := lenNe_use h1 h2 h
    exact .inr ⟨l, c, vs, us, e1, e2, e3, e4, e5, post_here p r (.bl _)⟩
  · rw [if_neg h] at p
    exact .inl (ad_eq w μ x y a b Q r h1 h2 p)
theorem ad_nee : Ad2 K E gNee (rEqq K true) := fun w μ x y a b Q r h1 h2 p => by
  unfold gNee at p
  by_cases h : lenNe a b = true
  · rw [if_pos h] at p
    obtain ⟨l, c, vs, us, e1, e2, e3, e4, e5⟩ := lenNe_use h1 h2 h
    exact .inr ⟨l, c, vs, us, e1, e2, e3, e4, e5, post_here p r (.bl _)⟩
  · rw [if_neg h] at p
    exact .inl (ad_ne w μ x y a b Q r h1 h2 p)
end

/-! ### t[::-1] -/
def fRev (F : FE) : FE := fun ρ μ => (F ρ μ).bind fun d μ1 => match d with
  | .tup ds => .ok (.tup ds.reverse) μ1
  | _ => .no
section
open HT
theorem adjust_rev (n : Nat) : Builtin.Slice.sliceAdjust none none (-1) (n : Int) = ((n : Int) - 1, -1) := by
  first
  | rfl
  | simp [Builtin.Slice.sliceAdjust]
theorem places_rev (n : Nat) : Builtin.Slice.slicePlaces ((n : Int) - 1) (-1) (-1) = n := by
  unfold Builtin.Slice.slicePlaces
  have h1 : ¬ ((-1 : Int) > 0) := by omega
  have e : ((n : Int) - 1 - -1 - 1) / (- -1) = (n : Int) - 1 := by
    rw [show (- -1 : Int) = 1 by decide, Int.ediv_one]
    omega
  simp only [h1, if_false, e]
  split <;> omega
theorem sliceApplied_rev {prog : Program} {w : World} {A : Around} {E : Value → Shared → Prop} {s : Shared} {sl : Addr} {vl vu vs : Value} {n : Nat} {Q : Int × Int × Nat → Shared → Prop} (hs : s.heap.IsSliceOf sl vl vu vs) (pl : IsPart vl none) (pu : IsPart vu none) (ps : IsPart vs (some (-1)))
    (h : Q ((n : Int) - 1, -1, n) s) : wpAny (model prog w) A (Builtin.Slice.sliceApplied (.ref sl) (pure (n : Int))) Q E s := by
  obtain ⟨os, hos, hcs, hds⟩ := id hs
  unfold Builtin.Slice.sliceApplied Builtin.Slice.sliceFields
  refine wpAny_bind (wpAny_bind (wpAny_field hos hds (x := vl) rfl (wpAny_bind (wpAny_field hos hds (x := vu) rfl (wpAny_bind (wpAny_field hos hds (x := vs) rfl (wpAny_pure ?_)))))))
  refine wpAny_bind (slicePart_ ps ?_)
  show wpAny _ _ (if ((-1 : Int) == 0) = true then _ else _) _ _ s
  rw [if_neg (by decide)]
  refine wpAny_bind (slicePart_ pl (wpAny_bind (slicePart_ pu (wpAny_bind (wpAny_pure ?_)))))
  show wpAny _ _ (match Builtin.Slice.sliceAdjust none none (-1) (n : Int) with | (lo, hi) => pure (lo, (-1 : Int), Builtin.Slice.slicePlaces lo hi (-1))) _ _ s
  rw [adjust_rev n]
  show wpAny _ _ (pure ((n : Int) - 1, (-1 : Int), Builtin.Slice.slicePlaces ((n : Int) - 1) (-1) (-1))) _ _ s
  rw [places_rev]
  exact wpAny_pure h
theorem pick_rev (xs : Array Value) : ((List.range xs.size).filterMap fun (m : Nat) => xs[(((xs.size : Int) - 1) + (m : Int) * -1).toNat]?).toArray = xs.toList.reverse.toArray := by
  have e : (fun (m : Nat) => xs[(((xs.size : Int) - 1) + (m : Int) * -1).toNat]?) = ((xs[·]?) ∘ fun m : Nat => ((xs.size : Int) - 1 - (m : Int)).toNat) := by
    funext m
    show xs[(((xs.size : Int) - 1) + (m : Int) * -1).toNat]? = xs[((xs.size : Int) - 1 - (m : Int)).toNat]?
    rw [show (((xs.size : Int) - 1) + (m : Int) * -1) = ((xs.size : Int) - 1 - (m : Int)) by omega]
  rw [e, ← List.filterMap_map]
  have e2 : (List.range xs.size).map (fun m : Nat => ((xs.size : Int) - 1 - (m : Int)).toNat) = (List.range xs.size).reverse := by
    rw [← PySem.W.krv_range]
    apply List.map_congr_left
    intro m hm
    have := List.mem_range.mp hm
    show ((xs.size : Int) - 1 - (m : Int)).toNat = xs.size - 1 - m
    omega
  rw [e2, List.filterMap_reverse, PySem.W.krv_all]
theorem getItem_tuple_rev {prog : Program} {w : World} {A : Around} {E : Value → Shared → Prop} {s : Shared} {t sl : Addr} {items : Array Value} {vl vu vs : Value} {Q : Value → Shared → Prop} (ht : IsTup s.heap t items) (hs : s.heap.IsSliceOf sl vl vu vs) (pl : IsPart vl none) (pu : IsPart vu none) (ps : IsPart vs (some (-1)))
    (h : Q (.ref s.heap.objs.size) { s with heap := s.heap.push { cls := .type "tuple", data := .seq items.toList.reverse.toArray } }) (hsz : items.size ≤ sizeLine) : wpAny (model prog w) A (getItem (.ref t) (.ref sl)) Q E s := by
  have htake : sizeOk (.seq items.toList.reverse.toArray) := by
    show items.toList.reverse.toArray.size ≤ sizeLine
    rw [List.size_toArray, List.length_reverse, Array.length_toList]
    exact hsz
  obtain ⟨os, hos, hcs, hds⟩ := id hs
  have hTs : s.TypeIs (.ref sl) "slice" := ⟨os, hos, hcs⟩
  unfold getItem
  try with_reducible refine wpAny_holding ?_
  first | refine wpAny_bind (wpAny_pure ?_) | skip
  refine wpAny_bind (wpAny_sequenceKey ht.typeIs (by decide) ?_)
  refine wpAny_bind (wpAny_callSpecial?_slot (name := Str.ofString "__getitem__") ht.typeIs PyProof.Rows.slot_tuple_getitem
    (wpAny_call_entry PyProof.Rows.slot_tuple_getitem ht.typeIs entry_tuple_getitem ?_ (args_tuple_getitem _ _)))
  show wpAny _ _ (Builtin.Tuple.tupleItemsOf (.ref t) >>= _) _ _ s
  refine wpAny_bind (tupleItemsOf_ ht ?_)
  refine wpAny_bind (wpAny_typeOf hTs ?_)
  rw [if_pos (by decide)]
  refine wpAny_bind (sliceApplied_rev hs pl pu ps ?_)
  have hno : ¬ ((((items.size : Int) - 1) == 0 && (-1 : Int) == 1 && items.size == items.size) = true) := by
    intro q
    rw [Bool.and_eq_true, Bool.and_eq_true] at q
    exact absurd (eq_of_beq q.1.2) (by decide)
  show wpAny _ _ (if (((items.size : Int) - 1) == 0 && (-1 : Int) == 1 && items.size == items.size) = true then _ else _) _ _ s
  rw [if_neg hno, pick_rev]
  first
    | exact wpAny_bind (m := Builtin.Tuple.tupleExact _) (wpAny_newObj_type (wpAny_pure ⟨_, rfl, wpAny_pure h⟩) htake)
    | exact wpAny_bind (m := Builtin.Tuple.tupleExact _) (wpAny_newObj_type (wpAny_bind (wpAny_pure (wpAny_pure ⟨_, rfl, wpAny_pure h⟩))) htake)
    | exact wpAny_bind (wpAny_bind (m := Builtin.Tuple.tupleExact _) (wpAny_newObj_type (wpAny_pure (wpAny_pure ⟨_, rfl, wpAny_pure h⟩)) htake))
    | exact wpAny_bind (wpAny_bind (m := Builtin.Tuple.tupleExact _) (wpAny_newObj_type (wpAny_pure ⟨_, rfl, wpAny_pure h⟩) htake))
end
theorem vals_rev {vs : List V} {us : List Value} (r : Vals vs us) : Vals vs.reverse us.reverse := by
  induction r with
  | nil => exact .nil
  | cons a r ih =>
    rw [List.reverse_cons, List.reverse_cons]
    exact ih.append (.cons a .nil)
def tRevT (K : PySem.W.Frag) (te : TE) : TE := fun σ H Q => te σ H fun x H1 => ∃ a xs, x = .ref a ∧ SqT K H1 a xs ∧ ∀ p, H1 p = none → Q (.ref p) (upd H1 p (.tup xs.reverse))
section
variable {X : Cx} {E : XK}
theorem pe_revT {e : Expr} {te : TE} {k : Nat} {p1 p2 p3 pos : Pos} (he : PE X e te) : PE X (.Subscript e (.Slice none none (some (.UnaryOp .USub (.Constant (.int 1) k p1) p2)) p3) pos) (tRevT X.K te) := by
  refine ⟨fun pins s σ H Q I h => ?_⟩
  refine Subscript_ (thn (he.run pins s σ H _ I h) fun v s1 ⟨x, H1, I1, r1, q1⟩ => ?_)
  obtain ⟨a, xs, ex, hx, q⟩ := q1
  subst ex
  cases r1
  have hst : PO X (some (.UnaryOp .USub (.Constant (.int 1) k p1) p2)) (tPart (tUn (rU fun i => .int (-i)) (tC (.int 1)))) := po_some (pe_un un_neg pe_int)
  refine wpAny_Slice (thn (po_none.run pins s1 σ H1 (fun o H2 => o = none ∧ H2 = H1) I1 ⟨rfl, rfl⟩) fun vl s2 ⟨l, H2, I2, pl, el, e2⟩ => ?_)
  subst el e2
  refine thn (po_none.run pins s2 σ H2 (fun o H3 => o = none ∧ H3 = H2) I2 ⟨rfl, rfl⟩) fun vu s3 ⟨u, H3, I3, pu, eu, e3⟩ => ?_
  subst eu e3
  refine thn (hst.run pins s3 σ H3 (fun o H4 => o = some (-1) ∧ H4 = H3) I3 ⟨1, rfl, -1, rfl, rfl, rfl⟩) fun vs s4 ⟨o, H4, I4, ps, eo, e4⟩ => ?_
  subst eo e4
  have I5 : Inv X pins σ H4 { s4 with heap := s4.heap.push { cls := .type "slice", data := .fields #[vl, vu, vs] } } := I4.kept (t' := s4.toks) fun b ob q => Heap.get?_push_of_some _ q
  obtain ⟨its, r, ht, hz⟩ := I5.tuple hx
  refine tail_any (ops := [.ref a, .ref s4.heap.objs.size]) ht.typeIs PyProof.Rows.slot_tuple_getitem.lookup ?_ (by with_unfolding_all rfl)
  refine getItem_tuple_rev ht (Heap.IsSliceOf.new ..) pl pu ps ?_ (by rw [List.size_toArray, ← r.length]; exact hz)
  refine ⟨.ref _, _, I5.laid (t' := s4.toks) (o := .tup xs.reverse) (fun b ob q => Heap.get?_push_of_some _ q) (Nat.le_refl _) ?_, rfl, q _ (I5.hok.fresh (Nat.le_refl _))⟩
  exact ⟨by rw [List.length_reverse]; exact hz, _, vals_rev r, IsTup.new _ _⟩
theorem de_rev {e : Expr} {F : FE} {k : Nat} {p1 p2 p3 pos : Pos} (he : PE X e (tD X.K E F)) : PE X (.Subscript e (.Slice none none (some (.UnaryOp .USub (.Constant (.int 1) k p1) p2)) p3) pos) (tD X.K E (fRev F)) :=
  (pe_revT he).imp fun σ H Q ⟨w, ρ, μ, hw, sr, p⟩ => ⟨w, ρ, μ, hw, sr, Post.thn p fun d μ1 v w1 e1 r1 h1 q1 => by
    cases h1 with
    | tup t l => exact ⟨_, _, rfl, t.sq, fun p hp => q1 _ (w1.new p _) (Ext.new hp) (r1.new hp) (new_tup r1 hp l.reverse)⟩
    | _ => exact q1.elim⟩
end

/-! ### *a, b, c = t -/
def gTupS (K : PySem.W.Frag) (n : Nat) (t : TGs) : TG := fun v σ H Q => ∃ a xs, v = .ref a ∧ SqT K H a xs ∧ n ≤ xs.length + 1 ∧ ∀ p, H p = none → t (.ref p :: xs.drop (xs.length + 1 - n)) σ (upd H p (.lst (xs.take (xs.length + 1 - n)))) Q
section
variable {X : Cx} {E : XK}
theorem pg_tupS {es : List Expr} {f : Expr} {k n : Nat} {t : TGs} {ps pos : Pos} (hc : X.calm = true) (h : PGs X (f :: es) t) (hn : (assignEach (.Starred f ps :: es) X.env).length = n := by rfl) (hst : (assignEach (.Starred f ps :: es) X.env).findIdx? (·.1) = some 0 := by rfl)
    (hm : (assignEach (.Starred f ps :: es) X.env).map (·.2) = (assignEach (f :: es) X.env).map (·.2) := by rfl) : PG X (.Tuple (.Starred f ps :: es) k pos) (gTupS X.K n t) := by
  refine ⟨fun pins s σ H v u Q I r hw => ?_⟩
  obtain ⟨a, xs, e1, hq, hl, hw⟩ := hw
  subst e1
  cases r
  obtain ⟨its, rv, ht, hz⟩ := I.tuple hq
  have hh := I.ok.hd hc
  have hlen : its.length = xs.length := rv.length.symm
  have hn0 : 0 < n := by rw [← hn]; exact Nat.succ_pos _
  rw [assign_Tuple]
  refine wpAny_bind (wpAny_standAt ?_)
  unfold unpack
  rw [hn, hst, hm]
  refine wpAny_bind (wpAny_holding ?_)
  have hlt : a ≠ s.heap.objs.size := Nat.ne_of_lt ht.lt
  unfold unpackItems
  refine wpAny_bind ?_
  unfold notIterableAtAll
  refine wpAny_bind (wpAny_specialOf ht.typeIs slot_tuple_iter.lookup ?_)
  refine wpAny_pure ?_
  simp only [Bool.false_eq_true, if_false]
  refine wpAny_bind (wpAny_holding (iter_tuple ht ?_))
  refine wpAny_bind (wpAny_holding (wpAny_pure ?_))
  rw [if_neg (by simp)]
  refine wpAny_bind (wpAny_holding (PySem.W.kun_collect (T := "tuple_iterator") (.inr (.inr (.inr rfl))) (PySem.Walks.tuple (A := X.A.in1) hh s.heap.objs.size a hlt its.toArray) (fun j u st => st.1.typeIs) (k := 0) (Nat.zero_le _) ⟨⟨_, Heap.get?_push_size _ rfl, rfl, rfl⟩, ht.push _⟩
    (by show _ < (s.heap.push _).objs.size; rw [Heap.size_push]; omega) (by show _ < (s.heap.push _).objs.size; rw [Heap.size_push]; exact Nat.lt_succ_of_lt ht.lt) (fun h₂ tk hk => ?_) (by rw [List.size_toArray, hlen]; exact hz)))
  rw [List.drop_zero]
  show wpAny _ _ (if its.length < n - 1 - 0 then _ else _) _ _ _
  rw [if_neg (by omega)]
  show wpAny _ _ (newList (its.take (its.length - (n - 1 - 0))) >>= fun d => pure ([] ++ [d] ++ its.drop (its.length - (n - 1 - 0)))) _ _ _
  have hm2 : its.length - (n - 1 - 0) = xs.length + 1 - n := by omega
  rw [hm2]
  have kp : ∀ b o, s.heap.get? b = some o → h₂.get? b = some o := fun b o e => hk b o (Nat.ne_of_lt (Heap.lt_size e)) (Heap.get?_push_of_some _ e)
  have I1 : Inv X pins σ H { s with heap := h₂, toks := tk } := I.kept kp
  refine wpAny_bind (wpAny_newList ?_ (by rw [List.length_take]; omega))
  refine wpAny_pure ?_
  have I2 : Inv X pins σ (upd H h₂.objs.size (.lst (xs.take (xs.length + 1 - n)))) { s with heap := h₂.push { cls := .type "list", data := .seq (its.take (xs.length + 1 - n)).toArray }, toks := tk } :=
    I1.laid (t' := tk) (fun b ob q => Heap.get?_push_of_some _ q) (Nat.le_refl _) ⟨by rw [List.length_take]; omega, _, 0, rv.take _, Heap.get?_push_size _ rfl⟩
  exact h.run pins _ σ _ (.ref h₂.objs.size :: xs.drop (xs.length + 1 - n)) _ Q I2 (.cons rfl (rv.drop _)) (hw _ (I1.hok.fresh (Nat.le_refl _)))
def tgStar (n : Nat) (U : FTs) : FT := fun d ρ => match d with
  | .tup ds => if n ≤ ds.length + 1 then U (.lst (ds.take (ds.length + 1 - n)) :: ds.drop (ds.length + 1 - n)) ρ else none
  | _ => none
/-- a target that may make an object -/
def AdTm (K : PySem.W.Frag) (T : FT) (t : TG) : Prop := ∀ (w : Wd) (μ : Mu) (σ : L2.St) (ρ ρ' : Rho) (v : V) (d : D) (Q : L2.St → Hp → Prop), SR K σ w ρ μ → Hv K w v d → T d ρ = some ρ' → (∀ σ' w', Ext w w' → SR K σ' w' ρ' μ → Q σ' w'.H) → t v σ w.H Q
theorem adT_star {K : PySem.W.Frag} {n : Nat} {U : FTs} {t : TGs} (h : AdTs K U t) : AdTm K (tgStar n U) (gTupS K n t) := fun w μ σ ρ ρ' v d Q sr hv e q => by
  cases hv with
  | tup tt l =>
    simp only [tgStar] at e
    split at e
    · rename_i hz
      refine ⟨_, _, rfl, tt.sq, by rw [l.length]; exact hz, fun p hp => ?_⟩
      refine h (w.new p _) μ σ ρ ρ' _ _ Q (sr.ext (Ext.new hp) (sr.rep.new hp)) (.cons (new_lst sr.rep hp (by rw [l.length]; exact l.take _)) (by rw [l.length]; exact (l.drop _).ext (Ext.new hp))) e fun σ' s' => q σ' _ (Ext.new hp) s'
    · cases e
  | _ => cases e
theorem d_star {tg e : Expr} {pos : Pos} {F : FE} {T : FT} {t : TG} (he : PE X e (tD X.K E F)) (hg : PG X tg t) (ad : AdTm X.K T t) (hs : swapsWithSole [tg] e pos.line X.env = pure false := by rfl) (hw : swappedStores [tg] e X.env = pure none := by rfl)
    (h1 : (assignEach [tg] X.env).map (·.2) = [assign tg X.env] := by rfl) : PS X (.Assign [tg] e pos) (tS X.K E (gSet F T)) :=
  (ps_asg he hg hs hw h1).imp fun Z σ H ⟨w, ρ, μ, hw, sr, p⟩ => ⟨w, ρ, μ, hw, sr, PostS.thn p fun d μ1 v w1 e1 r1 h1 p1 => by
    cases q : T d ρ with
    | none => rw [q] at p1; exact p1.elim
    | some ρ' =>
      rw [q] at p1
      exact ad w1 μ1 σ ρ ρ' v d _ (sr.ext e1 r1) h1 q fun σ' w2 e2 s2 => p1 σ' w2 e2 s2⟩
end

/-! ### if (x := e) op f -/
def gIfN (i : Nat) (g : G2) (F Fb : FE) (G1 G2 : FS) : FS := fun ρ μ => (F ρ μ).bind fun d μ1 => (Fb (ρ.set i (some d)) μ1).bind fun b μ2 => (g d b μ2).bind fun c μ3 => match c with
  | .bl true => G1 (ρ.set i (some d)) μ3
  | .bl false => G2 (ρ.set i (some d)) μ3
  | _ => .no
section
variable {X : Cx} {E : XK}
theorem d_ifN {i : Nat} {x : Str} {e b : Expr} {op : CmpOp} {p q : List Stmt} {pn pe pc pos : Pos} {F Fb : FE} {G1 G2 : FS} {g : FL.G2} {r : R2} (ho : OpR X (compareOp op) r) (ad : Ad2 X.K E g r) (hN : X.N.Nodup) (hi : X.N[i]? = some x) (hx : Loc X.env.scope x)
    (he : PE X e (tD X.K E F)) (hb : PE X b (tD X.K E Fb)) (h1 : PSs X p (tS X.K E G1)) (h2 : PSs X q (tS X.K E G2)) (hm : behindInMarks op b = false := by rfl) (hf : X.fn x = true ∨ X.env.scope.names.lookup x = some .local := by first | exact .inl rfl | exact .inr rfl) :
    PS X (.If (.Compare (.NamedExpr (.Name x pn) e pe) [op] [b] pc) p q pos) (tS X.K E (gIfN i g F Fb G1 G2)) :=
  (ps_ifW (ptw_cmp ho (pew_named hN hi hx (pew_of he) hf) hb hm) h1 h2).imp fun Z σ H ⟨w, ρ, μ, hw, sr, pp⟩ => by
    refine ⟨w, ρ, μ, hw, sr, PostS.thn pp fun d μ1 v w1 e1 r1 hv q1 => ?_⟩
    have s1 := (sr.ext e1 r1).set i hv
    refine ⟨w1, _, μ1, rfl, s1, PostS.thn q1 fun bd μ2 u w2 e2 r2 hu q2 => ?_⟩
    refine ad w2 μ2 v u d bd _ r2 (hv.ext e2) hu (PostS.thn q2 fun c μ3 z w3 e3 r3 hz q3 => ?_)
    have s3 := (s1.ext e2 r2).ext e3 r3
    cases hz with
    | bl k =>
      refine ⟨k, rfl, ?_⟩
      cases k with
      | true => exact ⟨w3, _, μ3, rfl, s3, q3⟩
      | false => exact ⟨w3, _, μ3, rfl, s3, q3⟩
    | _ => exact q3.elim
end

/-! ### match e: case [x, .., z]: ..; case _: .. -/
def gMatchL (n : Nat) (F : FE) (U : FTs) (G1 G2 : FS) : FS := fun ρ μ => (F ρ μ).bind fun d μ1 => match d with
  | .lst ds => if ds.length = n then (match U ds ρ with
      | some ρ' => G1 ρ' μ1
      | none => .no) else G2 ρ μ1
  | _ => .no
def patsOf (xs : List (Str × Pos)) : List Pattern := xs.map fun x => .MatchAs none (some x.1) x.2
def namesOf' (xs : List (Str × Pos)) : List Expr := xs.map fun x => .Name x.1 x.2
section
variable {X : Cx} {E : XK}
theorem me_names {M : Model} {A : Around} {env : Env} {Ex : Value → Shared → Prop} {s : Shared} : ∀ (xs : List (Str × Pos)) (vs : List Value) {Q : Option (List (Str × Value)) → Shared → Prop}, xs.length = vs.length → Q (some ((xs.map (·.1)).zip vs)) s → wpAny M A (matchEach (patsOf xs) env vs) Q Ex s
  | [], _, Q, h, q => wpAny_matchEach_nil (by simpa using q)
  | x :: xs, [], Q, h, q => by simp at h
  | x :: xs, v :: vs, Q, h, q => wpAny_matchEach_cons (p := .MatchAs none (some x.1) x.2) (wpAny_matchPattern_Capture (me_names xs vs (Nat.succ.inj h) q))
theorem bind_names {pins : List (Addr × Obj)} {t : TGs} : ∀ (xs : List (Str × Pos)) (vs : List V) (us : List Value) (s : Shared) (σ : L2.St) (H : Hp) (Q : L2.St → Hp → Prop), PGs X (namesOf' xs) t → Inv X pins σ H s → Vals vs us → xs.length = vs.length → t vs σ H Q →
    (∀ s1 : Shared, True) → wpAny (model X.prog X.w) X.A (assignInOrder ((assignEach (namesOf' xs) X.env).map (·.2)) us) (fun _ s' => ∃ σ' H', Inv X pins σ' H' s' ∧ Q σ' H') X.xe s :=
  fun xs vs us s σ H Q h I r _ q _ => h.run pins s σ H vs us Q I r q
inductive Nms (X : Cx) : List (Str × Pos) → List Nat → Prop where
  | nil : Nms X [] []
  | cons {x : Str} {p : Pos} {i : Nat} {xs : List (Str × Pos)} {is : List Nat} (hi : X.N[i]? = some x) (hx : Loc X.env.scope x) (hf : X.fn x = true ∨ X.env.scope.names.lookup x = some .local) (r : Nms X xs is) : Nms X ((x, p) :: xs) (i :: is)
def setsR : List Nat → List D → Rho → Rho
  | i :: is, d :: ds, ρ => setsR is ds (ρ.set i (some d))
  | _, _, ρ => ρ
theorem bind_all (hN : X.N.Nodup) {xs : List (Str × Pos)} {is : List Nat} (n : Nms X xs is) : ∀ {pins : List (Addr × Obj)} {s : Shared} {σ : L2.St} {w : Wd} {ρ : Rho} {μ : Mu} {vs : List V} {us : List Value} {ds : List D} {Q : Unit → Shared → Prop}, Inv X pins σ w.H s → SR X.K σ w ρ μ → HvL X.K w vs ds → Vals vs us → xs.length = vs.length →
    (∀ s' σ', Inv X pins σ' w.H s' → SR X.K σ' w (setsR is ds ρ) μ → Q () s') → wpAny (model X.prog X.w) X.A (assignInOrder (((xs.map (·.1)).zip us).map fun (n, _) => bindName X.env n) (((xs.map (·.1)).zip us).map (·.2))) Q X.xe s := by
  induction n with
  | nil => intro pins s σ w ρ μ vs us ds Q I sr l r hl q; exact wpAny_pure (q s σ I (by simpa [setsR] using sr))
  | @cons x p i xs is hi hx hf n ih =>
    intro pins s σ w ρ μ vs us ds Q I sr l r hl q
    cases l with
    | nil => simp at hl
    | cons h l =>
      cases r with
      | cons r1 r2 =>
        refine assignInOrder_cons (wpAny_bindName (store_ok I hN hi hx r1 (fun s1 I1 => ?_) hf))
        exact ih I1 (sr.set i h) l r2 (Nat.succ.inj hl) q
def namesIn : List Pattern → List (Str × Pos)
  | .MatchAs none (some n) p :: ps => (n, p) :: namesIn ps
  | _ => []
theorem d_matchL {e : Expr} {pats : List Pattern} {is : List Nat} {n : Nat} {p q : List Stmt} {pp pw pos : Pos} {F : FE} {G1 G2 : FS} (hc : X.calm = true) (hN : X.N.Nodup) (nm : Nms X (namesIn pats) is) (hn : (namesIn pats).length = n) (he : PE X e (tD X.K E F)) (h1 : PSs X p (tS X.K E G1)) (h2 : PSs X q (tS X.K E G2))
    (hpp : patsOf (namesIn pats) = pats := by rfl) (hstar : (patsOf (namesIn pats)).findIdx? (·.isStar) = none := by rfl) (hwild : ((patsOf (namesIn pats)).all fun p => p.isWildcard || (p.isStar && p.names.isEmpty)) = false := by rfl) :
    PS X (.Match e [⟨.MatchSequence pats pp, none, p⟩, ⟨.MatchAs none none pw, none, q⟩] pos) (tS X.K E (gMatchL n F (fun ds ρ => some (setsR is ds ρ)) G1 G2)) := by
  generalize hxs : namesIn pats = xs at *
  subst hpp
  refine ⟨fun pins s σ H Z I h => ?_⟩
  obtain ⟨w, ρ, μ, rfl, sr, pq⟩ := h
  refine wpAny_Match (thn (he.run pins s σ w.H (fun x H1 => ∃ w1 d μ1, w1.H = H1 ∧ Ext w w1 ∧ Rep X.K w1 μ1 ∧ Hv X.K w1 x d ∧ PostS X.K E w1 Z (match d with
      | .lst ds => if ds.length = n then (match (fun ds ρ => some (setsR is ds ρ) : FTs) ds ρ with
          | some ρ' => G1 ρ' μ1
          | none => .no) else G2 ρ μ1
      | _ => .no)) I ⟨w, ρ, μ, rfl, sr, PostS.thn pq fun d μ1 v w1 e1 r1 h1 p1 => ⟨w1, d, μ1, rfl, e1, r1, h1, p1⟩⟩) fun v s1 ⟨x, H1, I1, rx, w1, d, μ1, e0, e1, r1, h1, p1⟩ => ?_)
  subst e0
  cases h1 with
  | @lst a vs ds nb ha l =>
    cases rx
    obtain ⟨z, its, m, r, hl, ea⟩ := I1.lstM ha
    have hil : s1.heap.IsList a its.toArray := lst_is ea rfl rfl
    have hits : its.length = ds.length := by rw [← r.length, l.length]
    have hsl : its.toArray.size = ds.length := by rw [List.size_toArray, hits]
    have hfit : (its.toArray.size : Int) < 2 ^ 63 := by
      have : ds.length ≤ sizeLine := by rw [← l.length]; exact z
      rw [hsl]; rw [sizeLine_eq] at this; omega
    refine wpAny_matchCases_cons (wpAny_matchPattern_Sequence (wpAny_collectionFlag hil.typeIs flag_seq_list ?_) hstar hwild)
    rw [if_pos rfl]
    refine pyLen_list hil hfit ?_
    have hpl : (patsOf xs).length = n := by rw [patsOf, List.length_map]; exact hn
    by_cases hd : ds.length = n
    · have hneq : ((its.toArray.size : Int) != ((patsOf xs).length : Int)) = false := by rw [hsl, hpl, hd]; simp
      rw [hneq, if_neg Bool.false_ne_true]
      have eq1 : (patsOf xs).length = its.toArray.size := by rw [hpl, hsl, hd]
      rw [eq1]
      refine PySem.W.kun_itemsOf (I1.ok.hd hc) (hl := lst_is ea rfl rfl) fun h' hx => ?_
      have I2 : Inv X pins σ w1.H { s1 with heap := h', toks := s1.toks + 1 + 1 } := I1.kept fun b o e => hx b o (Nat.ne_of_lt (Heap.lt_size e)) e
      refine me_names xs its.toArray.toList (by rw [hn, ← hd, ← hits]) ?_
      simp only [if_pos hd] at p1
      refine bind_all hN nm I2 (sr.ext e1 r1) l (by simpa using r) (by rw [hn, ← hd, l.length]) fun s3 σ3 I3 sr3 => ?_
      exact h1.run pins s3 σ3 _ Z I3 ⟨w1, _, μ1, rfl, sr3, p1⟩
    · have hneq : ((its.toArray.size : Int) != ((patsOf xs).length : Int)) = true := by
        rw [hsl, hpl]
        simp only [bne_iff_ne, ne_eq]
        omega
      rw [hneq, if_pos rfl]
      simp only [if_neg hd] at p1
      refine wpAny_matchCases_cons (wpAny_matchPattern_Capture ?_)
      refine wpAny_pure ?_
      exact h2.run pins _ σ _ Z (I1.tok _) ⟨w1, ρ, μ1, rfl, sr.ext e1 r1, p1⟩
  | _ => exact p1.elim
end
end FL
/-! FL: a def's promise is its own reading, run. -/
namespace FL
open PySem PySem.Spec PyProof.Rows L2 RZ
set_option autoImplicit false

/-- a def that makes no mutable object of its own, or hands them to its caller -/
def runK (n : Nat) (G : FS) : GL := fun ds μ => match G (enter n ds) μ with
  | .ok (.rt d) μ0 => .ok d μ0
  | .ok (.nx _) μ0 => .ok .non μ0
  | _ => .no
open Classical in
noncomputable def leaveD (μ : Mu) (d0 : D) (μ0 : Mu) : Rs D :=
  if (∀ k o, k < μ.length → μ0[k]? = some o → μ[k]? = some o ∨ o.inn μ.length = true) then
    match d0 with
    | .ref k => if μ.length ≤ k then (match μ0[k]? with
        | some (.lst ds) => if innL μ.length ds = true then .ok (.lst ds) (μ0.take μ.length) else .no
        | some (.dct kvs) => if innD μ.length kvs = true then .ok (.dct kvs) (μ0.take μ.length) else .no
        | none => .no) else .ok (.ref k) (μ0.take μ.length)
    | d => if d.inn μ.length = true then .ok d (μ0.take μ.length) else .no
  else .no
/-- a def whose own objects are forgotten; one that is handed back is frozen -/
noncomputable def runG (n : Nat) (G : FS) : GL := fun ds μ => match G (enter n ds) μ with
  | .ok (.rt d) μ0 => leaveD μ d μ0
  | .ok (.nx _) μ0 => leaveD μ .non μ0
  | _ => .no
theorem leaveD_ok {μ μ0 μ1 : Mu} {d0 d : D} (h : leaveD μ d0 μ0 = .ok d μ1) : Leave μ d0 μ0 d μ1 := by
  unfold leaveD at h
  split at h
  · rename_i hc
    split at h
    · rename_i k
      split at h
      · rename_i hk
        split at h
        · rename_i ds e
          split at h
          · rename_i hi
            cases h
            exact .frz hc rfl hk e hi
          · cases h
        · rename_i kvs e
          split at h
          · rename_i hi
            cases h
            exact .frzD hc rfl hk e hi
          · cases h
        · cases h
      · rename_i hk
        cases h
        exact .cut hc (decide_eq_true (Nat.lt_of_not_le hk))
    · split at h
      · rename_i hi
        cases h
        exact .cut hc hi
      · cases h
  · cases h
theorem leaveD_noex {μ μ0 μ1 : Mu} {d0 : D} {C : Addr} {fs : List (Str × D)} : leaveD μ d0 μ0 ≠ .ex C fs μ1 := by
  unfold leaveD
  repeat' split
  all_goals (intro h; cases h)
theorem runK_exit {n : Nat} {G : FS} (ds : List D) (μ : Mu) : Exit μ (G (enter n ds) μ) (runK n G ds μ) := by
  unfold runK Exit
  cases q : G (enter n ds) μ with
  | no => trivial
  | ex C fs μ1 => trivial
  | ok o μ0 =>
    cases o with
    | rt d => exact .inl ⟨d, μ0, rfl, .all⟩
    | nx ρ => exact .inr ⟨ρ, μ0, rfl, .all⟩
    | bk ρ => trivial
    | ct ρ => trivial
theorem runK_noex {n : Nat} {G : FS} (ds : List D) (μ : Mu) (C : Addr) (fs : List (Str × D)) (μ1 : Mu) : runK n G ds μ ≠ .ex C fs μ1 := by
  unfold runK
  split <;> (intro h; cases h)
theorem runG_exit {n : Nat} {G : FS} (ds : List D) (μ : Mu) : Exit μ (G (enter n ds) μ) (runG n G ds μ) := by
  unfold runG
  cases q : G (enter n ds) μ with
  | no => trivial
  | ex C fs μ1 => trivial
  | ok o μ0 =>
    cases o with
    | rt d =>
      show Exit _ _ (leaveD μ d μ0)
      cases z : leaveD μ d μ0 with
      | no => trivial
      | ex C fs μ1 => exact absurd z leaveD_noex
      | ok d1 μ1 => exact .inl ⟨d, μ0, rfl, leaveD_ok z⟩
    | nx ρ =>
      show Exit _ _ (leaveD μ .non μ0)
      cases z : leaveD μ .non μ0 with
      | no => trivial
      | ex C fs μ1 => exact absurd z leaveD_noex
      | ok d1 μ1 => exact .inr ⟨ρ, μ0, rfl, leaveD_ok z⟩
    | bk ρ => trivial
    | ct ρ => trivial
theorem runG_noex {n : Nat} {G : FS} (ds : List D) (μ : Mu) (C : Addr) (fs : List (Str × D)) (μ1 : Mu) : runG n G ds μ ≠ .ex C fs μ1 := by
  unfold runG
  split
  · exact leaveD_noex
  · exact leaveD_noex
  · intro h; cases h
theorem de_call0 {X : Cx} {E : XK} {CX : CXT} {k : Nat} {f : Addr} {fd : FuncData} {x : Str} {p pos : Pos} {g : GL} (G : FnOk X.prog X.w X.K X.mg X.base CX k f fd [] (spF X.K 0 g)) (hr : Room k X.A) (hg : Gl X x) (hm : X.mg x = some (.ref f)) (hk : PySem.W.keepIn X.K (.ref f) = true) (hb : Binds X.K fd [] []) (hx : Passes CX X E)
    (hdb : (x == ("__debug__" : Str)) = false := by decide) : PE X (.Call (.Name x p) [] [] pos) (tD X.K E (fCall g fNil)) :=
  (pe_call0 (dvs := []) G hr hg hm hk hb .nil hx hdb).imp fun σ H Q ⟨w, ρ, μ, hw, sr, p⟩ => ⟨rfl, w, [], μ, hw, sr.rep, .nil, p⟩
def noG : GL := fun _ _ => .no
theorem noG_ok {P : Program} {w : World} {K : PySem.W.Frag} {mg : Str → Option Value} {base : Heap} {CX : CXT} {k n : Nat} {f : Addr} {fd : FuncData} {ps : List Str} : FnOk P w K mg base CX k f fd ps (spF K n noG) := by
  refine ⟨fun vs H Q E h => ?_, fun A outer s H args us vs Q E hr e0 hb r h => ?_⟩
  · obtain ⟨_, _, _, _, _, _, _, p⟩ := h; exact p.elim
  · obtain ⟨_, _, _, _, _, _, _, p⟩ := h; exact p.elim
/-- the turns of a loop over the list in slot i -/
def fuelOf (i : Nat) : Rho → Mu → Nat := fun ρ _ => match ρ[i]? with
  | some (some (.lst xs)) => xs.length + 1
  | _ => 0
def gAddM : G2 := fun a b μ => match a, b with
  | .ref k, .lst ys => match μ[k]? with
    | some (.lst xs) => if xs.length + ys.length ≤ sizeLine then .ok (.lst (xs ++ ys)) μ else .no
    | _ => .no
  | _, _ => .no
theorem ad_addM {K : PySem.W.Frag} {E : XK} : Ad2 K E gAddM (rAdd3 K) := fun w μ x y a b Q r h1 h2 p => by
  unfold gAddM at p
  split at p
  · split at p
    · rename_i xs e
      split at p
      · rename_i hz
        cases h1 with
        | ref hk =>
          obtain ⟨vs, g1, g2⟩ := r.ob _ _ _ hk e
          cases h2 with
          | lst n t l =>
            refine .inr (.inr (.inr ⟨_, _, _, _, rfl, rfl, g1, t, by rw [g2.length, l.length]; exact hz, fun q hq => ?_⟩))
            exact p _ (w.new q _) (Ext.new hq) (r.new hq) (new_lst r hq (g2.append l))
      · exact p.elim
    · exact p.elim
  · exact p.elim
end FL
/-! FL: within an except suite: iterators that end, loops, comprehensions, unpacking, calls. -/
namespace FL
open PySem PySem.Spec L2 L2H HotX
set_option autoImplicit false

section
variable {prog : Program} {w : World} {A : Around} {s : Shared}
/-- StopIteration, new, raised while x1 is handled -/
theorem raise_stop_hot {α : Type} {x1 : Addr} {Q : α → Shared → Prop} {E : Value → Shared → Prop} (hot : HotAt A x1 s.heap)
    (hE : ∀ (e : Addr) (h' : Heap), (∃ o, h'.get? e = some o ∧ o.cls = .type "StopIteration") → (∀ b o, s.heap.get? b = some o → h'.get? b = some o) → E (.ref e) { s with heap := h' }) :
    wpAny (model prog w) A (newExc (.type "StopIteration") [] >>= fun e => (raiseNew e : Sem α)) Q E s := by
  obtain ⟨hh, o1, vs1, h1, d1, c1⟩ := hot
  have up1 := fun o => Heap.get?_push_of_some (h := s.heap) o h1
  simp only [newExc, newTuple]; refine wpAny_bind ?_; refine wpAny_bind (wpAny_newObj_type ?_ (by size_fits)); refine wpAny_bind (m := firstArgMember _ _) (wpAny_of_eq (a := Value.none) (by first | (simp only [firstArgMember]; rfl) | rfl) ?_)
  refine wpAny_newObj_type (raiseNew_hot ⟨hh, o1, vs1, Heap.get?_push_of_some _ (up1 _), d1, c1⟩ (Nat.ne_of_lt (Heap.lt_size (up1 _))) (Heap.get?_push_size _ rfl) rfl (by first | (simp; done) | (simp; omega) | (simp only [Array.size_append]; simp; omega)) (hE _ _ ⟨_, Heap.get?_update_self _ (Heap.get?_push_size _ rfl) rfl, rfl⟩ fun b o e => ?_)) (by size_fits)
  exact (Heap.get?_update_other _ _ (Nat.ne_of_gt (Heap.lt_size (Heap.get?_push_of_some _ e)))).trans (Heap.get?_push_of_some _ (Heap.get?_push_of_some _ e))
theorem hot_keep {x1 it : Addr} {h h' : Heap} (hot : HotAt A x1 h) (ne : x1 ≠ it) (sb : Heap.SameBut it h h') : HotAt A x1 h' := by
  obtain ⟨hh, o, vs, e, r⟩ := hot
  exact ⟨hh, o, vs, (sb.2 x1 ne).trans e, r⟩
theorem stop_caught {e : Addr} {h' : Heap} {Q : Option Value → Shared → Prop} {E : Value → Shared → Prop} (g : ∃ o, h'.get? e = some o ∧ o.cls = .type "StopIteration") (q : Q none { s with heap := h' }) :
    wpAny (model prog w) A (isInstance (.ref e) (.type "StopIteration") >>= fun b => if b = true then pure none else (throw (.ref e) : Sem (Option Value))) Q E { s with heap := h' } := by
  obtain ⟨o, g1, g2⟩ := g
  exact wpAny_bind (wpAny_isInstance (T := "StopIteration") (b := true) ⟨o, g1, g2⟩ isSubtype_stop (wpAny_pure q))
theorem tup_end_hot {it t x1 : Addr} {i : Nat} {items : Array Value} {Q : Option Value → Shared → Prop} {E : Value → Shared → Prop} (hot : HotAt A x1 s.heap) (ne : x1 ≠ it) (hit : s.heap.IsTupleIter it t i) (ht : s.heap.IsTuple t items) (hx : items[i]? = none) (hQ : ∀ h', Heap.ExtBut it s.heap h' → Q none { s with heap := h' }) : wpAny (model prog w) A (pyNext (.ref it)) Q E s := by
  obtain ⟨⟨o, ho, hc, hd⟩, ol, hol, _, nl, hdl⟩ := And.intro (id hit) ht
  unfold pyNext; refine wpAny_bind (wpAny_attempt (wpAny_callSpecial?_slot (name := Str.ofString "__next__") hit.typeIs F.slot_tuple_iterator_next (wpAny_call_entry F.slot_tuple_iterator_next hit.typeIs F.entry_tuple_iterator_next ?_ (F.args_tuple_iterator_next_1 _))))
  show wpAny _ _ (field (.ref it) 0 >>= _) _ _ s; refine wpAny_bind (wpAny_field ho hd (x := .ref t) rfl ?_)
  show wpAny _ _ (if (Value.ref t == Value.none) = true then _ else _) _ _ s; rw [if_neg (show ¬ ((Value.ref t == Value.none) = true) from Bool.false_ne_true)]
  show wpAny _ _ (field (.ref it) 1 >>= _) _ _ s; refine wpAny_bind (wpAny_field ho hd (x := .int i 0) rfl ?_)
  show wpAny _ _ (seqItems? (.ref t) >>= _) _ _ s; refine wpAny_bind (wpAny_seqItems hol hdl ?_)
  simp only [Int.toNat_natCast, hx]; refine wpAny_bind (wpAny_rule (wpAny_bind (wpAny_setField ho hd (by simp) ?_)))
  have sb : Heap.SameBut it s.heap (s.heap.update it (Obj.mapFields (·.setIfInBounds 0 .none))) := Heap.SameBut.update ..
  show wpAny _ _ (newExc (.type "StopIteration") [] >>= fun e => raiseNew e) _ _ _
  refine raise_stop_hot (s := { s with heap := s.heap.update it (Obj.mapFields (·.setIfInBounds 0 .none)) }) (hot_keep hot ne sb) fun e h' g k => ?_
  first | exact stop_caught g (hQ h' fun b ob hb eb => k b ob ((sb.2 b hb).trans eb)) | exact wpAny_bind (stop_caught g (hQ h' fun b ob hb eb => k b ob ((sb.2 b hb).trans eb)))
theorem asc_end_hot {it x1 : Addr} {x : Str} {t : Tok} {i : Nat} {Q : Option Value → Shared → Prop} {E : Value → Shared → Prop} (hot : HotAt A x1 s.heap) (ne : x1 ≠ it) (hit : s.heap.IsStrIter it "str_ascii_iterator" x t i) (hx : x.cps[i]? = none) (hQ : ∀ h', Heap.ExtBut it s.heap h' → Q none { s with heap := h' }) : wpAny (model prog w) A (pyNext (.ref it)) Q E s := by
  obtain ⟨o, ho, hc, hd⟩ := id hit
  unfold pyNext; refine wpAny_bind (wpAny_attempt (wpAny_callSpecial?_slot (name := Str.ofString "__next__") hit.typeIs F.slot_str_ascii_iterator_next (wpAny_call_entry F.slot_str_ascii_iterator_next hit.typeIs F.entry_str_ascii_iterator_next ?_ (F.args_str_ascii_iterator_next_1 _))))
  show wpAny _ _ (field (.ref it) 0 >>= _) _ _ s; refine wpAny_bind (wpAny_field ho hd (x := .str x t) rfl ?_)
  show wpAny _ _ (field (.ref it) 1 >>= _) _ _ s; refine wpAny_bind (wpAny_field ho hd (x := .int i 0) rfl ?_)
  simp only [Int.toNat_natCast, hx]; refine wpAny_bind (wpAny_rule (wpAny_bind (wpAny_setField ho hd (by simp) (wpAny_bind (wpAny_letGo ?_)))))
  have sb : Heap.SameBut it s.heap (s.heap.update it (Obj.mapFields (·.setIfInBounds 0 .none))) := Heap.SameBut.update ..
  show wpAny _ _ (newExc (.type "StopIteration") [] >>= fun e => raiseNew e) _ _ _
  refine raise_stop_hot (s := { s with heap := s.heap.update it (Obj.mapFields (·.setIfInBounds 0 .none)) }) (hot_keep hot ne sb) fun e h' g k => ?_
  first | exact stop_caught g (hQ h' fun b ob hb eb => k b ob ((sb.2 b hb).trans eb)) | exact wpAny_bind (stop_caught g (hQ h' fun b ob hb eb => k b ob ((sb.2 b hb).trans eb)))
theorem wid_end_hot {it x1 : Addr} {x : Str} {t : Tok} {i : Nat} {Q : Option Value → Shared → Prop} {E : Value → Shared → Prop} (hot : HotAt A x1 s.heap) (ne : x1 ≠ it) (hit : s.heap.IsStrIter it "str_iterator" x t i) (hx : x.cps[i]? = none) (hQ : ∀ h', Heap.ExtBut it s.heap h' → Q none { s with heap := h' }) : wpAny (model prog w) A (pyNext (.ref it)) Q E s := by
  obtain ⟨o, ho, hc, hd⟩ := id hit
  unfold pyNext; refine wpAny_bind (wpAny_attempt (wpAny_callSpecial?_slot (name := Str.ofString "__next__") hit.typeIs F.slot_str_iterator_next (wpAny_call_entry F.slot_str_iterator_next hit.typeIs F.entry_str_iterator_next ?_ (F.args_str_iterator_next_1 _))))
  show wpAny _ _ (field (.ref it) 0 >>= _) _ _ s; refine wpAny_bind (wpAny_field ho hd (x := .str x t) rfl ?_)
  show wpAny _ _ (field (.ref it) 1 >>= _) _ _ s; refine wpAny_bind (wpAny_field ho hd (x := .int i 0) rfl ?_)
  simp only [Int.toNat_natCast, hx]; refine wpAny_bind (wpAny_rule (wpAny_bind (wpAny_setField ho hd (by simp) (wpAny_bind (wpAny_letGo ?_)))))
  have sb : Heap.SameBut it s.heap (s.heap.update it (Obj.mapFields (·.setIfInBounds 0 .none))) := Heap.SameBut.update ..
  show wpAny _ _ (newExc (.type "StopIteration") [] >>= fun e => raiseNew e) _ _ _
  refine raise_stop_hot (s := { s with heap := s.heap.update it (Obj.mapFields (·.setIfInBounds 0 .none)) }) (hot_keep hot ne sb) fun e h' g k => ?_
  first | exact stop_caught g (hQ h' fun b ob hb eb => k b ob ((sb.2 b hb).trans eb)) | exact wpAny_bind (stop_caught g (hQ h' fun b ob hb eb => k b ob ((sb.2 b hb).trans eb)))
end

/-! ### turns -/
section
variable {X : Cx} {pins : List (Addr × Obj)} {σ : L2.St} {H : Hp} {s : Shared}
theorem hot_ne {it : Addr} (hc : HotC X) (J : Inv X pins σ H s) (ne : ∀ p ∈ X.pn ++ pins, p.1 ≠ it) : ∃ x1, HotAt X.A x1 s.heap ∧ x1 ≠ it := by
  obtain ⟨p, ⟨hh, v1, e1, c1⟩, hp⟩ := hc
  exact ⟨p.1, ⟨hh, p.2, v1, (J.pin p (List.mem_append_left _ hp)).1, e1, c1⟩, ne p (List.mem_append_left _ hp)⟩
end
theorem turn_tupH {P : Program} {w : World} {K : PySem.W.Frag} {tg : Expr} (a it : Addr) : TurnH P w K tg (Itt K a) [it] it (fun i h => h.IsTupleIter it a i) where
  mem := List.mem_singleton.mpr rfl
  obj := fun i h z b hb => by
    rw [List.mem_singleton.mp hb]
    obtain ⟨o, e, _, d⟩ := z
    exact ⟨o, e, fun v q => by rw [d] at q; cases q⟩
  keep := fun i h h' z k => z.at fun o e => k it (List.mem_singleton.mpr rfl) o e
  item := by
    rintro X rfl rfl rfl hc i pins s σ H E J hf z ⟨xs, x, hq, hx⟩
    obtain ⟨its, rv, tp, _⟩ := J.tuple hq
    obtain ⟨u, hu, ru⟩ := rv.get hx
    obtain ⟨g0, g1, g2, g3, g4, g5⟩ := hf it (List.mem_singleton.mpr rfl)
    refine wpAny_pyNext_tuple_item z (show s.heap.IsTuple a its.toArray from tp) (x := u) (by simpa using hu) fun h' z' sb => ?_
    obtain ⟨o, e, c, d⟩ := id z'
    have J1 : Inv X pins σ H { s with heap := h' } := J.turned (t' := s.toks) (fun b o hb e => (sb.2 b hb).trans e) g0 g1 g3 g4 g5
    exact ⟨u, rfl, go_of (s := { s with heap := h' }) e c d (by decide) ⟨x, H, J1, ru, ⟨rfl, fun ys hy => by rw [J.tuple_inj hy hq]; exact hx⟩, z', fun b hb => (hf b hb).1⟩⟩
  done := by
    rintro X rfl rfl rfl hc i pins s σ H E J hf z ⟨xs, hq, hx⟩
    obtain ⟨its, rv, tp, _⟩ := J.tuple hq
    obtain ⟨g0, g1, g2, g3, g4, g5⟩ := hf it (List.mem_singleton.mpr rfl)
    obtain ⟨x1, hot, ne⟩ := hot_ne hc J g5
    have hl := rv.length
    exact tup_end_hot hot ne z (show s.heap.IsTuple a its.toArray from tp) (by simp; omega) fun h' eb => ⟨rfl, J.turned (t' := s.toks) (fun b o hb e => eb b o hb e) g0 g1 g3 g4 g5⟩
  self := fun _ _ _ _ _ z h => wpAny_pyIter_tupleiter z h
theorem pi_tupH {X : Cx} {tg l : Expr} {tl : TE} (hl : PE X l tl) : PIH X tg l (iTup X.K tl) := by
  refine ⟨fun pins s σ H R J h => thn (hl.run pins s σ H _ J h) ?_⟩
  rintro v s1 ⟨x, H1, J1, r1, a, rfl, ⟨xs, hq⟩, q⟩
  cases r1
  obtain ⟨its, rv, tp, _⟩ := J1.tuple hq
  refine wpAny_pyIter_tuple (show s1.heap.IsTuple a its.toArray from tp) ⟨s1.heap.objs.size, [s1.heap.objs.size], _, _, H1, rfl, J1.kept (t' := s1.toks) fun b o e => Heap.get?_push_of_some _ e, turn_tupH a _, ⟨_, Heap.get?_push_size _ rfl, rfl, rfl⟩, fun b hb => ?_, q⟩
  rw [List.mem_singleton.mp hb]
  exact J1.fpOk (Nat.le_refl _) (J1.hok.fresh (Nat.le_refl _))
theorem turn_strH {P : Program} {w : World} {K : PySem.W.Frag} {tg : Expr} (it : Addr) (x : Str) (t : Tok) (ty : String) (hty : ty = "str_ascii_iterator" ∨ ty = "str_iterator") : TurnH P w K tg (Its x) [it] it (fun i h => h.IsStrIter it ty x t i) where
  mem := List.mem_singleton.mpr rfl
  obj := fun i h z b hb => by
    rw [List.mem_singleton.mp hb]
    obtain ⟨o, e, _, d⟩ := z
    exact ⟨o, e, fun v q => by rw [d] at q; cases q⟩
  keep := fun i h h' z k => let ⟨o, ho, r⟩ := z; ⟨o, k it (List.mem_singleton.mpr rfl) o ho, r⟩
  item := by
    rintro X rfl rfl rfl hc i pins s σ H E J hf z hg
    obtain ⟨g0, g1, g2, g3, g4, g5⟩ := hf it (List.mem_singleton.mpr rfl)
    have hcx : x.cps[i]? = some x.cps[i] := Array.getElem?_eq_getElem hg
    have nx : ["enumerate", "zip", "dict_itemiterator", "dict_reverseitemiterator", "odict_iterator", "itertools.zip_longest", "itertools.pairwise"].contains ty = false := by rcases hty with rfl | rfl <;> decide
    have go : ∀ h' tk u, h'.IsStrIter it ty x t (i + 1) → Heap.SameBut it s.heap h' → ∃ v : Value, some (Value.str ⟨#[x.cps[i]]⟩ u) = some v ∧ wpAny (model X.prog X.w) X.A (letOwnedTupleGo tg (.ref it) v) (fun _ s2 => ∃ y H', Inv X pins σ H' s2 ∧ RelV y v ∧ (Its x).yld i H y H' ∧ s2.heap.IsStrIter it ty x t (i + 1) ∧ ∀ b ∈ [it], H' b = none) E { s with heap := h', toks := tk } := fun h' tk u z' sb => by
      have J1 : Inv X pins σ H { s with heap := h', toks := tk } := J.turned (fun b o hb e => (sb.2 b hb).trans e) g0 g1 g3 g4 g5
      obtain ⟨oi, e, cc, dd⟩ := id z'
      exact ⟨_, rfl, go_of (s := { s with heap := h', toks := tk }) e cc dd nx ⟨.str ⟨#[x.cps[i]]⟩, H, J1, ⟨u, rfl⟩, ⟨rfl, _, hcx, rfl⟩, z', fun b hb => (hf b hb).1⟩⟩
    rcases hty with rfl | rfl
    · refine wpAny_pyNext_ascii_item z hcx fun h' z' sb => ?_
      exact go h' _ _ z' sb
    · refine wpAny_pyNext_wide_item z hcx fun h' z' sb => ?_
      exact go h' _ _ z' sb
  done := by
    rintro X rfl rfl rfl hc i pins s σ H E J hf z hg
    obtain ⟨g0, g1, g2, g3, g4, g5⟩ := hf it (List.mem_singleton.mpr rfl)
    obtain ⟨x1, hot, ne⟩ := hot_ne hc J g5
    have hx : x.cps[i]? = none := Array.getElem?_eq_none hg
    rcases hty with rfl | rfl
    · exact asc_end_hot hot ne z hx fun h' eb => ⟨rfl, J.turned (t' := s.toks) (fun b o hb e => eb b o hb e) g0 g1 g3 g4 g5⟩
    · exact wid_end_hot hot ne z hx fun h' eb => ⟨rfl, J.turned (t' := s.toks) (fun b o hb e => eb b o hb e) g0 g1 g3 g4 g5⟩
  self := fun _ _ _ _ _ z h => by
    rcases hty with rfl | rfl
    · exact wpAny_pyIter_striter_ascii z h
    · exact wpAny_pyIter_striter_wide z h

theorem pi_strH {X : Cx} {tg e : Expr} {te : TE} (he : PE X e te) : PIH X tg e (iStr te) := by
  refine ⟨fun pins s σ H R J h => thn (he.run pins s σ H _ J h) ?_⟩
  rintro v s1 ⟨y, H1, J1, r1, x, rfl, q⟩
  obtain ⟨t, rfl⟩ := r1
  have fin : ∀ (o : Obj) (ty : String) (hty : ty = "str_ascii_iterator" ∨ ty = "str_iterator") (k : Nat), (s1.heap.push o).IsStrIter s1.heap.objs.size ty x t 0 → PIEH X pins σ tg R (.ref s1.heap.objs.size) { s1 with heap := s1.heap.push o, toks := k } := fun o ty hty k z =>
    ⟨s1.heap.objs.size, [s1.heap.objs.size], _, _, H1, rfl, J1.kept fun b ob e => Heap.get?_push_of_some _ e, turn_strH _ x t ty hty, z, fun b hb => by
      rw [List.mem_singleton.mp hb]
      exact J1.fpOk (Nat.le_refl _) (J1.hok.fresh (Nat.le_refl _)), q⟩
  cases ha : x.cps.all (· < 128)
  · exact wpAny_pyIter_wide ha (fin _ "str_iterator" (.inr rfl) s1.toks ⟨_, Heap.get?_push_size _ rfl, rfl, rfl⟩)
  · exact wpAny_pyIter_ascii ha (fin _ "str_ascii_iterator" (.inl rfl) s1.toks ⟨_, Heap.get?_push_size _ rfl, rfl, rfl⟩)

/-! ### comprehensions -/
/-- the block's context, the handled exception pinned -/
abbrev blkH (X : Cx) (p : Addr × Obj) (s : Shared) (H : Hp) (scope : Scope) (ce : Env) (fp : List Addr) : Cx := (X.blk s H scope ce fp).tr [p] fun _ _ => False
section
variable {X : Cx} {pins : List (Addr × Obj)} {σ : L2.St} {H : Hp} {s : Shared}
theorem hot_blk {p : Addr × Obj} {s : Shared} {H : Hp} {scope : Scope} {ce : Env} {fp : List Addr} (h : Hot1 X.A p) : HotC (blkH X p s H scope ce fp) := ⟨p, h, List.mem_singleton.mpr rfl⟩
theorem pin_more {Y : Cx} {q : List (Addr × Obj)} {σ' : L2.St} {H' : Hp} {s' : Shared} {p : Addr × Obj} (J : Inv Y [] σ' H' s') (hn : Y.pn = []) (h : s'.heap.get? p.1 = some p.2 ∧ H' p.1 = none ∧ p.1 ≠ Y.env.locals ∧ p.1 ∉ Y.fs ∧ ∀ v, p.2.data ≠ .cell v) : Inv (Y.tr [p] fun _ _ => False) [] σ' H' s' :=
  ⟨J.ok.toTry _ _, J.os, J.bare, J.base, J.loc, J.cell, J.free, J.freeC, fun r hr => by
    have e : r = p := by simpa using (show r ∈ [p] ++ ([] : List (Addr × Obj)) from hr)
    rw [e]; exact h, J.hok, J.len⟩
theorem lc_hot {p : Addr × Obj} {Q : VK} {elt tg iter : Expr} {ifs : List Expr} {scope : Scope} {own : List (Str × Nat)} {pos pos' : Pos} {wi : TI} {g : TG} {tt : TT} {te : TE} {use : Option (Value → Sem Unit)} {Qf : Value → Shared → Prop}
    (hot : Hot1 X.A p) (hp : p ∈ X.pn) (hN : X.N.Nodup) (J : Inv X pins σ H s) (hi : PIH X tg iter wi) (ok : BlkOk X.N X.env.scope scope own)
    (hg : ∀ (s : Shared) (H : Hp) (C : Addr) (cl : List (Str × Addr)) (fp : List Addr), PG (blkH X p s H scope (compEnvC scope cl C X.env) fp) tg g) (ht : ∀ (s : Shared) (H : Hp) (C : Addr) (cl : List (Str × Addr)) (fp : List Addr), PTs (blkH X p s H scope (compEnvC scope cl C X.env) fp) ifs tt)
    (he : ∀ (s : Shared) (H : Hp) (C : Addr) (cl : List (Str × Addr)) (fp : List Addr), PE (blkH X p s H scope (compEnvC scope cl C X.env) fp) elt te) (hs : ∀ x, foldedSetIterable iter X.env x = pure x) (h : tLc wi g tt te (own.map (·.2)) σ H Q)
    (hRR : ∀ D C s' m H', Inv X pins σ H' s' → Q (.ref D) H' → s'.heap.Ns C m → FpOk X pins H' C → compPost (model X.prog X.w) X.A X.xe use Qf (.ref D) C (.ok .next) s') :
    wpAny (model X.prog X.w) X.A (comprehension (.ListComp elt [⟨tg, iter, ifs, 0⟩] scope pos) scope X.env pos' (newList []) false (eval iter X.env) use) Qf X.xe s := by
  have fr : ∀ y ∈ scope.names, y.2 = .free → ∃ c, X.env.cells.lookup y.1 = some c := fun y hy e => (ok.free y hy e).elim (fun k => J.ok.has _ (.inl k)) fun k => J.ok.has _ (.inr k)
  refine wpAny_comprehension_free (use := use) rfl hs (closure_ok fr) ok.kind (fun y hy e => by rw [ok.uniq y hy, e]) (thn (hi.run pins s σ H _ J h) fun xv s1 hx => thn hx ?_)
  rintro _ s2 ⟨it, fp, tn, Jt, H2, rfl, J2, T, z2, f2, q⟩
  refine wpAny_newObj_type (newEnv_comp ?_) (by show 0 ≤ sizeLine; decide)
  obtain ⟨Wt, ⟨m0, w0⟩, turn⟩ := q s2.heap.objs.size (J2.hok.fresh (Nat.le_refl _))
  have J3 : Inv X pins σ (upd H2 s2.heap.objs.size (.lst [])) { s2 with heap := s2.heap.push { cls := .type "list", data := .seq ([] : List Value).toArray } } :=
    J2.laid (t' := s2.toks) (fun b o e => Heap.get?_push_of_some _ e) (Nat.le_refl _) ⟨Nat.zero_le _, [], 0, .nil, Heap.get?_push_size _ rfl⟩
  have small : ∀ b ∈ fp, b < s2.heap.objs.size := fun b hb => (T.obj _ _ z2 b hb).elim fun o e => Heap.lt_size e.1
  have f3 : ∀ b ∈ fp, FpOk X pins (upd H2 s2.heap.objs.size (.lst [])) b ∧ b < (s2.heap.push { cls := .type "list", data := .seq ([] : List Value).toArray }).objs.size := fun b hb =>
    ⟨⟨(upd_ne (Nat.ne_of_lt (small b hb))).trans (f2 b hb).1, (f2 b hb).2⟩, by rw [Heap.size_push]; exact Nat.lt_succ_of_lt (small b hb)⟩
  have z3 : tn 0 (s2.heap.push { cls := .type "list", data := .seq ([] : List Value).toArray }) := T.keep _ _ _ z2 fun b _ o e => Heap.get?_push_of_some _ e
  generalize hD : s2.heap.objs.size = D at *
  generalize hs3 : ({ s2 with heap := s2.heap.push { cls := .type "list", data := .seq ([] : List Value).toArray } } : Shared) = s3 at J3 ⊢
  have h3 : s3.heap = s2.heap.push { cls := .type "list", data := .seq ([] : List Value).toArray } := by rw [← hs3]
  rw [← h3] at f3 z3
  generalize hH3 : upd H2 D (.lst []) = H3 at J3 f3 w0
  have B4 := block_start J3 ok hN f3
  have kp : ∀ b o, s3.heap.get? b = some o → (pushCells (s3.heap.push { cls := .type "dict", data := .dict #[] }) scope.names).get? b = some o := fun b o e => pushCells_keeps _ _ _ _ (Heap.get?_push_of_some _ e)
  have pp := J3.pin p (List.mem_append_left _ hp)
  show codeAny _ _ (.compStart (.ListComp elt [⟨tg, iter, ifs, 0⟩] scope pos) 0 (.ref it) (.ref D) (compEnvC scope (cellsFrom (s3.heap.objs.size + 1) scope.names (cloFrom X.env.cells scope.names [])) s3.heap.objs.size X.env)) (compPost (model X.prog X.w) X.A X.xe use Qf (.ref D) s3.heap.objs.size) { s3 with heap := pushCells (s3.heap.push { cls := .type "dict", data := .dict #[] }) scope.names }
  have J4 := pin_more (q := []) (p := p) B4 rfl ⟨kp p.1 p.2 pp.1, pp.2.1, Nat.ne_of_lt (Heap.lt_size pp.1), fun hm => (List.mem_cons.mp (J3.stkSub p.1 hm)).elim pp.2.2.1 pp.2.2.2.1, pp.2.2.2.2⟩
  have pg := hg s3 H3 s3.heap.objs.size (cellsFrom (s3.heap.objs.size + 1) scope.names (cloFrom X.env.cells scope.names [])) fp
  have pt := ht s3 H3 s3.heap.objs.size (cellsFrom (s3.heap.objs.size + 1) scope.names (cloFrom X.env.cells scope.names [])) fp
  have pe := he s3 H3 s3.heap.objs.size (cellsFrom (s3.heap.objs.size + 1) scope.names (cloFrom X.env.cells scope.names [])) fp
  have z4 : tn 0 ({ s3 with heap := pushCells (s3.heap.push { cls := .type "dict", data := .dict #[] }) scope.names } : Shared).heap := T.keep _ _ _ z3 fun b _ o e => kp b o e
  have nfp : ∀ b ∈ fp, H3 b = none := fun b hb => (f3 b hb).1.1
  have cL : (compEnvC scope (cellsFrom (s3.heap.objs.size + 1) scope.names (cloFrom X.env.cells scope.names [])) s3.heap.objs.size X.env).locals = s3.heap.objs.size := rfl
  generalize compEnvC scope (cellsFrom (s3.heap.objs.size + 1) scope.names (cloFrom X.env.cells scope.names [])) s3.heap.objs.size X.env = ce at J4 pg pt pe cL ⊢
  generalize ({ s3 with heap := pushCells (s3.heap.push { cls := .type "dict", data := .dict #[] }) scope.names } : Shared) = s4 at J4 z4 ⊢
  have hc : HotC (blkH X p s3 H3 scope ce fp) := hot_blk hot
  have stat : ∀ {σ' : L2.St} {H' : Hp} {s' : Shared}, Inv (blkH X p s3 H3 scope ce fp) [] σ' H' s' → tn 0 s'.heap ∨ True → (∀ b ∈ fp, H' b = none) → (∀ b ∈ fp, b ≠ p.1) → ∀ b ∈ fp, FpOk (blkH X p s3 H3 scope ce fp) [] H' b := fun {σ' H' s'} J' _ hn hne b hb =>
    ⟨hn b hb, (J'.ok.exf b hb).1, J'.ok.exfs b hb, .inl hb, fun x c e => (J'.ok.exf b hb).2 x c e, fun r hr => by
      have e : r = p := by simpa using (show r ∈ [p] ++ ([] : List (Addr × Obj)) from hr)
      rw [e]; exact (hne b hb).symm⟩
  have ne : ∀ b ∈ fp, b ≠ p.1 := fun b hb e => (f2 b hb).2.2.2.2.2 p (List.mem_append_left _ hp) e.symm
  refine codeAny_compStart_list ?loop (T.self X.A 0 _ _ _ z4 ?loop)
  case loop =>
    refine compLoop_any (fun n s' => ∃ i H', Inv (blkH X p s3 H3 scope ce fp) [] (wipe σ (own.map (·.2))) H' s' ∧ tn i s'.heap ∧ (∀ b ∈ fp, H' b = none) ∧ Wt i n H') ?_ m0 ⟨0, H3, J4, z4, nfp, w0⟩
    rintro n s5 ⟨i, H5, J5, z5, n5, w5⟩
    rcases turn i n H5 w5 with ⟨stop, qq⟩ | ⟨go, Nx, hNx, step⟩
    · refine thnF (T.done (blkH X p s3 H3 scope ce fp) rfl rfl rfl hc i [] s5 _ H5 (fun _ _ => False) J5 (stat J5 (.inr trivial) n5 ne) z5 stop) ?_
      rintro _ s6 ⟨rfl, J6⟩
      have J7 : Inv X pins σ H5 s6 := J3.call' (ch := fp) J6.os J6.base J6.hok J6.bare fun b hb => ⟨(f3 b hb).1.2.2.2.1, (f3 b hb).1.2.1, (f3 b hb).1.2.2.2.2.1, (f3 b hb).1.2.2.2.2.2⟩
      have nC : H5 s3.heap.objs.size = none := cL ▸ (show H5 ce.locals = none from J6.free)
      obtain ⟨m, hn, _⟩ := J6.loc
      exact hRR D s3.heap.objs.size s6 m H5 J7 qq (cL ▸ (show s6.heap.Ns ce.locals m from hn)) (J3.fpOk (Nat.le_refl _) nC)
    · refine thnF (T.item (blkH X p s3 H3 scope ce fp) rfl rfl rfl hc i [] s5 _ H5 (fun _ _ => False) J5 (stat J5 (.inr trivial) n5 ne) z5 go) ?_
      rintro _ s6 ⟨u, rfl, h6⟩
      refine thnF h6 ?_
      rintro _ s7 ⟨x, H7, J7, r7, y7, z7, n7⟩
      refine thnF (pg.run _ s7 _ H7 x u _ (J7.pinned (stat J7 (.inr trivial) n7 ne) (T.obj _ _ z7)) r7 (step x H7 y7)) ?_
      rintro _ s8 ⟨σ8, H8, J8, hw8, q8⟩
      refine thnF (pt.run _ s8 σ8 H8 _ J8 q8) ?_
      rintro b s9 ⟨H9, J9, q9⟩
      have fin : ∀ {s' : Shared} {H' : Hp}, Inv (blkH X p s3 H3 scope ce fp) ([] ++ pinsAt fp s7.heap) σ8 H' s' → Nx H' → ∃ m, m < n ∧ ∃ i H', Inv (blkH X p s3 H3 scope ce fp) [] (wipe σ (own.map (·.2))) H' s' ∧ tn i s'.heap ∧ (∀ b ∈ fp, H' b = none) ∧ Wt i m H' := fun {s' H'} J' nx => by
        obtain ⟨m', hm, w'⟩ := hNx H' nx
        have held : ∀ b ∈ fp, ∀ o, s7.heap.get? b = some o → s'.heap.get? b = some o ∧ H' b = none := fun b hb o e =>
          have zz := J'.pin (b, o) (List.mem_append_right _ (List.mem_append_right _ (mem_pinsAt hb e)))
          ⟨zz.1, zz.2.1⟩
        refine ⟨m', hm, i + 1, H', (J'.unpinned (pins := [])).weak (by rw [← hw8, wipe_length]) (fun j v e => ?_), T.keep _ _ _ z7 fun b hb o e => (held b hb o e).1, fun b hb => (T.obj _ _ z7 b hb).elim fun o e => (held b hb o e.1).2, w'⟩
        rw [← hw8] at e
        exact (wipe_some e).1
      cases b with
      | false => exact fin J9 (by simpa using q9)
      | true =>
        rw [if_pos rfl] at q9
        refine thnF (pe.run _ s9 σ8 H9 _ J9 q9) ?_
        rintro y s10 ⟨yv, H10, J10, r10, acc, hD10, hz10, nx⟩
        exact app_ok (X := blkH X p s3 H3 scope ce fp) J10 hD10 hz10 r10 fun s11 J11 => fin J11 nx
theorem pe_lcH {p : Addr × Obj} {elt tg iter : Expr} {ifs : List Expr} {scope : Scope} {own : List (Str × Nat)} {pos : Pos} {wi : TI} {g : TG} {tt : TT} {te : TE} (hot : Hot1 X.A p) (hp : p ∈ X.pn) (hN : X.N.Nodup) (hi : PIH X tg iter wi) (ok : BlkOk X.N X.env.scope scope own)
    (hg : ∀ (s : Shared) (H : Hp) (C : Addr) (cl : List (Str × Addr)) (fp : List Addr), PG (blkH X p s H scope (compEnvC scope cl C X.env) fp) tg g) (ht : ∀ (s : Shared) (H : Hp) (C : Addr) (cl : List (Str × Addr)) (fp : List Addr), PTs (blkH X p s H scope (compEnvC scope cl C X.env) fp) ifs tt)
    (he : ∀ (s : Shared) (H : Hp) (C : Addr) (cl : List (Str × Addr)) (fp : List Addr), PE (blkH X p s H scope (compEnvC scope cl C X.env) fp) elt te) (hs : ∀ x, foldedSetIterable iter X.env x = pure x := by intro _; rfl) :
    PE X (.ListComp elt [⟨tg, iter, ifs, 0⟩] scope pos) (tLc wi g tt te (own.map (·.2))) := by
  refine ⟨fun pins s σ H Q J h => ?_⟩
  rw [eval_ListComp]
  refine lc_hot hot hp hN J hi ok hg ht he hs h fun D C s' m H' J' q hn f => ⟨m, hn, fun h'' sb => ⟨.ref D, H', ?_, rfl, q⟩⟩
  exact J'.turned (t' := s'.toks) (fun b o hb e => (sb.2 b hb).trans e) f.1 f.2.1 f.2.2.2.1 f.2.2.2.2.1 f.2.2.2.2.2
end
end FL
/-! FL: defs called within an except suite; raise, try: x = f(..) except C as e. -/
namespace FL
open PySem PySem.Spec PyProof.Rows L2 L2H HotX RZ
set_option autoImplicit false

/-! ### hot: expressions, statements, defs -/
section
variable {X : Cx} {E : XK} {p : Addr × Obj}
theorem pg_tupH {es : List Expr} {k n : Nat} {t : TGs} {pos : Pos} (hc : HotC X) (h : PGs X es t) (hn : (assignEach es X.env).length = n := by rfl) (hst : (assignEach es X.env).findIdx? (·.1) = none := by rfl) : PG X (.Tuple es k pos) (gTup X.K n t) := by
  refine ⟨fun pins s σ H v u Q J r hw => ?_⟩
  obtain ⟨a, xs, rfl, hq, hl, hw⟩ := hw
  cases r
  obtain ⟨its, rv, ht, hz⟩ := J.tuple hq
  have hT : s.heap.IsTuple a its.toArray := ht
  have hlt : a ≠ s.heap.objs.size := Nat.ne_of_lt ht.lt
  obtain ⟨x1, hot⟩ := hc.at J
  have hx1 : x1 < s.heap.objs.size := by obtain ⟨_, o, _, e, _⟩ := hot; exact Heap.lt_size e
  have hsz : n = its.toArray.size := by rw [List.size_toArray, ← rv.length, hl]
  rw [assign_Tuple]; refine wpAny_bind (wpAny_standAt ?_)
  unfold unpack; rw [hn, hst, hsz]; refine wpAny_bind (wpAny_holding ?_)
  unfold unpackItems notIterableAtAll; refine wpAny_bind (wpAny_bind (wpAny_specialOf hT.typeIs PySem.F.slot_tuple_iter.lookup (wpAny_pure ?_)))
  simp only [Bool.false_eq_true, if_false]; refine wpAny_bind (wpAny_holding (wpAny_pyIter_tuple hT ?_))
  refine wpAny_bind (wpAny_holding (wpAny_draw_tuple hlt its.toArray.size 0 _ _ ⟨_, Heap.get?_push_size _ rfl, rfl, rfl⟩ (hT.push _) (by omega) fun h₁ z1 sb => ?_))
  have hall : List.take its.toArray.size (List.drop 0 its.toArray.toList) = its.toArray.toList := by rw [List.drop_zero]; exact List.take_of_length_le (by simp)
  rw [hall, if_neg (by simp)]
  have hot1 : HotAt X.A x1 h₁ := by
    obtain ⟨hh, o, vs, e, r⟩ := hot
    exact ⟨hh, o, vs, (sb.2 x1 (Nat.ne_of_lt hx1)).trans (Heap.get?_push_of_some _ e), r⟩
  refine wpAny_bind (wpAny_holding (tup_end_hot (s := { s with heap := h₁ }) hot1 (Nat.ne_of_lt hx1) z1 ((hT.push _).extBut sb.extBut hlt) (by simp) fun h₂ eb => ?_))
  simp only [Option.isSome_none, Bool.false_eq_true, if_false]; refine wpAny_pure ?_
  have J1 : Inv X pins σ H { s with heap := h₂ } := J.kept (t' := s.toks) fun b o e => eb b o (Nat.ne_of_lt (Heap.lt_size e)) (sb.extBut b o (Nat.ne_of_lt (Heap.lt_size e)) (Heap.get?_push_of_some _ e))
  exact h.run pins _ σ H xs _ Q J1 (by simpa using rv) hw
theorem de_compH {elt tg iter : Expr} {ifs : List Expr} {scope : Scope} {own : List (Str × Nat)} {pos : Pos} {wi : TI} {g : TG} {Fi : FA} {T : FT} {t : FB} {F : FE} (hot : Hot1 X.A p) (hp : p ∈ X.pn) (hN : X.N.Nodup) (hi : PIH X tg iter wi) (ai : AdI X.K E Fi wi) (ok : BlkOk X.N X.env.scope scope own)
    (hg : ∀ (s : Shared) (H : Hp) (C : Addr) (cl : List (Str × Addr)) (fp : List Addr), PG (blkH X p s H scope (compEnvC scope cl C X.env) fp) tg g) (ad : AdTw X.K T g (own.map (·.2)))
    (ht : ∀ (s : Shared) (H : Hp) (C : Addr) (cl : List (Str × Addr)) (fp : List Addr), PTs (blkH X p s H scope (compEnvC scope cl C X.env) fp) ifs (tDb X.K (fun _ _ _ => False) t))
    (he : ∀ (s : Shared) (H : Hp) (C : Addr) (cl : List (Str × Addr)) (fp : List Addr), PE (blkH X p s H scope (compEnvC scope cl C X.env) fp) elt (tD X.K (fun _ _ _ => False) F)) (hs : ∀ x, foldedSetIterable iter X.env x = pure x := by intro _; rfl) :
    PE X (.ListComp elt [⟨tg, iter, ifs, 0⟩] scope pos) (tD X.K E (fComp (own.map (·.2)) Fi T t F)) := (pe_lcH hot hp hN hi ok hg ht he hs).imp fun _ _ _ => tD_comp ai ad
theorem d_forH {iter tg : Expr} {body : List Stmt} {wi : TI} {g : TG} {pos : Pos} {Fi : FA} {T : FT} {G : FS} (hpo : PassesOwn (model X.prog X.w) X.A X.env X.xe) (hc : HotC X) (hi : PIH X tg iter wi) (ai : AdI X.K E Fi wi) (hg : PG X tg g) (ad : AdT X.K T g) (hb : PSs X body (tS X.K E G))
    (hs : ∀ x, foldedSetIterable iter X.env x = pure x := by intro _; rfl) : PS X (.For tg iter body [] pos) (tS X.K E (gFor Fi T G)) := (ps_forH hpo hc hi hg hb hs).imp fun _ _ _ => tS_for ai ad
theorem de_callH {k n : Nat} {f : Addr} {fd : FuncData} {ps : List Str} {x : Str} {q pos : Pos} {e : Expr} {es : List Expr} {Fs : FA} {g : GL} (G : FnH X.prog X.w X.K X.mg X.base CX0 k f fd ps (spF X.K n g)) (hr : RoomH k X.A) (hc : HotC X) (hg : Gl X x) (hm : X.mg x = some (.ref f)) (hk : PySem.W.keepIn X.K (.ref f) = true) (hb : Binds X.K fd ps [])
    (ha : PA X (e :: es) (tDa X.K E Fs)) (hlen : ∀ ρ μ ds μ1, Fs ρ μ = .ok ds μ1 → ds.length = n) (hdb : (x == ("__debug__" : Str)) = false := by decide) (he : starEach (e :: es) X.env = (false, eval e X.env) :: starEach es X.env := by rfl) (hpl : (backTo pos (starEach es X.env)).any (·.1) = false := by rfl) :
    PE X (.Call (.Name x q) (e :: es) [] pos) (tD X.K E (fCall g Fs)) :=
  (pe_callH (E := fun _ => E) G hr hc hg hm hk hb (fun _ _ _ _ _ _ _ h => h.elim) ha hdb he hpl).imp fun σ H Q ⟨w, ρ, μ, hw, sr, z⟩ => ⟨w, ρ, μ, hw, sr, by
    cases e1 : Fs ρ μ with
    | ok ds μ1 =>
      intro vs w1 x1 r1 h1
      refine ⟨by rw [h1.length]; exact hlen ρ μ ds μ1 e1, w1, ds, μ1, rfl, r1, h1, ?_⟩
      unfold fCall at z
      rw [e1] at z
      exact Post.ext x1 z
    | ex C fs μ1 => unfold fCall at z; rw [e1] at z; exact z
    | no => unfold fCall at z; rw [e1] at z; exact z⟩
theorem de_callH0 {k : Nat} {f : Addr} {fd : FuncData} {x : Str} {q pos : Pos} {g : GL} (G : FnH X.prog X.w X.K X.mg X.base CX0 k f fd [] (spF X.K 0 g)) (hr : RoomH k X.A) (hc : HotC X) (hg : Gl X x) (hm : X.mg x = some (.ref f)) (hk : PySem.W.keepIn X.K (.ref f) = true) (hb : Binds X.K fd [] [])
    (hdb : (x == ("__debug__" : Str)) = false := by decide) : PE X (.Call (.Name x q) [] [] pos) (tD X.K E (fCall g fNil)) := ⟨fun pins s σ H Q J ⟨w, ρ, μ, hw, sr, z⟩ =>
  wpAny_Call_Name_kw (ld_glob J hg hm (PySem.W.callWith_K0 J.kIn hk (run_fnH (us := []) (E := fun _ => E) G hr hc hb (fun _ _ _ _ _ _ h => h.elim) J .nil ⟨rfl, w, [], μ, hw, sr.rep, .nil, z⟩)) hdb)⟩
end
theorem def_okH {P : Program} {w : World} {K : PySem.W.Frag} {mg : Str → Option Value} {base : Heap} {x qual : Str} {st : Stmt} {f : Addr} {fd : FuncData} {N ps : List Str} {k n : Nat} {g : GL} {G : FS} (F : Fun K x qual st f fd) (S : FnScope N ps (defScope st)) (hn : ps.length = n)
    (hbody : ∀ (cdv : Value) (A : Around) (outer : List Env) (s : Shared) (H : Hp) (E : XK) (p : Addr × Obj), Hot1 A p → RoomH k (A.deeper (envOfC qual (defScope st) s.heap.objs.size f cdv)) → PSs (cxH CX0 P w K mg base N qual (defScope st) f cdv A outer s H E p).nox (defBody st) (tS K E0 G))
    (hg : ∀ ds μ, ds.length = n → Exit μ (G (enter N.length ds) μ) (g ds μ)) (hx : ∀ ds μ C fs μ1, g ds μ ≠ .ex C fs μ1) : FnH P w K mg base CX0 (k + 1) f fd ps (spF K n g) := by
  obtain ⟨oc, od, kV, doc, pm, an, cdv, ct, osl, rfl, lk, hcd⟩ := F.ex
  refine fn_ofH lk hcd S (fun vs H Q E h => h.1.trans hn.symm) fun A outer s H vs Q E p hot hr h => ?_
  obtain ⟨hl, w1, ds, μ, rfl, r, l, pq⟩ := h
  refine ⟨_, (hbody cdv A outer s w1.H E p hot hr).nox, w1, enter N.length ds, μ, rfl, sr_start r l, ?_⟩
  have ex := hg ds μ (by rw [← l.length]; exact hl)
  cases q : g ds μ with
  | no => rw [q] at pq; exact pq.elim
  | ex C fs μ1 => exact absurd q (hx _ _ _ _ _)
  | ok d μ1 =>
    rw [q] at pq ex
    rcases ex with ⟨d0, μ0, e0, lv⟩ | ⟨ρ, μ0, e0, lv⟩
    · rw [e0]; exact fun v w2 e2 r2 h2 => Leave.use r lv e2 r2 h2 pq
    · rw [e0]; exact fun σ w2 e2 s2 => Leave.use (v := .non) r lv e2 s2.rep .non pq
theorem noG_okH {P : Program} {w : World} {K : PySem.W.Frag} {mg : Str → Option Value} {base : Heap} {CX : CXT} {k n : Nat} {f : Addr} {fd : FuncData} {ps : List Str} : FnH P w K mg base CX k f fd ps (spF K n noG) := by
  refine ⟨fun vs H Q E h => ?_, fun A outer s H args us vs Q E p hr h1 h2 e0 hb r h => ?_⟩
  · obtain ⟨_, _, _, _, _, _, _, z⟩ := h; exact z.elim
  · obtain ⟨_, _, _, _, _, _, _, z⟩ := h; exact z.elim

/-! ### raise -/
def gRaise (C : Addr) : FS := fun _ μ => .ex C [] μ
def runX (n : Nat) (G : FS) : GL := fun ds μ => match G (enter n ds) μ with
  | .ok (.rt d) μ0 => .ok d μ0
  | .ok (.nx _) μ0 => .ok .non μ0
  | .ex C fs μ0 => .ex C fs μ0
  | _ => .no
theorem runX_exit {n : Nat} {G : FS} (ds : List D) (μ : Mu) : Exit μ (G (enter n ds) μ) (runX n G ds μ) := by
  unfold runX Exit
  cases q : G (enter n ds) μ with
  | no => trivial
  | ex C fs μ1 => rfl
  | ok o μ0 =>
    cases o with
    | rt d => exact .inl ⟨d, μ0, rfl, .all⟩
    | nx ρ => exact .inr ⟨ρ, μ0, rfl, .all⟩
    | bk ρ => trivial
    | ct ρ => trivial
theorem d_raise {X : Cx} {E : XK} {C : Addr} {bmB : List Value} {B newId initId : String} {x m : Str} {j : Nat} {q p2 pos pos2 : Pos} (hc : X.calm = true) (tk : L2N.Takes X fun cls d _ H => E cls d H) (F : ExcBaseFacts B newId initId bmB) (he : PySem.W.excIn X.K C bmB newId = true) (gC : X.mg x = some (.ref C))
    (kC : PySem.W.keepIn X.K (.ref C) = true) (r : Raises X (.ref C)) (hg : Gl X x) (hdb : (x == ("__debug__" : Str)) = false := by decide) : PS X (.Raise (some (.Call (.Name x q) [.Constant (.str m) j p2] [] pos)) none pos2) (tS X.K E (gRaise C)) :=
  (L2N.ps_raise hc tk (L2N.pmk_own F he gC kC r hg hdb)).imp fun Z σ H ⟨w, ρ, μ, hw, sr, z⟩ => hw ▸ z none w (Ext.refl w) sr.rep rfl
theorem def_okX {P : Program} {w : World} {K : PySem.W.Frag} {mg : Str → Option Value} {base : Heap} {x qual : Str} {st : Stmt} {f : Addr} {fd : FuncData} {N ps : List Str} {k n : Nat} {g : GL} {G : FS} (F : Fun K x qual st f fd) (S : FnScope N ps (defScope st)) (hn : ps.length = n)
    (hbody : ∀ (cdv : Value) (A : Around) (outer : List Env) (s : Shared) (H : Hp) (E : XK), Room k (A.deeper (envOfC qual (defScope st) s.heap.objs.size f cdv)) → L2N.Takes (cxOf (L2N.CX P w) P w K mg base N qual (defScope st) f cdv A outer s H E) (fun cls d _ H => E cls d H) →
      PSs (cxOf (L2N.CX P w) P w K mg base N qual (defScope st) f cdv A outer s H E) (defBody st) (tS K E G))
    (hg : ∀ ds μ, ds.length = n → Exit μ (G (enter N.length ds) μ) (g ds μ)) : FnOk P w K mg base (L2N.CX P w) (k + 1) f fd ps (spF K n g) := by
  obtain ⟨oc, od, kV, doc, pm, an, cdv, ct, osl, rfl, lk, hcd⟩ := F.ex
  refine fn_of lk hcd S (fun vs H Q E h => h.1.trans hn.symm) fun A outer s H vs Q E hr h => ?_
  obtain ⟨hl, w1, ds, μ, rfl, r, l, pq⟩ := h
  refine ⟨_, hbody cdv A outer s w1.H E hr (L2N.takes_of rfl rfl rfl rfl), w1, enter N.length ds, μ, rfl, sr_start r l, ?_⟩
  have ex := hg ds μ (by rw [← l.length]; exact hl)
  cases q : g ds μ with
  | no => rw [q] at pq; exact pq.elim
  | ex C fs μ1 =>
    rw [q] at pq ex
    rw [show G (enter N.length ds) μ = .ex C fs μ1 from ex]
    exact pq
  | ok d μ1 =>
    rw [q] at pq ex
    rcases ex with ⟨d0, μ0, e0, lv⟩ | ⟨ρ, μ0, e0, lv⟩
    · rw [e0]; exact fun v w2 e2 r2 h2 => Leave.use r lv e2 r2 h2 pq
    · rw [e0]; exact fun σ w2 e2 s2 => Leave.use (v := .non) r lv e2 s2.rep .non pq

/-! ### try: y = f(..) except C as e: a suite that returns -/
def gTryCall (j : Nat) (g : GL) (Fs : FA) (C : Addr) (i : Nat) (G2 : Addr → FS) : FS := fun ρ μ => (Fs ρ μ).bind fun ds μ1 => match g ds μ1 with
  | .ok d μ2 => .ok (.nx (ρ.set j (some d))) μ2
  | .ex C' [] μ2 => if C' = C then (match G2 0 (ρ.set i (some (.cls 0))) μ2 with
      | .ok (.rt d) μ3 => .ok (.rt d) μ3
      | _ => .no) else .no
  | _ => .no
theorem d_tryCall {X : Cx} {E : XK} {C : Addr} {k n i j : Nat} {f : Addr} {fd : FuncData} {ps : List Str} {x xc y en : Str} {q np pos py spos tpos hpos : Pos} {e : Expr} {es : List Expr} {Fs : FA} {g : GL} {b₀ : Stmt} {suite : List Stmt} {G2 : Addr → FS}
    (G : FnOk X.prog X.w X.K X.mg X.base (L2N.CX X.prog X.w) k f fd ps (spF X.K n g)) (hr : Room k X.A) (hN : X.N.Nodup) (hs : X.stack = X.env :: X.outer) (hf : X.env.frame = some X.env.locals) (hi : X.N[i]? = some en) (hln : X.env.kindOf en = some .local) (hc : Names X xc (.ref C)) (tk : L2N.Takes X (fun _ _ _ _ => False))
    (hej : X.N[j]? = some y) (hyl : Loc X.env.scope y) (hyf : X.fn y = true ∨ X.env.scope.names.lookup y = some .local) (hg : Gl X x) (hm : X.mg x = some (.ref f)) (hk : PySem.W.keepIn X.K (.ref f) = true) (hb : Binds X.K fd ps []) (te : PySem.W.exmOne X.K (.ref C) (.ref C) = some true)
    (ha : ∀ pn xe, PA (X.tr pn xe) (e :: es) (tDa X.K E Fs)) (hlen : ∀ ρ μ ds μ1, Fs ρ μ = .ok ds μ1 → ds.length = n) (hnx : ∀ (ρ : Rho) (μ : Mu) (C : Addr) (fs : List (Str × D)) (μ1 : Mu), Fs ρ μ ≠ .ex C fs μ1)
    (hind : ∀ (a : Addr) (ρ : Rho) (μ : Mu), G2 a (ρ.set i (some (.cls a))) μ = G2 0 (ρ.set i (some (.cls 0))) μ)
    (hsu : ∀ (a : Addr) (oe : Obj) (pn : List (Addr × Obj)), L2N.Zn (.ref C) none oe → (∃ vs, oe.data = .fields vs) → PSs (X.suite a ((a, oe) :: pn)) (b₀ :: suite) (tS X.K E0 (G2 a)))
    (hsw : swapsWithSole [.Name y py] (.Call (.Name x q) (e :: es) [] pos) spos.line X.env = pure false := by rfl) (hss : swappedStores [.Name y py] (.Call (.Name x q) (e :: es) [] pos) X.env = pure none := by rfl)
    (hdb : (x == ("__debug__" : Str)) = false := by decide) (he : starEach (e :: es) X.env = (false, eval e X.env) :: starEach es X.env := by rfl) (hpl : (backTo pos (starEach es X.env)).any (·.1) = false := by rfl) :
    PS X (.Try [.Assign [.Name y py] (.Call (.Name x q) (e :: es) [] pos) spos] [.ExceptHandler (some (.Name xc np)) (some en) (b₀ :: suite) hpos] [] [] tpos) (tS X.K E (gTryCall j g Fs C i G2)) :=
  (L2N.ps_try_as (tb := fun W => tAsg (tCallS (spF X.K n g) (WE W) (tDa X.K E Fs)) (gName j)) (ts := fun a cls d Z σ H => (cls = .ref C ∧ d = none) ∧ tS X.K E0 (G2 a) Z σ H) (Wout := fun _ _ _ _ => False) hs hf hN hi hln hc tk
    (fun W pn xe tk' _ => pss_one (ps_asg (pe_callS G hr hg hm hk hb (fun σ => L2N.passAt tk' σ) (ha pn xe) hdb he hpl) (pg_name hN hej hyl hyf) hsw hss))
    (fun a oe cls d pn hz hv => ⟨fun pins s σ H Z J h => by
      obtain ⟨⟨rfl, rfl⟩, h⟩ := h
      exact (hsu a oe pn hz hv).run pins s σ H Z J h⟩)).imp fun Z σ H ⟨w, ρ, μ, hw, sr, z⟩ => by
    refine ⟨w, ρ, μ, hw, sr, ?_⟩
    unfold gTryCall at z
    cases e1 : Fs ρ μ with
    | no => rw [e1] at z; exact z.elim
    | ex C fs μ1 => exact absurd e1 (hnx _ _ _ _ _)
    | ok ds μ1 =>
      rw [e1] at z
      intro vs w1 x1 r1 h1
      refine ⟨by rw [h1.length]; exact hlen ρ μ ds μ1 e1, w1, ds, μ1, rfl, r1, h1, ?_⟩
      have z : PostS X.K E w Z (match g ds μ1 with
        | .ok d μ2 => .ok (.nx (ρ.set j (some d))) μ2
        | .ex C' [] μ2 => if C' = C then (match G2 0 (ρ.set i (some (.cls 0))) μ2 with
            | .ok (.rt d) μ3 => .ok (.rt d) μ3
            | _ => .no) else .no
        | _ => .no) := z
      cases e2 : g ds μ1 with
      | no => rw [e2] at z; exact z.elim
      | ok d μ2 =>
        rw [e2] at z
        exact fun v w2 x2 r2 h2 => z _ w2 (x1.trans x2) ((sr.ext (x1.trans x2) r2).set j h2)
      | ex C' fs μ2 =>
        rw [e2] at z
        cases fs with
        | cons a b => exact z.elim
        | nil =>
          simp only at z
          by_cases hC : C' = C
          · subst hC
            rw [if_pos rfl] at z
            intro dx w2 x2 r2 xa
            refine ⟨true, te, fun _ a na => ⟨⟨rfl, xa⟩, w2, ρ.set i (some (.cls a)), μ2, rfl, (sr.ext (x1.trans x2) r2).set i (.cls a), ?_⟩, fun y => by cases y⟩
            rw [hind]
            cases e3 : G2 0 (ρ.set i (some (.cls 0))) μ2 with
            | no => rw [e3] at z; exact z.elim
            | ex C fs μ3 => rw [e3] at z; exact z.elim
            | ok o μ3 =>
              rw [e3] at z
              cases o with
              | rt d => exact fun v w3 x3 r3 h3 => z v w3 ((x1.trans x2).trans x3) r3 h3
              | nx ρ' => exact z.elim
              | bk ρ' => exact z.elim
              | ct ρ' => exact z.elim
          · rw [if_neg hC] at z; exact z.elim
/-- isinstance(e, P), e the exception in hand -/
def gIsE (a P : Addr) (b : Bool) : GL := fun ds μ => match ds with
  | [.cls x, .cls y] => if x = a ∧ y = P then .ok (.bl b) μ else .no
  | _ => .no
theorem ad_isE {K : PySem.W.Frag} {E : XK} {a C P : Addr} {b : Bool} (h : PySem.W.kitOne K (.ref C) (.ref P) = some b) : AdL K E (gIsE a P b) (rIsE K C a) := fun w μ vs ds Q r hv z => by
  unfold gIsE at z
  split at z
  · split at z
    · rename_i hz
      obtain ⟨rfl, rfl⟩ := hz
      cases hv with
      | cons h1 h2 =>
        cases h2 with
        | cons h3 h4 =>
          cases h4
          cases h1
          cases h3
          exact ⟨_, _, b, rfl, fun u hu => hu, h, post_here z r (.bl _)⟩
    · exact z.elim
  · exact z.elim
theorem suite_hot {X : Cx} {a : Addr} {oe : Obj} {pn : List (Addr × Obj)} {cls : Value} {d : Option Addr} (hz : L2N.Zn cls d oe) (hv : ∃ vs, oe.data = .fields vs) : Hot1 (X.suite a ((a, oe) :: pn)).A (a, oe) := by
  refine ⟨rfl, ?_⟩
  have h := hz.2.2
  obtain ⟨vs, e⟩ := hv
  first
  | (obtain ⟨vs', e', c⟩ := h; exact ⟨vs', e', c⟩)
  | exact ⟨vs, e, h vs e⟩
end FL
/-! FL: generator defs; sep.join(f(..)) of one. -/
namespace FL
open PySem PySem.Spec PyProof.Rows L2 RZ GenW
set_option autoImplicit false

/-! ### if and for within a generator, no exception -/
section
variable {X : Cx}
def tGIf (c : TT) (t u : TGn) : TGn := fun D ys σ H => c σ H fun b H1 => if b = true then t D ys σ H1 else u D ys σ H1
theorem gs_if {test : Expr} {p q : List Stmt} {pos : Pos} {tc : TT} {t u : TGn} (hc : PT X test tc) (h1 : GSs X p t) (h2 : GSs X q u) : GS X (.If test p q pos) (tGIf tc t u) := by
  refine ⟨fun A S ip R n ys s₀ c fs K J gd lv s σ H D g hn k hI ht => ?_⟩
  rw [arm_exec_If]
  refine seg_bind_wrap (wpAny_standAt ?_)
  obtain ⟨acc, cc, r, I⟩ := hI
  refine seg_bind_wrap ?_
  rw [g.over]
  refine wpAny_mono (hc.run _ s σ H _ I ht) (fun b s1 ⟨H1, I1, q1⟩ => ?_) fun x s1 hx => k.exc n s₀ x s1 hx
  cases b with
  | true =>
    rw [if_pos rfl] at q1 ⊢
    exact h1.run A S ip R n ys s₀ c fs K J gd lv s1 σ H1 D g hn k ⟨acc, cc, r, I1⟩ q1
  | false =>
    rw [if_neg Bool.false_ne_true] at q1 ⊢
    exact h2.run A S ip R n ys s₀ c fs K J gd lv s1 σ H1 D g hn k ⟨acc, cc, r, I1⟩ q1
/-- how a loop's code goes on behind a statement, behind an exception -/
abbrev fK (tg : Expr) (it : Value) (body : List Stmt) (env : Env) : Flow → Sem PySem.Fin := fun f => match f with
  | .next | .cont => .pure (.again (.forLoop tg it body [] env))
  | .brk => .pure (.done .next)
  | .ret v => .pure (.done (.ret v))
abbrev fJ (env : Env) : Value → Sem PySem.Fin := fun e => (do noteFrame e env; theTreesLotGoes e : Sem Unit).wrap (fun _ => .raise e) .raise id id
theorem seg_forTurn {prog : Program} {w : World} {A : Around} {R : GenEnd} {Y : Protocol} {n : Nat} {s₀ s : Shared} {fs : List Frame} {env : Env} {tg : Expr} {it : Value} {body : List Stmt}
    (h : wpAny (model prog w) (A.over (.forLoop tg it body [] env) fs) (pyNext it) (fun r s1 => match r with
      | none => Seg (model prog w) A R Y n s₀ (.forLoop tg it body [] env) (.pure (.again (.block [] env))) fs s1
      | some v => wpAny (model prog w) (A.over (.forLoop tg it body [] env) fs) (letOwnedTupleGo tg it v) (fun _ s2 => wpAny (model prog w) (A.over (.forLoop tg it body [] env) fs) (assign tg env v) (fun _ s3 =>
          Seg (model prog w) A R Y n s₀ (.forLoop tg it body [] env) ((execs body env).wrap (fK tg it body env) (fJ env) id id) fs s3) (fun _ _ => False) s2) (fun _ _ => False) s1) (fun _ _ => False) s) :
    Seg (model prog w) A R Y n s₀ (.forLoop tg it body [] env) ((model prog w).den (.forLoop tg it body [] env)) fs s := by
  show Seg _ A R Y n s₀ _ ((forTurn tg it body [] env).onRaise (fun x => do noteFrame x env; theTreesLotGoes x)) fs s
  unfold forTurn
  rw [Sem.onRaise_eq_wrap]
  refine seg_bind_wrap (wpAny_standAt ?_)
  refine seg_bind_wrap (wpAny_onRaise (wpAny_mono h (fun r s1 h1 => ?_) fun _ _ z => z.elim))
  cases r with
  | none => exact h1
  | some v =>
    refine seg_bind_wrap (wpAny_mono h1 (fun _ s2 h2 => ?_) fun _ _ z => z.elim)
    refine seg_bind_wrap (wpAny_mono h2 (fun _ s3 h3 => ?_) fun _ _ z => z.elim)
    rw [Sem.bind_eq_wrap', Sem.wrap_wrap]
    rw [Sem.wrap_congr (execs body env) _ _ (K' := fK tg it body env) (H' := fJ env) (fun f => by cases f <;> rfl) (fun e => by first | exact Sem.bind_eq_wrap _ _ | (show (do noteFrame e env; theTreesLotGoes e : Sem Unit).bind (fun _ => .raise e) = _; rw [Sem.bind_eq_wrap]))]
    exact h3
def tGFor (wi : TI) (g : TG) (tb : TGn) : TGn := fun D ys σ H => wi σ H fun J H1 => ∃ W : Nat → Nat → List V → L2.St → Hp → Prop, (∃ m, W 0 m ys σ H1) ∧ ∀ i m ys σ H, W i m ys σ H →
  (J.stop i H ∧ D.nx ys σ H) ∨ (J.go i H ∧ ∃ N : List V → L2.St → Hp → Prop, (∀ ys' σ' H', N ys' σ' H' → ∃ m', m' < m ∧ W (i + 1) m' ys' σ' H') ∧ ∀ x H', J.yld i H x H' → g x σ H' fun σ2 H2 => tb { D with nx := N, ct := N, bk := D.nx } ys σ2 H2)
theorem gs_for {iter tg : Expr} {body : List Stmt} {pos : Pos} {wi : TI} {g : TG} {tb : TGn} (hx : X.xe = fun _ _ => False) (hc : X.calm = true) (hi : PI X tg iter wi) (hg : PG X tg g) (hb : GSs X body tb)
    (hs : ∀ x, foldedSetIterable iter X.env x = pure x := by intro _; rfl) : GS X (.For tg iter body [] pos) (tGFor wi g tb) := by
  have nox : ∀ {α : Type} {t : Sem α} {Q Q' : α → Shared → Prop} {E : Value → Shared → Prop} {s : Shared}, wpAny (model X.prog X.w) X.A t Q X.xe s → (∀ a s', Q a s' → Q' a s') → wpAny (model X.prog X.w) X.A t Q' E s := fun h k => by
    rw [hx] at h
    exact wpAny_mono h k fun _ _ z => z.elim
  refine ⟨fun A S ip R n ys s₀ c fs K J gd lv s σ H D gc hn k hI ht => ?_⟩
  rw [arm_exec_For]
  refine seg_bind_wrap (wpAny_standAt ?_)
  obtain ⟨acc, cc, r, I⟩ := hI
  refine seg_bind_wrap ?_
  rw [gc.over]
  refine nox (hi.run _ s σ H _ I ht) fun v s1 h1 => ?_
  rw [hs v]
  refine seg_bind_wrap (wpAny_pure ?_)
  refine seg_bind_wrap (wpAny_standAt ?_)
  refine seg_bind_wrap (wpAny_holding ?_)
  rw [gc.over]
  refine nox h1 ?_
  rintro _ s2 ⟨it, fp, tn, Jt, H2, rfl, I2, T, z2, f2, W, ⟨m0, w0⟩, turn⟩
  refine seg_call fun p => ?_
  have gl := fun (kk : Result → Sem PySem.Fin) => gc_loop (k := kk) (c' := .forLoop tg (.ref it) body [] X.env) (l := lv []) (kp := []) (p := p) gc rfl rfl
  have nS : ∀ b ∈ fp, b ≠ S := fun b hb e => (f2 b hb).2.2.2.2.2 (S, lstObj acc cc) (List.mem_append_right _ List.mem_cons_self) e.symm
  have stat : ∀ {H' : Hp} {acc' : Array Value} {c' : Nat}, (∀ b ∈ fp, H' b = none) → ∀ b ∈ fp, FpOk X ((S, lstObj acc' c') :: ip) H' b := fun {H' acc' c'} hn b hb =>
    ⟨hn b hb, (f2 b hb).2.1, (f2 b hb).2.2.1, (f2 b hb).2.2.2.1, (f2 b hb).2.2.2.2.1, fun q hq => by
      rcases List.mem_append.mp hq with y | y
      · exact (f2 b hb).2.2.2.2.2 q (List.mem_append_left _ y)
      · rcases List.mem_cons.mp y with y | y
        · rw [y]; exact (nS b hb).symm
        · exact (f2 b hb).2.2.2.2.2 q (List.mem_append_right _ (List.mem_cons_of_mem _ y))⟩
  have loop : ∀ (m i n : Nat) (ys : List V) (s₀ s : Shared) (σ : L2.St) (H : Hp), n + ys.length = sizeLine → W i m ys σ H → GI X S ip ys σ H s → tn i s.heap → (∀ b ∈ fp, H b = none) →
      Seg (model X.prog X.w) A R (GY X S) n s₀ (.forLoop tg (.ref it) body [] X.env) ((model X.prog X.w).den (.forLoop tg (.ref it) body [] X.env))
        (.ret (fun r => ((match r with | .ok f => (.pure f : Sem Flow) | .error e => .raise e).onRaise (cameBack X.env)).wrap K J gd lv) none (gd false) (lv []) c p [] :: fs) s := by
    intro m
    induction m using Nat.strongRecOn with
    | ind m ih =>
      intro i n ys s₀ s σ H hn w hI zt fr
      obtain ⟨acc', cc', r', I'⟩ := hI
      refine seg_forTurn ?_
      rw [(gl _).over]
      rcases turn i m ys σ H w with ⟨stop, qn⟩ | ⟨go, N, hN, step⟩
      · refine wpAny_mono (T.done X rfl rfl rfl hc i ((S, lstObj acc' cc') :: ip) s σ H (fun _ _ => False) I' (stat fr) zt stop) ?_ fun _ _ z => z
        rintro _ s3 ⟨rfl, I3⟩
        refine seg_again rfl ?_
        show Seg _ A R (GY X S) n s₀ (.block [] X.env) ((model X.prog X.w).den (.block [] X.env)) _ s3
        exact seg_leaf (.ok .next) (k.ok n ys s₀ s3 .next hn ⟨σ, H, ⟨acc', cc', r', I3⟩, qn⟩)
      · refine wpAny_mono (T.item X rfl rfl rfl hc i ((S, lstObj acc' cc') :: ip) s σ H (fun _ _ => False) I' (stat fr) zt go) ?_ fun _ _ z => z
        rintro _ s3 ⟨u, rfl, h3⟩
        refine wpAny_mono h3 ?_ fun _ _ z => z
        rintro _ s4 ⟨x, H4, I4, r4, y4, z4, n4⟩
        have I5 : Inv X ((S, lstObj acc' cc') :: (ip ++ pinsAt fp s4.heap)) σ H4 s4 := I4.pinned (stat n4) (T.obj _ _ z4)
        refine nox (hg.run _ s4 σ H4 x u _ I5 r4 (step x H4 y4)) ?_
        rintro _ s5 ⟨σ5, H5, I6, q6⟩
        have ipS : ∀ q ∈ ip ++ pinsAt fp s4.heap, q.1 ≠ S := fun q hq => by
          rcases List.mem_append.mp hq with y | y
          · exact gc.ip q y
          · obtain ⟨b, hb, e⟩ := List.mem_filterMap.mp y
            cases z : s4.heap.get? b with
            | none => rw [z] at e; cases e
            | some o => rw [z] at e; cases e; exact nS b hb
        have gc' : GC X S (ip ++ pinsAt fp s4.heap) A (.forLoop tg (.ref it) body [] X.env) (.ret (fun r => ((match r with | .ok f => (.pure f : Sem Flow) | .error e => .raise e).onRaise (cameBack X.env)).wrap K J gd lv) none (gd false) (lv []) c p [] :: fs) id :=
          ⟨gc.pn, ipS, gc.apart, (gl _).over, (gl _).split, (gl _).guard, rfl⟩
        have unp : ∀ {ys7 : List V} {σ7 : L2.St} {H7 : Hp} {s7 : Shared}, GI X S (ip ++ pinsAt fp s4.heap) ys7 σ7 H7 s7 → GI X S ip ys7 σ7 H7 s7 := fun ⟨a7, c7, r7, I7⟩ => ⟨a7, c7, r7, I7.pins_of fun q hq => I7.pin q (List.mem_append_right _ (by
          rcases List.mem_cons.mp hq with y | y
          · rw [y]; exact List.mem_cons_self
          · exact List.mem_cons_of_mem _ (List.mem_append_left _ y)))⟩
        have back : ∀ {n7 : Nat} {ys7 : List V} {s₀7 s7 : Shared} {σ7 : L2.St} {H7 : Hp}, n7 + ys7.length = sizeLine → GI X S (ip ++ pinsAt fp s4.heap) ys7 σ7 H7 s7 → N ys7 σ7 H7 → Seg (model X.prog X.w) A R (GY X S) n7 s₀7 (.forLoop tg (.ref it) body [] X.env) (.pure (.again (.forLoop tg (.ref it) body [] X.env)))
            (.ret (fun r => ((match r with | .ok f => (.pure f : Sem Flow) | .error e => .raise e).onRaise (cameBack X.env)).wrap K J gd lv) none (gd false) (lv []) c p [] :: fs) s7 := fun {n7 ys7 s₀7 s7 σ7 H7} hn7 G7 n7' => by
          obtain ⟨m', hm, w7⟩ := hN ys7 σ7 H7 n7'
          obtain ⟨a7, c7, r7, I7⟩ := id G7
          have held : ∀ b ∈ fp, ∀ o, s4.heap.get? b = some o → s7.heap.get? b = some o ∧ H7 b = none := fun b hb o e =>
            have zz := I7.pin (b, o) (List.mem_append_right _ (List.mem_cons_of_mem _ (List.mem_append_right _ (mem_pinsAt hb e))))
            ⟨zz.1, zz.2.1⟩
          exact seg_again rfl (ih m' hm (i + 1) n7 ys7 s₀7 s7 σ7 H7 hn7 w7 (unp G7) (T.keep _ _ _ z4 fun b hb o e => (held b hb o e).1) fun b hb => (T.obj _ _ z4 b hb).elim fun o e => (held b hb o e.1).2)
        refine hb.run A S (ip ++ pinsAt fp s4.heap) R n ys s₀ _ _ _ _ id id s5 σ5 H5 { D with nx := N, ct := N, bk := D.nx } gc' hn ⟨fun n7 ys7 s₀7 s7 f hn7 hs7 => ?_, fun n7 s₀7 e s7 he => by rw [hx] at he; exact he.elim⟩ ⟨acc', cc', r', I6⟩ q6
        cases f with
        | next =>
          obtain ⟨σ7, H7, G7, n7'⟩ := hs7
          exact back hn7 G7 n7'
        | cont =>
          obtain ⟨σ7, H7, G7, n7'⟩ := hs7
          exact back hn7 G7 n7'
        | brk =>
          obtain ⟨σ7, H7, G7, q7⟩ := hs7
          exact seg_leaf (.ok .next) (k.ok n7 ys7 s₀7 s7 .next hn7 ⟨σ7, H7, unp G7, q7⟩)
        | ret u7 =>
          obtain ⟨v7, σ7, H7, G7, rv7, q7⟩ := hs7
          exact seg_leaf (.ok (.ret u7)) (k.ok n7 ys7 s₀7 s7 (.ret u7) hn7 ⟨v7, σ7, H7, unp G7, rv7, q7⟩)
  exact loop m0 0 n ys s₀ s2 σ H2 hn w0 ⟨acc, cc, r, I2⟩ z2 fun b hb => (f2 b hb).1
/-- nothing leaves -/
theorem gss_nox {st : List Stmt} {t : TGn} (h : GSs X.nox st t) : GSs X st t := by
  refine ⟨fun A S ip R n ys s₀ c fs K J gd lv s σ H D g hn k hI ht => ?_⟩
  have up : ∀ {ys : List V} {σ : L2.St} {H : Hp} {s : Shared}, GI X S ip ys σ H s → GI X.nox S ip ys σ H s := fun ⟨a, c, r, I⟩ => ⟨a, c, r, I.wish _⟩
  have dn : ∀ {ys : List V} {σ : L2.St} {H : Hp} {s : Shared}, GI X.nox S ip ys σ H s → GI X S ip ys σ H s := fun ⟨a, c, r, I⟩ => ⟨a, c, r, I.unwish⟩
  have yd : ∀ n s₀ v s kap kap', (∀ r s', kap r s' → kap' r s') → GY X.nox S n s₀ v s kap → GY X S n s₀ v s kap' := fun n s₀ v s kap kap' hk ⟨ys, x, ip, σ, H, h1, h2, ⟨a, cc, r, I⟩, h4⟩ => ⟨ys, x, ip, σ, H, h1, h2, ⟨a, cc, r, I.unwish⟩, fun s' z => hk _ _ (h4 s' z)⟩
  have yu : ∀ n s₀ v s kap kap', (∀ r s', kap r s' → kap' r s') → GY X S n s₀ v s kap → GY X.nox S n s₀ v s kap' := fun n s₀ v s kap kap' hk ⟨ys, x, ip, σ, H, h1, h2, ⟨a, cc, r, I⟩, h4⟩ => ⟨ys, x, ip, σ, H, h1, h2, ⟨a, cc, r, I.wish _⟩, fun s' z => hk _ _ (h4 s' z)⟩
  refine seg_imp (fun _ _ _ _ z => z) yd n (h.run A S ip R n ys s₀ c fs K J gd lv s σ H D ⟨g.pn, g.ip, g.apart, g.over, g.split, g.guard, g.gd⟩ hn ⟨fun n' ys' s₀' s' f hn' hs' => ?_, fun _ _ _ _ z => z.elim⟩ (up hI) ht)
  refine seg_imp (fun _ _ _ _ z => z) yu n' (k.ok n' ys' s₀' s' f hn' ?_)
  cases f with
  | next => obtain ⟨σ1, H1, G1, q⟩ := hs'; exact ⟨σ1, H1, dn G1, q⟩
  | brk => obtain ⟨σ1, H1, G1, q⟩ := hs'; exact ⟨σ1, H1, dn G1, q⟩
  | cont => obtain ⟨σ1, H1, G1, q⟩ := hs'; exact ⟨σ1, H1, dn G1, q⟩
  | ret u => obtain ⟨v, σ1, H1, G1, r, q⟩ := hs'; exact ⟨v, σ1, H1, dn G1, r, q⟩
end
end FL
/-! FL: generator defs as functions: what is handed out so far is an argument. -/
namespace FL
open PySem PySem.Spec PyProof.Rows L2 RZ GenW
set_option autoImplicit false

abbrev FY := List D → Rho → Mu → Rs (List D × Ot)
def PostY (K : PySem.W.Frag) (w : Wd) (Z : GEnds) : Rs (List D × Ot) → Prop
  | .ok (zs, .nx ρ) μ => ∀ ys σ w', Ext w w' → SR K σ w' ρ μ → HvL K w' ys zs → Z.nx ys σ w'.H
  | .ok (zs, .bk ρ) μ => ∀ ys σ w', Ext w w' → SR K σ w' ρ μ → HvL K w' ys zs → Z.bk ys σ w'.H
  | .ok (zs, .ct ρ) μ => ∀ ys σ w', Ext w w' → SR K σ w' ρ μ → HvL K w' ys zs → Z.ct ys σ w'.H
  | .ok (zs, .rt d) μ => ∀ ys v w', Ext w w' → Rep K w' μ → Hv K w' v d → HvL K w' ys zs → Z.rt ys v w'.H
  | .ex _ _ _ => False
  | .no => False
def tY (K : PySem.W.Frag) (G : FY) : TGn := fun Z ys σ H => ∃ w ρ μ zs, w.H = H ∧ SR K σ w ρ μ ∧ HvL K w ys zs ∧ PostY K w Z (G zs ρ μ)
theorem PostY.ext {K : PySem.W.Frag} {w w' : Wd} {Z : GEnds} {r : Rs (List D × Ot)} (e : Ext w w') (h : PostY K w Z r) : PostY K w' Z r := by
  cases r with
  | no => exact h
  | ex C fs μ => exact h
  | ok o μ =>
    obtain ⟨zs, o⟩ := o
    cases o with
    | nx ρ => exact fun ys σ w2 e2 => h ys σ w2 (e.trans e2)
    | bk ρ => exact fun ys σ w2 e2 => h ys σ w2 (e.trans e2)
    | ct ρ => exact fun ys σ w2 e2 => h ys σ w2 (e.trans e2)
    | rt d => exact fun ys v w2 e2 => h ys v w2 (e.trans e2)
/-- an expression ahead of what follows -/
theorem PostY.thn {K : PySem.W.Frag} {α β : Type} {R : Wd → β → α → Prop} {w : Wd} {Z : GEnds} {r : Rs α} {f : α → Mu → Rs (List D × Ot)} {Q : β → Hp → Prop} (h : PostY K w Z (r.bind f)) (k : ∀ a μ b w', Ext w w' → Rep K w' μ → R w' b a → PostY K w' Z (f a μ) → Q b w'.H) : Post K E0 R w Q r := by
  cases r with
  | no => exact h
  | ex C fs μ => exact h.elim
  | ok a μ => exact fun b w' e rp q => k a μ b w' e rp q (PostY.ext e h)
section
variable {X : Cx}
def yPl (G : FS) : FY := fun zs ρ μ => (G ρ μ).bind fun o μ1 => .ok (zs, o) μ1
theorem y_plain {st : Stmt} {G : FS} (h : PS X st (tS X.K E0 G)) : GS X st (tY X.K (yPl G)) := by
  refine ⟨fun A S ip R n ys s₀ c fs K J gd lv s σ H Z g hn k hI ht => (gs_ps h).run A S ip R n ys s₀ c fs K J gd lv s σ H Z g hn k hI ?_⟩
  obtain ⟨w, ρ, μ, zs, hw, sr, hl, p⟩ := ht
  refine ⟨w, ρ, μ, hw, sr, ?_⟩
  unfold yPl at p
  cases q : G ρ μ with
  | no => rw [q] at p; exact p
  | ex C fs μ1 => rw [q] at p; exact p.elim
  | ok o μ1 =>
    rw [q] at p
    cases o with
    | nx ρ1 => exact fun σ1 w1 e1 s1 => p ys σ1 w1 e1 s1 (hl.ext e1)
    | bk ρ1 => exact fun σ1 w1 e1 s1 => p ys σ1 w1 e1 s1 (hl.ext e1)
    | ct ρ1 => exact fun σ1 w1 e1 s1 => p ys σ1 w1 e1 s1 (hl.ext e1)
    | rt d => exact fun v w1 e1 r1 hv => p ys v w1 e1 r1 hv (hl.ext e1)
theorem GS.imp {st : Stmt} {t t' : TGn} (h : GS X st t) (k : ∀ D ys σ H, t' D ys σ H → t D ys σ H) : GS X st t' := ⟨fun A S ip R n ys s₀ c fs K J gd lv s σ H D g hn kk hI ht => h.run A S ip R n ys s₀ c fs K J gd lv s σ H D g hn kk hI (k _ _ _ _ ht)⟩
theorem GSs.imp {st : List Stmt} {t t' : TGn} (h : GSs X st t) (k : ∀ D ys σ H, t' D ys σ H → t D ys σ H) : GSs X st t' := ⟨fun A S ip R n ys s₀ c fs K J gd lv s σ H D g hn kk hI ht => h.run A S ip R n ys s₀ c fs K J gd lv s σ H D g hn kk hI (k _ _ _ _ ht)⟩
def yNx : FY := fun zs ρ μ => .ok (zs, .nx ρ) μ
def ySeq (G1 G2 : FY) : FY := fun zs ρ μ => match G1 zs ρ μ with
  | .ok (zs1, .nx ρ1) μ1 => G2 zs1 ρ1 μ1
  | r => r
theorem ys_nil : GSs X [] (tY X.K yNx) := GSs.imp gss_nil fun D ys σ H ⟨w, ρ, μ, zs, hw, sr, hl, p⟩ => hw ▸ p ys σ w (Ext.refl w) sr hl
theorem ys_cons {st : Stmt} {r : List Stmt} {G1 G2 : FY} (a : GS X st (tY X.K G1)) (b : GSs X r (tY X.K G2)) : GSs X (st :: r) (tY X.K (ySeq G1 G2)) := GSs.imp (gss_cons a b) fun D ys σ H ⟨w, ρ, μ, zs, hw, sr, hl, p⟩ => by
  refine ⟨w, ρ, μ, zs, hw, sr, hl, ?_⟩
  unfold ySeq at p
  cases q : G1 zs ρ μ with
  | no => rw [q] at p; exact p
  | ex C fs μ1 => rw [q] at p; exact p
  | ok o μ1 =>
    rw [q] at p
    obtain ⟨zs1, o⟩ := o
    cases o with
    | nx ρ1 => exact fun ys1 σ1 w1 e1 s1 l1 => ⟨w1, ρ1, μ1, zs1, rfl, s1, l1, PostY.ext e1 p⟩
    | bk ρ1 => exact p
    | ct ρ1 => exact p
    | rt d => exact p
theorem ys_one {st : Stmt} {G1 : FY} (a : GS X st (tY X.K G1)) : GSs X [st] (tY X.K (ySeq G1 yNx)) := ys_cons a ys_nil
def yY (F : FE) : FY := fun zs ρ μ => (F ρ μ).bind fun d μ1 => if zs.length < sizeLine then .ok (zs ++ [d], .nx ρ) μ1 else .no
theorem y_yield {e : Expr} {F : FE} {yp pos : Pos} (he : PE X e (tD X.K E0 F)) (hco : X.env.scope.isCoroutine = false := by rfl) (hi : interactive X.env = false := by rfl) : GS X (.Expr (.Yield (some e) yp) pos) (tY X.K (yY F)) := GS.imp (gs_yield he hco hi) fun D ys σ H ⟨w, ρ, μ, zs, hw, sr, hl, p⟩ => by
  unfold yY at p
  by_cases hz : zs.length < sizeLine
  · simp only [if_pos hz] at p
    exact ⟨by rw [hl.length]; exact hz, w, ρ, μ, hw, sr, PostY.thn p fun d μ1 v w1 e1 r1 h1 p1 => p1 _ σ w1 (Ext.refl _) (sr.ext e1 r1) ((hl.ext e1).append (.cons h1 .nil))⟩
  · simp only [if_neg hz] at p
    cases q : F ρ μ <;> (rw [q] at p; exact p.elim)
def yIf (c : FB) (G1 G2 : FY) : FY := fun zs ρ μ => (c ρ μ).bind fun b μ1 => if b = true then G1 zs ρ μ1 else G2 zs ρ μ1
theorem y_if {test : Expr} {p q : List Stmt} {pos : Pos} {B : FB} {G1 G2 : FY} (hc : PT X test (tDb X.K E0 B)) (h1 : GSs X p (tY X.K G1)) (h2 : GSs X q (tY X.K G2)) : GS X (.If test p q pos) (tY X.K (yIf B G1 G2)) := GS.imp (gs_if hc h1 h2) fun D ys σ H ⟨w, ρ, μ, zs, hw, sr, hl, z⟩ => by
  refine ⟨w, ρ, μ, hw, sr, PostY.thn z fun b μ1 b' w1 e1 r1 h p1 => ?_⟩
  subst h
  cases b' with
  | true => exact ⟨w1, ρ, μ1, zs, rfl, sr.ext e1 r1, hl.ext e1, by simpa using p1⟩
  | false => exact ⟨w1, ρ, μ1, zs, rfl, sr.ext e1 r1, hl.ext e1, by simpa using p1⟩
def yLoop (T : FT) (G : FY) : List D → FY
  | [], zs, ρ, μ => .ok (zs, .nx ρ) μ
  | d :: ds, zs, ρ, μ => match T d ρ with
    | none => .no
    | some ρ1 => match G zs ρ1 μ with
      | .ok (zs2, .nx ρ2) μ2 => yLoop T G ds zs2 ρ2 μ2
      | .ok (zs2, .ct ρ2) μ2 => yLoop T G ds zs2 ρ2 μ2
      | .ok (zs2, .bk ρ2) μ2 => .ok (zs2, .nx ρ2) μ2
      | r => r
def yFor (Fi : FA) (T : FT) (G : FY) : FY := fun zs ρ μ => (Fi ρ μ).bind fun ds μ1 => yLoop T G ds zs ρ μ1
theorem y_for {iter tg : Expr} {body : List Stmt} {pos : Pos} {wi : TI} {g : TG} {Fi : FA} {T : FT} {G : FY} (hx : X.xe = fun _ _ => False) (hc : X.calm = true) (hi : PI X tg iter wi) (ai : AdI X.K E0 Fi wi) (hg : PG X tg g) (ad : AdT X.K T g) (hb : GSs X body (tY X.K G))
    (hs : ∀ x, foldedSetIterable iter X.env x = pure x := by intro _; rfl) : GS X (.For tg iter body [] pos) (tY X.K (yFor Fi T G)) := GS.imp (gs_for hx hc hi hg hb hs) fun D ys σ H ⟨w, ρ, μ, zs, hw, sr, hl, z⟩ => by
  subst hw
  refine ai σ w ρ μ _ sr ?_
  unfold yFor at z
  cases q : Fi ρ μ with
  | no => rw [q] at z; exact z
  | ex C fs μ1 => rw [q] at z; exact z.elim
  | ok ds μ1 =>
    rw [q] at z
    have z : PostY X.K w D (yLoop T G ds zs ρ μ1) := z
    intro J w1 e1 r1 wk
    refine ⟨fun i m ys σ H => ∃ w2 ρ2 μ2 zs2, w2.H = H ∧ Ext w1 w2 ∧ SR X.K σ w2 ρ2 μ2 ∧ HvL X.K w2 ys zs2 ∧ i + m = ds.length ∧ PostY X.K w2 D (yLoop T G (ds.drop i) zs2 ρ2 μ2), ⟨ds.length, w1, ρ, μ1, zs, rfl, Ext.refl _, sr.ext e1 r1, hl.ext e1, by omega, by rw [List.drop_zero]; exact PostY.ext e1 z⟩, ?_⟩
    rintro i m ys2 σ2 _ ⟨w2, ρ2, μ2, zs2, rfl, e2, s2, l2, hm, p2⟩
    by_cases hi : i < ds.length
    · have hget : ds[i]? = some ds[i] := List.getElem?_eq_getElem hi
      rw [List.drop_eq_getElem_cons hi] at p2
      refine .inr ⟨wk.go w2 i _ e2 hget, fun ys' σ' H' => ∃ w3 ρ3 μ3 zs3, w3.H = H' ∧ Ext w1 w3 ∧ SR X.K σ' w3 ρ3 μ3 ∧ HvL X.K w3 ys' zs3 ∧ PostY X.K w3 D (yLoop T G (ds.drop (i + 1)) zs3 ρ3 μ3), fun ys' σ' H' ⟨w3, ρ3, μ3, zs3, h1, h2, h3, h4, h5⟩ => ⟨m - 1, by omega, w3, ρ3, μ3, zs3, h1, h2, h3, h4, by omega, h5⟩, fun x H' y => ?_⟩
      obtain ⟨w3, rfl, e3, r3, hv⟩ := wk.yld w2 i _ x H' μ2 e2 s2.rep hget y
      simp only [yLoop] at p2
      cases qT : T ds[i] ρ2 with
      | none => rw [qT] at p2; exact p2.elim
      | some ρ1 =>
        rw [qT] at p2
        simp only at p2
        refine ad w3 μ2 σ2 ρ2 ρ1 x _ _ (s2.ext e3 r3) hv qT fun σ' s' => ⟨w3, ρ1, μ2, zs2, rfl, s', l2.ext e3, ?_⟩
        have p3 := PostY.ext e3 p2
        cases qG : G zs2 ρ1 μ2 with
        | no => rw [qG] at p3; exact p3
        | ex C fs μ4 => rw [qG] at p3; exact p3
        | ok o μ4 =>
          rw [qG] at p3
          obtain ⟨zs4, o⟩ := o
          cases o with
          | nx ρ4 => exact fun ys4 σ4 w4 e4 s4 l4 => ⟨w4, ρ4, μ4, zs4, rfl, (e2.trans e3).trans e4, s4, l4, PostY.ext e4 p3⟩
          | ct ρ4 => exact fun ys4 σ4 w4 e4 s4 l4 => ⟨w4, ρ4, μ4, zs4, rfl, (e2.trans e3).trans e4, s4, l4, PostY.ext e4 p3⟩
          | bk ρ4 => exact p3
          | rt d => exact p3
    · have hi' : i = ds.length := by omega
      subst hi'
      rw [List.drop_length] at p2
      exact .inl ⟨wk.stop w2 e2, p2 ys2 σ2 w2 (Ext.refl _) s2 l2⟩
end

/-! ### a generator def -/
def runY (n : Nat) (G : FY) : GL := fun ds μ => match G [] (enter n ds) μ with
  | .ok (zs, .nx _) μ1 => .ok (.lst zs) μ1
  | .ok (zs, .rt .non) μ1 => .ok (.lst zs) μ1
  | _ => .no
def spG (K : PySem.W.Frag) (n : Nat) (g : GL) : SpG := fun vs H cont _ => vs.length = n ∧ ∃ w ds μ, w.H = H ∧ Rep K w μ ∧ HvL K w vs ds ∧ match g ds μ with
  | .ok (.lst zs) μ1 => ∀ ys w', Ext w w' → Rep K w' μ1 → HvL K w' ys zs → cont ys w'.H
  | _ => False
theorem gen_ok {P : Program} {w : World} {K : PySem.W.Frag} {mg : Str → Option Value} {base : Heap} {x qual : Str} {st : Stmt} {f : Addr} {fd : FuncData} {N ps : List Str} {k n : Nat} {G : FY} (F : Fun K x qual st f fd) (S : GScope N ps (defScope st)) (hn : ps.length = n)
    (hbody : ∀ (cdv : Value) (A : Around) (outer : List Env) (s : Shared) (H : Hp) (E : XK) (pn : List (Addr × Obj)), Room k (A.deeper (envOfC qual (defScope st) s.heap.objs.size f cdv)) → GSs (gcxOf P w K mg base N qual (defScope st) f cdv A outer s H E pn).nox (defBody st) (tY K G)) :
    GFn P w K mg base (k + 1) f fd ps (spG K n (runY N.length G)) := by
  obtain ⟨oc, od, kV, doc, pm, an, cdv, ct, osl, rfl, lk, hcd⟩ := F.ex
  refine gfn_of lk hcd S (fun vs H Q E h => h.1.trans hn.symm) fun A outer s H vs cont E pn hr h => ?_
  obtain ⟨hl, w1, ds, μ, rfl, r, l, p⟩ := h
  refine ⟨_, gss_nox (hbody cdv A outer s w1.H E pn hr), w1, enter N.length ds, μ, [], rfl, sr_start r l, .nil, ?_⟩
  unfold runY at p
  cases q : G [] (enter N.length ds) μ with
  | no => rw [q] at p; exact p
  | ex C fs μ1 => rw [q] at p; exact p
  | ok o μ1 =>
    rw [q] at p
    obtain ⟨zs, o⟩ := o
    cases o with
    | nx ρ => exact fun ys σ w2 e2 s2 l2 => p ys w2 e2 s2.rep l2
    | bk ρ => exact p.elim
    | ct ρ => exact p.elim
    | rt d =>
      cases d with
      | non => exact fun ys v w2 e2 r2 hv l2 => ⟨by cases hv; rfl, p ys w2 e2 r2 l2⟩
      | _ => exact p.elim
theorem noG_okY {P : Program} {w : World} {K : PySem.W.Frag} {mg : Str → Option Value} {base : Heap} {k n : Nat} {f : Addr} {fd : FuncData} {ps : List Str} : GFn P w K mg base k f fd ps (spG K n noG) := by
  refine ⟨fun vs H Q E h => ?_, fun A outer s H args us vs Q E hr e0 hb r h => ?_⟩
  · obtain ⟨_, _, _, _, _, _, _, z⟩ := h; exact z.elim
  · obtain ⟨_, _, _, _, _, _, _, z⟩ := h; exact z.elim
end FL
/-! FL: sep.join(f(..)), f a generator def. -/
namespace FL
open PySem PySem.Spec PyProof.Rows L2 RZ GenW
set_option autoImplicit false

theorem collect_made {P : Program} {w : World} {outer : List Env} {H : Hp} {sc s : Shared} {ex : List Addr} {Q : List V → Hp → Prop} {EX : XK} {A : Around} {k : Nat} {a : Addr} {g : Nat} {c0 : Code} {Q' : List Value → Shared → Prop} {E : Value → Shared → Prop} (hh : A.handled = none) (hd : A.depth < recursionLimit) (hr : Room k A.in1.in1) (hfr : A.frames = some outer)
    (ha : a < s.heap.objs.size) (hg : s.heap.IsGen a g) (hgs : s.gens[g]? = some (.fresh c0)) (hos : s.os = sc.os) (hb : AllBare s.gens) (hl : s.heap.NoLimit)
    (wake : ∀ (A : Around) (S : Addr) (s2 : Shared), Room k A → A.frames = some outer → s.heap.objs.size ≤ S → (∀ b o, s.heap.get? b = some o → s2.heap.get? b = some o) → (∃ c, s2.heap.get? S = some (lstObj #[] c)) → s2.os = sc.os → AllBare s2.gens → Seg (model P w) A (REnd P w outer H sc ex S a g Q EX) (YItem sc S a g) sizeLine s2 c0 ((model P w).den c0) [] s2)
    (hQ : ∀ S s' acc c H' ys, s.heap.objs.size ≤ S → s'.heap.get? S = some (lstObj acc c) → Vals ys acc.toList → ys.length ≤ sizeLine → s'.os = sc.os → AllBare s'.gens → Un (frs outer) ex H H' sc.heap s'.heap → HOk P w H' s'.heap → H' S = none → Q ys H' → Q' acc.toList s') (hexc : ∀ e s', CX P w outer H sc EX e s' → False) :
    wpAny (model P w) A (collect (.ref a)) Q' E s := by
  have hSa : s.heap.objs.size ≠ a := Nat.ne_of_gt ha
  have hSc : s.heap.objs.size ≠ cStatics := let ⟨_, hn, _⟩ := hl; Nat.ne_of_gt hn.lt
  unfold collect; refine wpAny_bind (wpAny_runValue (codeAny_builtin F.entry_proto_collect ?_)); rw [Around.under_plainId F.plain_proto_collect _]
  show wpAny _ A.in1 (newList [] >>= fun l => again (.builtin "list.__iadd__" ⟨[l, .ref a], []⟩)) _ _ s; refine wpAny_bind (wpAny_newObj_type ?_)
  refine wpAny_pure ⟨plainId_quiet F.plain_list_iadd _, codeAny_builtin F.entry_list_iadd ?_⟩; rw [Around.under_plainId F.plain_list_iadd _]
  have hS : (s.heap.push { cls := .type "list", data := .seq ([] : List Value).toArray }).get? s.heap.objs.size = some { cls := .type "list", data := .seq ([] : List Value).toArray } := Heap.get?_push_size _ rfl
  have k1 : ∀ b o, s.heap.get? b = some o → (s.heap.push { cls := .type "list", data := .seq ([] : List Value).toArray }).get? b = some o := fun b o e => Heap.get?_push_of_some _ e
  have up : ∀ (h : Heap) (f : Obj → Obj), (∀ b o, s.heap.get? b = some o → h.get? b = some o) → ∀ b o, s.heap.get? b = some o → (h.update s.heap.objs.size f).get? b = some o := fun h f q b o e => (Heap.get?_update_other _ _ (Nat.ne_of_gt (Heap.lt_size e))).trans (q b o e)
  show wpAny _ A.in1 (Builtin.List.listExtendWith (.ref s.heap.objs.size) (.ref a) (.ref s.heap.objs.size)) _ _ _; unfold Builtin.List.listExtendWith
  refine wpAny_bind (wpAny_typeOf (Heap.IsGen.typeIs (s := { s with heap := _ }) (hg.keeps k1)) ?_)
  have e1 : Builtin.List.listSameRef (.ref s.heap.objs.size) (.ref a) = false := by simp [Builtin.List.listSameRef, hSa]
  simp only [e1, (by decide : (Value.type "generator" == Value.type "list") = false), (by decide : (Value.type "generator" == Value.type "tuple") = false), Bool.or_false, Bool.false_eq_true, if_false]
  refine wpAny_bind (wpAny_pyIter_gen (s := { s with heap := _ }) (hg.keeps k1) (wpAny_bind (wpAny_holding ?_))); unfold Builtin.List.listLengthHint
  refine wpAny_bind (wpAny_specialOf (Heap.IsGen.typeIs (s := { s with heap := _ }) (hg.keeps k1)) F.gen_no_len ?_)
  show wpAny _ A.in1 (specialOf (Value.ref a) (Str.ofString "__length_hint__") >>= _) _ _ _; refine wpAny_bind (wpAny_specialOf (Heap.IsGen.typeIs (s := { s with heap := _ }) (hg.keeps k1)) F.gen_no_hint (wpAny_pure ?_))
  show wpAny _ A.in1 (rule "list.extend.makes-room" >>= fun _ => Builtin.List.listTouch (.ref s.heap.objs.size) >>= fun _ => again (.builtin "list.extend.loop" ⟨[.ref s.heap.objs.size, .ref a, .ref s.heap.objs.size], []⟩)) _ _ _
  refine wpAny_bind (wpAny_rule (wpAny_bind ?_)); show wpAny _ A.in1 (updateSeq s.heap.objs.size (·.push .none) >>= fun _ => updateSeq s.heap.objs.size (·.pop)) _ _ _
  refine wpAny_bind (wpAny_updateSeq hS rfl ?_)
  have hS2 := Heap.get?_update_self (Obj.mapSeq (·.push Value.none)) hS rfl
  refine wpAny_updateSeq (hz := by seq_fits) hS2 rfl ?_
  have hS3 := Heap.get?_update_self (Obj.mapSeq (·.pop)) hS2 rfl
  have k3 := up _ (Obj.mapSeq (·.pop)) (up _ (Obj.mapSeq (·.push Value.none)) k1)
  refine wpAny_pure ⟨plainId_quiet F.plain_extend_loop _, ?_⟩
  refine drain (P := P) (w := w) (outer := outer) (H := H) (sc := sc) (ex := ex) (Q := Q) (EX := EX) (A := _) (g := g) hh hd hSa hSc (fun s' acc c H' ys q1 q2 q3 q4 q5 q6 q7 q8 q9 => ?_) (fun e s' z => (hexc e s' z).elim) sizeLine _ (hg.keeps k3) (hl.keeps k3) ⟨_, hgs, rfl, wake _ _ _ hr hfr (Nat.le_refl _) k3 ⟨_, hS3⟩ hos (allBare_setGen (s := { s with heap := _ }) hb rfl)⟩
  show wpAny _ A (load s.heap.objs.size >>= _) _ _ s'
  exact wpAny_bind (wpAny_load q1 (wpAny_pure (hQ _ s' acc c H' ys (Nat.le_refl _) q1 q2 q3 q4 q5 q6 q7 q8 q9)))
def gJoinY (a : Str) : D → Mu → Rs D := fun e μ => match e with
  | .lst zs => match stL zs with
    | some ss => if (ss.map (·.length)).sum + ss.length * a.length ≤ 16777216 then .ok (.str (Txt.join a ss)) μ else .no
    | none => .no
  | _ => .no
def fJoinY (F : FE) (g : GL) (Fs : FA) : FE := fun ρ μ => (F ρ μ).bind fun d μ1 => match d with
  | .str a => (fCall g Fs ρ μ1).bind (gJoinY a)
  | _ => .no
theorem strs_of : ∀ {zs : List D} {ss : List Str} {ys : List V} {us : List Value} {K : PySem.W.Frag} {w : Wd}, stL zs = some ss → HvL K w ys zs → Vals ys us → ∃ l : List (Str × Tok), us = strValues l ∧ l.map (·.1) = ss
  | [], ss, _, _, _, _, e, .nil, .nil => ⟨[], rfl, by cases e; rfl⟩
  | .str x :: zs, ss, _, _, _, _, e, .cons h l, .cons r rr => by
    simp only [stL] at e
    cases q : stL zs with
    | none => rw [q] at e; cases e
    | some ss' =>
      rw [q] at e
      cases e
      cases h
      obtain ⟨t, rfl⟩ := r
      obtain ⟨l', rfl, e2⟩ := strs_of q l rr
      exact ⟨(x, t) :: l', rfl, by rw [List.map_cons, e2]⟩
section
variable {X : Cx} {E : XK}
theorem noCX0 {P : Program} {w : World} {outer : List Env} {H : Hp} {s : Shared} {e : Value} {s' : Shared} : ¬ CX P w outer H s E0 e s' := fun ⟨_, _, _, _, _, _, _, _, _, _, _, _, z⟩ => z
theorem de_joinY {o e : Expr} {es : List Expr} {x : Str} {apos pos p pos2 : Pos} {k n : Nat} {f : Addr} {fd : FuncData} {ps : List Str} {g : GL} {F : FE} {Fs : FA} (G : GFn X.prog X.w X.K X.mg X.base k f fd ps (spG X.K n g)) (hr : Room (k + 1) X.A) (ho : PE X o (tD X.K E F))
    (hg : Gl X x) (hm : X.mg x = some (.ref f)) (hk : PySem.W.keepIn X.K (.ref f) = true) (hb : Binds X.K fd ps []) (ha : PA X (e :: es) (tDa X.K E Fs)) (hlen : ∀ ρ μ ds μ1, Fs ρ μ = .ok ds μ1 → ds.length = n) (hnx : ∀ (ρ : Rho) (μ : Mu) (C : Addr) (fs : List (Str × D)) (μ1 : Mu), Fs ρ μ ≠ .ex C fs μ1) (hnx2 : ∀ (ds : List D) (μ : Mu) (C : Addr) (fs : List (Str × D)) (μ1 : Mu), g ds μ ≠ .ex C fs μ1) (hdb : (x == ("__debug__" : Str)) = false := by decide)
    (hs1 : starEach [.Call (.Name x p) (e :: es) [] pos2] X.env = [(false, eval (.Call (.Name x p) (e :: es) [] pos2) X.env)] := by rfl) (hst : starEach (e :: es) X.env = (false, eval e X.env) :: starEach es X.env := by rfl) (hpl : (backTo pos2 (starEach es X.env)).any (·.1) = false := by rfl)
    (hbase : attributeBase o "join" X.env (eval o X.env) = eval o X.env := by rfl) (hline : (apos.endLine == pos.line) = true := by rfl) :
    PE X (.Call (.Attribute o "join" apos) [.Call (.Name x p) (e :: es) [] pos2] [] pos) (tD X.K E (fJoinY F g Fs)) := by
  refine ⟨fun pins s σ H Q I h => ?_⟩
  obtain ⟨w, ρ, μ, rfl, sr, z⟩ := h
  refine PySem.Call_method1 hbase hs1 hline (thn (ho.run pins s σ w.H (fun y H1 => ∃ a w1 μ1, y = .str a ∧ w1.H = H1 ∧ SR X.K σ w1 ρ μ1 ∧ Post X.K E (Hv X.K) w1 Q ((fCall g Fs ρ μ1).bind (gJoinY a))) I ⟨w, ρ, μ, rfl, sr, Post.thn z fun d μ1 v w1 e1 r1 h1 p1 => ?_⟩) ?_)
  · cases h1 with
    | str y => exact ⟨y, w1, μ1, rfl, rfl, sr.ext e1 r1, p1⟩
    | _ => exact p1.elim
  rintro v s1 ⟨_, H1, I1, r1, a, w1, μ1, rfl, rfl, s1', z⟩
  obtain ⟨t, rfl⟩ := r1
  refine ⟨"str", _, PySem.F.plainAttrs_str, PySem.F.slot_str_join, PySem.F.type_str_join, typeIs_str _ _ _, (fun _ e => nomatch e), Calls.callWith_builtin rfl (Calls.evalArgs_plain (Calls.spliced_cons ?_))⟩
  have z2 : ∃ ds μ2 zs μ3 ss, Fs ρ μ1 = .ok ds μ2 ∧ g ds μ2 = .ok (.lst zs) μ3 ∧ stL zs = some ss ∧ (ss.map (·.length)).sum + ss.length * a.length ≤ 16777216 ∧ ∀ w2, Ext w1 w2 → Rep X.K w2 μ3 → Q (.str (Txt.join a ss)) w2.H := by
    unfold fCall at z
    cases q1 : Fs ρ μ1 with
    | no => rw [q1] at z; exact z.elim
    | ex C fs μ2 => rw [q1] at z; exact absurd q1 (hnx _ _ _ _ _)
    | ok ds μ2 =>
      rw [q1] at z
      simp only [bind_ok] at z
      cases q2 : g ds μ2 with
      | no => rw [q2] at z; exact z.elim
      | ex C fs μ3 => exact absurd q2 (hnx2 _ _ _ _ _)
      | ok d μ3 =>
        rw [q2] at z
        simp only [bind_ok, gJoinY] at z
        cases d with
        | lst zs =>
          simp only at z
          cases q3 : stL zs with
          | none => rw [q3] at z; exact z.elim
          | some ss =>
            rw [q3] at z
            simp only at z
            by_cases hz : (ss.map (·.length)).sum + ss.length * a.length ≤ 16777216
            · rw [if_pos hz] at z
              exact ⟨ds, μ2, zs, μ3, ss, rfl, q2, q3, hz, fun w2 e2 r2 => z _ w2 e2 r2 (.str _)⟩
            · rw [if_neg hz] at z; exact z.elim
        | _ => exact z.elim
  obtain ⟨ds, μ2, zs, μ3, ss, q1, q2, q3, q4, q5⟩ := z2
  -- the generator is made
  have hz : PostS X.K E w1 { nx := fun _ _ => True, rt := fun _ _ => True } (.ok (.nx ρ) μ1) := fun _ _ _ _ => trivial
  refine wpAny_mono ((pgen_call (dvs := []) (E := E0) G (hr.mono (Nat.le_succ k)) hg hm hk hb .nil ha hdb hst hpl).run pins s1 σ w1.H (fun ys H2 => ∃ w2, w2.H = H2 ∧ Ext w1 w2 ∧ Rep X.K w2 μ3 ∧ HvL X.K w2 ys zs) I1 ⟨w1, ρ, μ1, rfl, s1', ?_⟩) ?_ fun _ _ z => z
  · rw [q1]
    intro vs w2 e2 r2 h2
    rw [List.append_nil]
    refine ⟨by rw [h2.length]; exact hlen ρ μ1 ds μ2 q1, w2, ds, μ2, rfl, r2, h2, ?_⟩
    rw [q2]
    exact fun ys w3 e3 r3 l3 => ⟨w3, rfl, e2.trans e3, r3, l3⟩
  rintro u s2 ⟨H1', sc, ex, J, exok, b, g0, c0, rfl, hb1, hb2, hgn, hgs, hos, hbare, hlim, hkp, wake⟩
  refine Calls.spliced_nil (wpAny_call (codeAny_call_builtin PySem.F.slot_str_join.plain PySem.F.entry_str_join (PySem.F.slot_str_join.check _ _ _ _ _ _ _ _ (typeIs_str _ _ _) (PySem.F.args_str_join_2 _ _) ?_)))
  show wpAny _ X.A.in1 (Builtin.«str.join» ⟨[.str a t, .ref b], []⟩) _ _ s2
  rw [PySem.join_tree_other]
  refine wpAny_bind (wpAny_typeOf hgn.typeIs ?_)
  show wpAny _ X.A.in1 ((pyIter (.ref b)).tryCatch _ >>= fun it => collect it >>= fun items => PySem.joinTail a items) _ _ s2
  refine wpAny_bind (wpAny_tryCatch (wpAny_pyIter_gen hgn ?_))
  have hrn : Room k X.A.in1.in1.in1 := ⟨hr.hd, by have := hr.dp; show X.A.depth + 3 * k + 5 < _; omega, by have := hr.un; show X.A.units + 1 + 1 + 1 + 16 * k + 200 < _; omega⟩
  refine wpAny_bind (collect_made hr.hd (by have := hr.dp; show X.A.depth < _; omega) hrn (by first | exact J.ok.frames | (show X.A.frames = _; exact J.ok.frames)) hb2 hgn hgs hos hbare hlim wake (fun S s' acc c H' ys y1 y2 y3 y4 y5 y6 y7 y8 y9 ⟨w2, y10, y11, y12, y13⟩ => ?_) fun e s' => noCX0)
  subst y10
  obtain ⟨l, hl, hls⟩ := strs_of q3 y13 y3
  rw [hl]
  have J2 := J.drained (S := S) (out := ys) (Nat.le_trans (Nat.le_trans (Nat.le_of_lt (Nat.lt_of_le_of_lt hb1 hb2)) (Nat.le_refl _)) y1) y4 y2 y3 exok y5 y6 y7 y8 y9
  have hok := PyProof.Rows.joinOk_of q4
  rw [← hls] at hok q5
  have hfit : PySem.Builtin.Str.tooLong ((l.map (·.1)).toArray.foldl (· + ·.length + a.length) 0) = false := by
    unfold JoinOk at hok
    rw [Bool.not_eq_true'] at hok
    exact hok
  have gv : PySem.Gives (PySem.joinTail a (strValues l)) (PySem.joinMade a l) := by
    have g0 := PySem.gives_joinTail a l hfit
    rcases l with _ | ⟨p, _ | ⟨q, r⟩⟩ <;> exact g0
  have hS : w2.H S = none := y9
  refine gv X.prog X.w X.A (wants (EP X pins σ Q) X.xe) s' (PySem.post_join l ⟨PySem.joinFit_length hfit, fun t' k' => ⟨.str _, _, J2.tok k', ⟨t', rfl⟩, ?_⟩⟩)
  exact q5 (w2.new S _) (y11.trans (Ext.new hS)) (y12.new hS)
end
end FL
/-! FL: defs that call repr: nothing is being shown when they are called. -/
namespace FL
open PySem PySem.Spec PyProof.Rows L2 RZ
set_option autoImplicit false

/-- a promise kept where no object is being shown -/
structure FnG (P : Program) (w : World) (K : PySem.W.Frag) (mg : Str → Option Value) (base : Heap) (CX : CXT) (k : Nat) (f : Addr) (fd : FuncData) (ps : List Str) (sp : Sp) : Prop where
  len : ∀ vs H Q E, sp vs H Q E → vs.length = ps.length
  run : ∀ (A : Around) (outer : List Env) (s : Shared) (H : Hp) (args : Args) (us : List Value) (vs : List V) (Q : VK) (E : XK), Room k A → A.guards = some [] → Env0 P w K mg base A outer s H → BindsTo s fd args (ps.zip us) → Vals vs us → sp vs H Q E → codeAny (model P w) A (.call (.ref f) args) (CR CX outer P w H s Q E) s
section
variable {P : Program} {w : World} {K : PySem.W.Frag} {mg : Str → Option Value} {base : Heap}
theorem noG_okG {CX : CXT} {k n : Nat} {f : Addr} {fd : FuncData} {ps : List Str} : FnG P w K mg base CX k f fd ps (spF K n noG) := by
  refine ⟨fun vs H Q E h => ?_, fun A outer s H args us vs Q E hr h1 e0 hb r h => ?_⟩
  · obtain ⟨_, _, _, _, _, _, _, z⟩ := h; exact z.elim
  · obtain ⟨_, _, _, _, _, _, _, z⟩ := h; exact z.elim
theorem def_okG {x qual : Str} {st : Stmt} {f : Addr} {fd : FuncData} {N ps : List Str} {k n : Nat} {g : GL} {G : FS} (F : Fun K x qual st f fd) (S : FnScope N ps (defScope st)) (hn : ps.length = n)
    (hbody : ∀ (cdv : Value) (A : Around) (outer : List Env) (s : Shared) (H : Hp) (E : XK), Room k (A.deeper (envOfC qual (defScope st) s.heap.objs.size f cdv)) → (A.deeper (envOfC qual (defScope st) s.heap.objs.size f cdv)).guards = some [] → PSs (cxOf CX0 P w K mg base N qual (defScope st) f cdv A outer s H E).nox (defBody st) (tS K E0 G))
    (hg : ∀ ds μ, ds.length = n → Exit μ (G (enter N.length ds) μ) (g ds μ)) (hx : ∀ ds μ C fs μ1, g ds μ ≠ .ex C fs μ1) : FnG P w K mg base CX0 (k + 1) f fd ps (spF K n g) := by
  obtain ⟨oc, od, kV, doc, pm, an, cdv, ct, osl, rfl, lk, hcd⟩ := F.ex
  refine ⟨fun vs H Q E h => h.1.trans hn.symm, fun A outer s H args us vs Q E hr hgd e0 hb r hsp => ?_⟩
  have KX : K.In s.heap := e0.mod.kin.keeps fun b o e => (e0.bs b o e).1
  have lim : s.heap.NoLimit := e0.mod.nolimit.keeps fun b o e => (e0.bs b o e).1
  have hkind : ∀ y ∈ ps.zip us, (defScope st).names.lookup y.1 = some .local ∨ ((defScope st).names.lookup y.1 = some .cell ∧ ((cellsFrom (s.heap.objs.size + 1) (defScope st).names []).lookup y.1).isSome = true) := fun y hy => (S.par y.1 (List.of_mem_zip hy).1).imp id fun q => ⟨q, PySem.W.cellsFrom_some _ _ _ (.inl q)⟩
  refine codeAny_call_function hr.depth (KX _ _ lk) rfl S.co S.gen rfl (PySem.W.codeRec_of KX hcd) (hb _ _ _ _ (wpAny_newFunctionEnv_cells S.kind hkind fun env he s1 x => ?_))
  subst he
  refine ⟨lim.keeps x.toInCall.keep, codeAny_func ?_⟩
  obtain ⟨hl, w1, ds, μ, rfl, rp, l, pq⟩ := hsp
  have I := inv_start (CX := CX0) (E := E) S hr.hd e0 (hl.trans hn.symm) r x
  have key : tS K E0 G { nx := fun _ H' => Q .non H', rt := Q } (L2.start N vs) w1.H := by
    refine ⟨w1, enter N.length ds, μ, rfl, sr_start rp l, ?_⟩
    have ex := hg ds μ (by rw [← l.length]; exact hl)
    cases q : g ds μ with
    | no => rw [q] at pq; exact pq.elim
    | ex C fs μ1 => exact absurd q (hx _ _ _ _ _)
    | ok d μ1 =>
      rw [q] at pq ex
      rcases ex with ⟨d0, μ0, e0, lv⟩ | ⟨ρ, μ0, e0, lv⟩
      · rw [e0]; exact fun v w2 e2 r2 h2 => Leave.use rp lv e2 r2 h2 pq
      · rw [e0]; exact fun σ w2 e2 s2 => Leave.use (v := .non) rp lv e2 s2.rep .non pq
  refine wpAny_mono (((hbody cdv A outer s w1.H E (hr.deeper _) (by first | exact hgd | (show A.guards = some []; exact hgd))).nox).run [] s1 (L2.start N vs) w1.H _ I key) (fun fl s' hs => ?_) fun e s' hs => hs
  have fin : ∀ {σ' : L2.St} {H' : Hp} {v : V} {u : Value}, Inv (cxOf CX0 P w K mg base N qual (defScope st) f cdv A outer s w1.H E) [] σ' H' s' → RelV v u → Q v H' → CE outer P w w1.H s Q u s' := fun J rv q => ⟨_, _, J.os, J.bare, J.base, J.hok, rv, q⟩
  cases fl with
  | ret u => obtain ⟨v, σ', H', J, rv, q⟩ := hs; exact fin J rv q
  | next => obtain ⟨σ', H', J, q⟩ := hs; exact fin (v := V.non) (u := Value.none) J rfl q
  | brk => obtain ⟨_, _, _, q⟩ := hs; exact q.elim
  | cont => obtain ⟨_, _, _, q⟩ := hs; exact q.elim
end
section
variable {X : Cx} {E : XK}
theorem de_callG {k n : Nat} {f : Addr} {fd : FuncData} {ps : List Str} {x : Str} {p pos : Pos} {e : Expr} {es : List Expr} {Fs : FA} {g : GL} (G : FnG X.prog X.w X.K X.mg X.base CX0 k f fd ps (spF X.K n g)) (hr : Room k X.A) (hgd : X.A.guards = some []) (hg : Gl X x) (hm : X.mg x = some (.ref f)) (hk : PySem.W.keepIn X.K (.ref f) = true) (hb : Binds X.K fd ps [])
    (ha : PA X (e :: es) (tDa X.K E Fs)) (hlen : ∀ ρ μ ds μ1, Fs ρ μ = .ok ds μ1 → ds.length = n) (hdb : (x == ("__debug__" : Str)) = false := by decide) (he : starEach (e :: es) X.env = (false, eval e X.env) :: starEach es X.env := by rfl) (hpl : (backTo pos (starEach es X.env)).any (·.1) = false := by rfl) :
    PE X (.Call (.Name x p) (e :: es) [] pos) (tD X.K E (fCall g Fs)) := by
  refine ⟨fun pins s σ H Q I h => ?_⟩
  obtain ⟨w, ρ, μ, rfl, sr, z⟩ := h
  refine wpAny_Call_Name_kw (ld_glob I hg hm ?_ hdb)
  refine PySem.W.callWith_K (h₀ := X.base) I.ok.mod.kin hk (thn (ha.run pos pins s σ w.H (fun vs H1 => spF X.K n g vs H1 Q E) I ⟨w, ρ, μ, rfl, sr, ?_⟩) fun us s1 ⟨vs, H1, I1, r, q⟩ => ⟨I1.kIn, ?_⟩) he hpl
  · unfold fCall at z
    cases e1 : Fs ρ μ with
    | no => rw [e1] at z; exact z.elim
    | ex C fs μ1 => rw [e1] at z; exact z
    | ok ds μ1 =>
      rw [e1] at z
      exact fun vs w1 x1 r1 h1 => ⟨by rw [h1.length]; exact hlen ρ μ ds μ1 e1, w1, ds, μ1, rfl, r1, h1, Post.ext x1 z⟩
  · have hl : us.length = ps.length := by rw [← r.length]; exact G.len _ _ _ _ q
    have b := hb s1 us I1.kIn (by rw [List.append_nil]; exact hl)
    rw [List.append_nil] at b
    refine wpAny_call (codeAny_mono (G.run X.A X.stack s1 H1 ⟨us, []⟩ us vs Q E hr hgd I1.env0 b r q) fun r s' hq => ?_)
    cases r with
    | error e => exact False.elim hq
    | ok fl =>
      cases fl with
      | ret u => exact I1.after hq
      | next => exact False.elim hq
      | brk => exact False.elim hq
      | cont => exact False.elim hq
/-! ### repr of a tuple -/
def gRepr : GL := fun ds μ => match ds with
  | [.tup xs] => match (D.tup xs).py with
    | some p => if p.showable = true ∧ p.shown.length ≤ sizeLine ∧ p.depth ≤ 60 ∧ p.hasDict = false then .ok (.str p.shown) μ else .no
    | none => .no
  | _ => .no
def rRepr (K : PySem.W.Frag) : List V → Hp → VK → Prop := fun vs H Q => ∃ a p, vs = [.ref a] ∧ Dp K H (.ref a) p ∧ p.showable = true ∧ p.shown.length ≤ sizeLine ∧ p.depth ≤ 60 ∧ p.hasDict = false ∧ Q (.str p.shown) H
theorem call_repr (hgd : X.A.guards = some []) (hu : X.A.units + 64 < cLine) : CallR X (.builtin "repr") (rRepr X.K) := by
  intro pins s σ H xs us Q I r h
  obtain ⟨a, p, rfl, hd, h1, h2, h3, h4, q⟩ := h
  cases r with
  | cons rx rr =>
    cases rr
    obtain ⟨as, rd⟩ := Dp.reads I p (.ref a) _ hd rx
    cases rx
    exact repr_of_reads' rd h1 (PyData.noDict_hsm h4) hgd (by omega) (fun _ _ e => e) (fun h' u tk hk => ⟨.str p.shown, H, I.kept (t' := tk) hk, ⟨u, rfl⟩, q⟩) h2
theorem ad_repr {K : PySem.W.Frag} : AdL K E gRepr (rRepr K) := fun w μ vs ds Q r hv z => by
  unfold gRepr at z
  split at z
  · rename_i xs
    split at z
    · rename_i p e
      split at z
      · rename_i hc
        cases hv with
        | cons h1 h2 =>
          cases h2
          have hd := h1.dp e
          cases h1 with
          | tup t l => exact ⟨_, p, rfl, hd, hc.1, hc.2.1, hc.2.2.1, hc.2.2.2, post_here z r (.str _)⟩
      · exact z.elim
    · exact z.elim
  · exact z.elim
end
/-- the law's promise, at the heap behind the top -/
theorem law_callG {P : Program} {w : World} {K : PySem.W.Frag} {mg mb : Str → Option Value} {k : Nat} {fa a : Addr} {fd : FuncData} {x : Str} {g : GL} {s₁ : Shared} {vs : List Value} {ns : List Int}
    (KX : K.In s₁.heap) (hns : s₁.heap.Ns mainGlobals mg) (hb : s₁.heap.Ns builtinsNs mb) (hbb : ∀ x : Str, x ≠ "__name__" → mb x = bootBuiltins x) (hlim : s₁.heap.NoLimit) (hg : s₁.gens = #[])
    (ha : s₁.heap.get? a = some { cls := .type "list", data := .seq vs.toArray }) (hi : IntsAre vs ns) (hl : ns.length ≤ sizeLine) (hr : Room k callerA)
    (F : ∀ base : Heap, K.In base → base.Ns mainGlobals mg → FnG P w K mg base CX0 k fa fd [x] (spF K 1 g)) (hbind : ∀ (s : Shared) (u : Value), BindsTo s fd ⟨[u], []⟩ [(x, u)])
    (hsp : ∃ μ, g [.rol (ns.map .int)] [] = .ok (.bl true) μ) :
    codeAny (model P w) callerA (.call (.ref fa) ⟨[.ref a], []⟩) (fun r s' => r = .ok (.ret (.bool true)) ∧ OldK s₁.heap s'.heap ∧ s'.os = s₁.os ∧ AllBare s'.gens) s₁ := by
  have rv := vals_ints hi
  have lenV := hi.length
  have allI : ∀ (w : Wd) (ns : List Int), HvL K w (ns.map V.int) (ns.map D.int) := fun w ns => by
    induction ns with
    | nil => exact .nil
    | cons n ns ih => exact .cons (.int n) ih
  have core : ∀ H : Hp, Only H → LstAt K ⟨[], [], H, fun _ z => absurd z (by simp)⟩ a (ns.map V.int) → HOk P w H s₁.heap → (∀ b, H b ≠ none → b = a) → (H a ≠ none → K.lookup a = none) →
      codeAny (model P w) callerA (.call (.ref fa) ⟨[.ref a], []⟩) (fun r s' => r = .ok (.ret (.bool true)) ∧ OldK s₁.heap s'.heap ∧ s'.os = s₁.os ∧ AllBare s'.gens) s₁ := by
    intro H hO hS hok hA hK
    have uni : ∀ {b : Addr}, H b ≠ none → b = a := fun {b} => hA b
    have toBase : ∀ {b : Addr} {o : Obj}, s₁.heap.get? b = some o → (H b ≠ none → False) → (hidT s₁.heap H).get? b = some o := fun {b o} e n => hidT_get e (by cases q : H b with | none => rfl | some u => exact (n (by rw [q]; simp)).elim)
    have nsK : ∀ {b : Addr} {m : Str → Option Value}, s₁.heap.Ns b m → (hidT s₁.heap H).Ns b m := fun {b m} ⟨o, es, ep, e, d, r⟩ => by
      refine ⟨o, es, ep, toBase e fun n => ?_, d, r⟩
      have eb := uni n
      subst eb
      rw [ha] at e; cases e
      have d' : Data.seq vs.toArray _ = Data.dict es ep := d
      cases d'
    have hKb : K.In (hidT s₁.heap H) := fun b o e => toBase (KX b o e) fun n => by
      have eb := uni n
      subst eb
      rw [hK n] at e; cases e
    have hM : Mod K mg (hidT s₁.heap H) := ⟨hKb, nsK hns, ⟨mb, nsK hb, hbb⟩, let ⟨mc, h1, h2⟩ := hlim; ⟨mc, nsK h1, h2⟩⟩
    have e0 : Env0 P w K mg (hidT s₁.heap H) callerA [] s₁ H := ⟨rfl, hM, fun b o e => of_hidT e, Nat.le_of_eq (hidT_size _ _), trivial, fun b z => absurd (show b ∈ ([] : List Addr) from z) (by simp), hok, .of_eq hg⟩
    have sp : spF K 1 g [.ref a] H (fun v _ => v = .bl true) (fun _ _ _ => False) := by
      obtain ⟨μ, eg⟩ := hsp
      refine ⟨rfl, ⟨[], [], H, fun _ z => absurd z (by simp)⟩, [.rol (ns.map .int)], [], rfl, ⟨rfl, List.nodup_nil, fun b z => absurd z (by simp), fun k a o z => by simp at z⟩, .cons (.rol hS (allI _ ns)) .nil, ?_⟩
      rw [eg]
      intro v w2 e2 r2 h2
      cases h2
      rfl
    refine codeAny_mono ((F _ hKb (nsK hns)).run callerA [] s₁ H ⟨[.ref a], []⟩ [.ref a] [.ref a] _ _ hr rfl e0 (hbind s₁ (.ref a)) (.cons rfl .nil) sp) fun r s' h => ?_
    cases r with
    | error e => exact False.elim h
    | ok fl =>
      cases fl with
      | next => exact False.elim h
      | brk => exact False.elim h
      | cont => exact False.elim h
      | ret u =>
        obtain ⟨v, H', os, bare, un, hok', r', q⟩ := h
        obtain rfl : v = .bl true := q
        obtain rfl : u = Value.bool true := r'
        refine ⟨rfl, OldK.of_keep fun b o e => ?_, os, bare⟩
        rcases hO b with z | ⟨ob, xs, z⟩
        · exact un.keep b o e z (fun y => absurd (show b ∈ ([] : List Addr) from y) (by simp)) (by simp)
        · obtain ⟨e1, _⟩ := hok b _ z
          obtain ⟨e2, _⟩ := hok' b _ (un.frzs b ob _ z)
          rw [e] at e1; cases e1
          exact e2
  cases hk : K.lookup a with
  | some o =>
    have e := KX a o hk
    rw [ha] at e
    cases e
    refine core (fun _ => none) (fun _ => .inl rfl) (.inr (.inr ⟨_, vs.toArray, _, hk, rfl, rfl, rfl, by rw [List.size_toArray, lenV]; exact hl, by simpa using rv⟩)) (fun b u z => by cases (show (none : Option HO) = some u from z)) (fun b z => absurd rfl z) fun z => absurd rfl z
  | none =>
    refine core (fun b => if b = a then some (.frz { cls := .type "list", data := .seq vs.toArray } (.lst (ns.map V.int))) else none) (fun b => ?_) (.inl ⟨by simp, .inr ⟨{ cls := .type "list", data := .seq vs.toArray }, if_pos rfl⟩⟩) (fun b u z => ?_) (fun b z => ?_) fun _ => hk
    · by_cases hb : b = a
      · exact .inr ⟨_, _, if_pos hb⟩
      · exact .inl (if_neg hb)
    · by_cases hb : b = a
      · cases (if_pos hb).symm.trans z
        subst hb
        exact ⟨ha, by rw [List.length_map]; exact hl, vs, _, rv, ha⟩
      · cases (if_neg hb).symm.trans z
    · exact Classical.byContradiction fun hb => z (if_neg hb)
end FL
namespace FL
open PySem PySem.Spec PyProof.Rows L2 RZ L2H
def gSortedI : GL := fun ds μ => match ds with
  | [.lst xs] => match inL xs with
    | some ns => .ok (.lst ((ns.mergeSort fun i j => decide (i ≤ j)).map .int)) μ
    | none => .no
  | _ => .no
theorem ad_sortedI {K : PySem.W.Frag} {E : XK} : AdL K E gSortedI (rSortedI K) := fun w μ vs ds Q r h p => by
  match ds, h, p with
  | [], _, p => exact p.elim
  | _ :: _ :: _, .cons h1 (.cons h2 l), p => cases h1 <;> exact p.elim
  | [d], .cons h1 .nil, p =>
    cases h1 with
    | @lst a us xs n t l =>
      simp only [gSortedI] at p
      cases q : inL xs with
      | some ns =>
        rw [q] at p
        have e := inL_hv l q
        subst e
        refine ⟨a, ns, rfl, .of t, fun zs q hp hs hq => ?_⟩
        rw [sorted_ints hp hs]
        exact post_lst p r (hv_ints _) q hq
      | none => rw [q] at p; exact p.elim
    | _ => exact p.elim
theorem unitsH {k : Nat} {A : Around} (r : RoomH k A) : A.units + 64 < cLine := by have := r.un; omega
theorem takes0N {X : Cx} : L2N.Takes X (fun _ _ _ _ => False) := fun _ _ x => by
  obtain ⟨_, _, _, _, _, _, _, _, _, _, _, _, _, _, _, _, z⟩ := x
  exact z.elim
theorem nx_var {i : Nat} (ρ : Rho) (μ : Mu) (C : Addr) (fs : List (Str × D)) (μ1 : Mu) : fCons (fVar i) fNil ρ μ ≠ .ex C fs μ1 := by
  unfold fCons fVar fNil
  split <;> (intro h; cases h)
end FL
namespace K49
open PySem PySem.Spec PyProof.Rows L2 FL
set_option autoImplicit false
def wordsS : List Str := ["after", "again", "at", "busy", "changes", "else", "every", "first", "fold", "it", "late", "never", "one", "only", "pairs", "pick", "quiet", "source", "spaced", "switch", "then", "told", "until"]
def wordsD : D := .tup (wordsS.map .str)
/-! ### is_integer -/
def G_is_integer : FS := (gRet (fAndV (fCall gIsi (fCons (fVar 0) (fCons (fC (.ty "int")) fNil))) (fAndV (fNotV (fCall gIsi (fCons (fVar 0) (fCons (fC (.ty "bool")) fNil)))) (fChain gLe gLe (fUn gNeg (fC (.int 999999999999999999999999999999999999999999999999999999999999))) (fVar 0) (fC (.int 999999999999999999999999999999999999999999999999999999999999))))))
/-! ### is_time -/
def G_is_time (g_is_integer : GL) : FS := (gRet (fAndV (fCall g_is_integer (fCons (fVar 0) fNil)) (fBin gGe (fVar 0) (fC (.int 0)))))
/-! ### is_letter -/
def G_is_letter : FS := (gRet (fAndV (fCall gIsi (fCons (fVar 0) (fCons (fC (.ty "str")) fNil))) (fAndV (fBin gEqq (fCall gLen (fCons (fVar 0) fNil)) (fC (.int 1))) (fBin (gIn false) (fVar 0) (fC (.str "abcdefghijklmnopqrstuvwxyz"))))))
/-! ### is_name -/
def G_is_name : FS := (gSeq (gIf (fOr (fNot (fTru (fCall gIsi (fCons (fVar 0) (fCons (fC (.ty "str")) fNil))))) (fNot (fB (fChain gLe gLe (fC (.int 1)) (fCall gLen (fCons (fVar 0) fNil)) (fC (.int 8)))))) (gRet (fC (.bl false))) gNx) (gSeq (gFor (fItS (fVar 0)) (tgN 1) (gIf (fB (fBin (gIn true) (fVar 1) (fC (.str "abcdefghijklmnopqrstuvwxyz")))) (gRet (fC (.bl false))) gNx)) (gRet (fBin (gIn true) (fVar 0) (fC wordsD)))))
/-! ### is_event -/
def G_is_event (g_is_time : GL) (g_is_name : GL) (g_is_letter : GL) (g_is_integer : GL) : FS := (gSeq (gIf (fOr (fNot (fTru (fCall gIsi (fCons (fVar 0) (fCons (fC (.ty "tuple")) fNil))))) (fB (fBin gNee (fCall gLen (fCons (fVar 0) fNil)) (fC (.int 4))))) (gRet (fC (.bl false))) gNx) (gRet (fAndV (fCall g_is_time (fCons (fBin gIx (fVar 0) (fC (.int 0))) fNil)) (fAndV (fCall g_is_name (fCons (fBin gIx (fVar 0) (fC (.int 1))) fNil)) (fAndV (fCall g_is_letter (fCons (fBin gIx (fVar 0) (fC (.int 2))) fNil)) (fCall g_is_integer (fCons (fBin gIx (fVar 0) (fC (.int 3))) fNil)))))))
/-! ### are_events -/
def G_are_events (g_is_event : GL) : FS := (gSeq (gIf (fOr (fNot (fTru (fCall gIsi (fCons (fVar 0) (fCons (fC (.ty "tuple")) fNil))))) (fNot (fTru (fCall gAll (fCons (fComp [1] (fItT (fVar 0)) (tgN 1) fYes (fCall g_is_event (fCons (fVar 1) fNil))) fNil))))) (gRet (fC (.bl false))) gNx) (gSeq (gFor (fItZ (fCons (fVar 0) (fCons (fSl (fVar 0) (fP (fC (.int 1))) fNoP) fNil))) (tgT 2 (tgCons (tgN 1) (tgCons (tgN 2) tgNil))) (gIf (fB (fBin gGt (fBin gIx (fVar 1) (fC (.int 0))) (fBin gIx (fVar 2) (fC (.int 0))))) (gRet (fC (.bl false))) gNx)) (gRet (fC (.bl true)))))
/-! ### last_time -/
def G_last_time : FS := (gRet (fIf (fTru (fVar 0)) (fBin gIx (fBin gIx (fVar 0) (fUn gNeg (fC (.int 1)))) (fC (.int 0))) (fC (.int 0))))
/-! ### are_rows -/
def G_are_rows (g_is_integer : GL) : FS := (gSeq (gIf (fOr (fNot (fTru (fCall gIsi (fCons (fVar 0) (fCons (fC (.ty "tuple")) fNil))))) (fNot (fB (fChain gLe gLe (fC (.int 1)) (fCall gLen (fCons (fVar 0) fNil)) (fBin gAdd (fC (.int 12)) (fC (.int 1))))))) (gRet (fC (.bl false))) gNx) (gSeq (gFor (fItT (fVar 0)) (tgN 1) (gSeq (gIf (fOr (fNot (fTru (fCall gIsi (fCons (fVar 1) (fCons (fC (.ty "tuple")) fNil))))) (fB (fBin gNee (fCall gLen (fCons (fVar 1) fNil)) (fCall gLen (fCons (fVar 0) fNil))))) (gRet (fC (.bl false))) gNx) (gIf (fNot (fTru (fCall gAll (fCons (fComp [2] (fItT (fVar 1)) (tgN 2) fYes (fCall g_is_integer (fCons (fVar 2) fNil))) fNil)))) (gRet (fC (.bl false))) gNx))) (gRet (fC (.bl true)))))
/-! ### words_in -/
def G_words_in : FS := (gSeq (gSet (fMut fNil) (tgN 1)) (gSeq (gSet (fC (.str "")) (tgN 2)) (gSeq (gFor (fItS (fVar 0)) (tgN 3) (gSeq (gIf (fAnd (fB (fBin gNee (fVar 3) (fC (.str " ")))) (fB (fBin (gIn true) (fVar 3) (fTup (fCons (fC (.str "(")) (fCons (fC (.str ")")) fNil)))))) (gSeq (gAug 2 (fVar 3)) gCnt) gNx) (gSeq (gIf (fB (fBin gNee (fVar 2) (fC (.str "")))) (gSeq (gExpr (fMeth "list" gAppend (fVar 1) (fCons (fVar 2) fNil))) (gSet (fC (.str "")) (tgN 2))) gNx) (gIf (fB (fBin gNee (fVar 3) (fC (.str " ")))) (gExpr (fMeth "list" gAppend (fVar 1) (fCons (fVar 3) fNil))) gNx)))) (gRet (fIf (fB (fBin gNee (fVar 2) (fC (.str "")))) (fLst (fStar (fVar 1) (fCons (fVar 2) fNil))) (fVar 1))))))
/-! ### is_word -/
def G_is_word : FS := (gRet (fAndV (fCall gIsi (fCons (fVar 0) (fCons (fC (.ty "str")) fNil))) (fAndV (fBin gNee (fVar 0) (fC (.str ""))) (fCall gAll (fCons (fComp [1] (fItS (fVar 0)) (tgN 1) fYes (fBin (gIn false) (fVar 1) (fC (.str "abcdefghijklmnopqrstuvwxyz")))) fNil)))))
/-! ### can_be_written -/
def G_can_be_written (g_is_integer : GL) (g_is_word : GL) (g_can_be_written : GL) : FS := (gSeq (gIf (fNot (fTru (fCall gIsi (fCons (fVar 0) (fCons (fC (.ty "tuple")) fNil))))) (gRet (fOrV (fBin gIsN (fVar 0) (fC .non)) (fOrV (fCall g_is_integer (fCons (fVar 0) fNil)) (fCall g_is_word (fCons (fVar 0) fNil))))) gNx) (gRet (fAndV (fBin gGt (fVar 1) (fC (.int 0))) (fCall gAll (fCons (fComp [2] (fItT (fVar 0)) (tgN 2) fYes (fCall g_can_be_written (fCons (fVar 2) (fCons (fBin gSub (fVar 1) (fC (.int 1))) fNil)))) fNil)))))
/-! ### has_stand_form -/
def G_has_stand_form (g_can_be_written : GL) (g_is_integer : GL) (g_are_rows : GL) : FS := (gSeq (gIf (fOr (fNot (fTru (fCall gIsi (fCons (fVar 0) (fCons (fC (.ty "tuple")) fNil))))) (fOr (fB (fBin gNee (fCall gLen (fCons (fVar 0) fNil)) (fC (.int 4)))) (fNot (fTru (fCall g_can_be_written (fCons (fVar 0) (fCons (fC (.int 20)) fNil))))))) (gRet (fC (.bl false))) gNx) (gSeq (gSet (fVar 0) (tgStar 3 (tgCons (tgN 1) (tgCons (tgN 2) (tgCons (tgN 3) tgNil))))) (gRet (fAndV (fCall gIsi (fCons (fVar 2) (fCons (fC (.ty "tuple")) fNil))) (fAndV (fCall gAll (fCons (fComp [4] (fItT (fVar 2)) (tgN 4) fYes (fCall g_is_integer (fCons (fVar 4) fNil))) fNil)) (fCall g_are_rows (fCons (fVar 3) fNil)))))))
/-! ### are_stand_forms -/
def G_are_stand_forms (g_has_stand_form : GL) : FS := (gRet (fAndV (fCall gIsi (fCons (fVar 0) (fCons (fC (.ty "tuple")) fNil))) (fCall gAll (fCons (fComp [1] (fItT (fVar 0)) (tgN 1) fYes (fCall g_has_stand_form (fCons (fVar 1) fNil))) fNil))))
/-! ### has_row_form -/
def G_has_row_form (g_are_events : GL) (g_is_integer : GL) (g_last_time : GL) (g_are_stand_forms : GL) : FS := (gSeq (gIf (fOr (fNot (fTru (fCall g_are_events (fCons (fVar 0) fNil)))) (fOr (fNot (fTru (fCall g_is_integer (fCons (fVar 1) fNil)))) (fB (fBin gLt (fVar 1) (fCall g_last_time (fCons (fVar 0) fNil)))))) (gRet (fC (.bl false))) gNx) (gSeq (gIf (fOr (fNot (fTru (fCall gIsi (fCons (fVar 2) (fCons (fC (.ty "tuple")) fNil))))) (fB (fBin gNee (fCall gLen (fCons (fVar 2) fNil)) (fCall gLen (fCons (fVar 0) fNil))))) (gRet (fC (.bl false))) gNx) (gRet (fCall gAll (fCons (fComp [3] (fItT (fVar 2)) (tgN 3) fYes (fCall g_are_stand_forms (fCons (fVar 3) fNil))) fNil)))))
/-! ### has_paper_form -/
def G_has_paper_form (g_are_stand_forms : GL) (g_has_row_form : GL) : FS := (gSeq (gIf (fOr (fNot (fTru (fCall gIsi (fCons (fVar 0) (fCons (fC (.ty "tuple")) fNil))))) (fOr (fB (fBin gEqq (fCall gLen (fCons (fVar 0) fNil)) (fC (.int 0)))) (fNot (fTru (fCall gIsi (fCons (fBin gIx (fVar 0) (fC (.int 0))) (fCons (fC (.ty "str")) fNil))))))) (gRet (fC (.bl false))) gNx) (gSeq (gIf (fB (fBin gEqq (fBin gIx (fVar 0) (fC (.int 0))) (fC (.str "list")))) (gRet (fAndV (fBin gEqq (fCall gLen (fCons (fVar 0) fNil)) (fC (.int 2))) (fCall g_are_stand_forms (fCons (fBin gIx (fVar 0) (fC (.int 1))) fNil)))) gNx) (gSeq (gIf (fOr (fB (fBin gNee (fBin gIx (fVar 0) (fC (.int 0))) (fC (.str "row")))) (fB (fBin gNee (fCall gLen (fCons (fVar 0) fNil)) (fC (.int 4))))) (gRet (fC (.bl false))) gNx) (gSeq (gSet (fSl (fVar 0) (fP (fC (.int 1))) fNoP) (tgT 3 (tgCons (tgN 1) (tgCons (tgN 2) (tgCons (tgN 3) tgNil))))) (gRet (fCall g_has_row_form (fCons (fVar 1) (fCons (fVar 2) (fCons (fVar 3) fNil)))))))))
/-! ### value_text -/
def G_value_text (g_value_text : GL) : FS := (gSeq (gIf (fTru (fCall gIsi (fCons (fVar 0) (fCons (fC (.ty "tuple")) fNil)))) (gRet (fBin gAdd (fBin gAdd (fC (.str "(")) (fMeth "str" gJoin (fC (.str " ")) (fCons (fComp [1] (fItT (fVar 0)) (tgN 1) fYes (fCall g_value_text (fCons (fVar 1) fNil))) fNil))) (fC (.str ")")))) gNx) (gRet (fIf (fB (fBin gIsN (fVar 0) (fC .non))) (fC (.str "-")) (fCall gStr (fCons (fVar 0) fNil)))))
/-! ### event_text -/
def G_event_text : FS := (gSeq (gSet (fVar 0) (tgT 4 (tgCons (tgN 1) (tgCons (tgN 2) (tgCons (tgN 3) (tgCons (tgN 4) tgNil)))))) (gRet (fJs [(fFmt (fVar 1)), (fC (.str " ")), (fFmt (fVar 2)), (fC (.str " ")), (fFmt (fVar 3)), (fC (.str " ")), (fFmt (fVar 4))] Str.empty)))
/-! ### integer_of -/
def G_integer_of (g_is_integer : GL) : FS := (gSeq (gSet (fIf (fB (fBin gEqq (fSl (fVar 0) fNoP (fP (fC (.int 1)))) (fC (.str "-")))) (fSl (fVar 0) (fP (fC (.int 1))) fNoP) (fVar 0)) (tgN 1)) (gSeq (gIf (fOr (fB (fBin gEqq (fVar 1) (fC (.str "")))) (fOr (fB (fBin gGt (fCall gLen (fCons (fVar 0) fNil)) (fC (.int 61)))) (fNot (fTru (fCall gAll (fCons (fComp [2] (fItS (fVar 1)) (tgN 2) fYes (fBin (gIn false) (fVar 2) (fC (.str "0123456789")))) fNil)))))) (gRet (fC .non)) gNx) (gSeq (gSet (fCall gInt (fCons (fVar 0) fNil)) (tgN 3)) (gRet (fIf (fAnd (fB (fBin gEqq (fCall gStr (fCons (fVar 3) fNil)) (fVar 0))) (fTru (fCall g_is_integer (fCons (fVar 3) fNil)))) (fVar 3) (fC .non))))))
/-! ### tuple_of -/
def G_tuple_of (g_words_in : GL) (g_is_word : GL) (g_integer_of : GL) : FS := (gSeq (gSet (fMut (fCons (fMut fNil) fNil)) (tgN 1)) (gSeq (gFor (fItL (fCall g_words_in (fCons (fVar 0) fNil))) (tgN 2) (gSeq (gIf (fAnd (fB (fBin gEqq (fCall gLen (fCons (fVar 1) fNil)) (fC (.int 1)))) (fOr (fB (fBin gNee (fVar 2) (fC (.str "(")))) (fTru (fBin gIx (fVar 1) (fC (.int 0)))))) (gRet (fC .non)) gNx) (gSeq (gIf (fB (fBin gEqq (fVar 2) (fC (.str "(")))) (gExpr (fMeth "list" gAppend (fVar 1) (fCons (fMut fNil) fNil))) (gIf (fB (fBin gEqq (fVar 2) (fC (.str ")")))) (gSeq (gSet (fCall gTuple (fCons (fMeth "list" gPop (fVar 1) fNil) fNil)) (tgN 3)) (gExpr (fMeth "list" gAppend (fBin gIx (fVar 1) (fUn gNeg (fC (.int 1)))) (fCons (fVar 3) fNil)))) (gSeq (gSet (fIf (fTru (fCall g_is_word (fCons (fVar 2) fNil))) (fVar 2) (fCall g_integer_of (fCons (fVar 2) fNil))) (tgN 4)) (gSeq (gIf (fAnd (fB (fBin gIsN (fVar 4) (fC .non))) (fB (fBin gNee (fVar 2) (fC (.str "-"))))) (gRet (fC .non)) gNx) (gExpr (fMeth "list" gAppend (fBin gIx (fVar 1) (fUn gNeg (fC (.int 1)))) (fCons (fVar 4) fNil))))))) (gIf (fB (fBin gGt (fCall gLen (fCons (fVar 1) fNil)) (fBin gAdd (fC (.int 20)) (fC (.int 1))))) (gRet (fC .non)) gNx)))) (gRet (fIf (fAnd (fB (fBin gEqq (fCall gLen (fCons (fVar 1) fNil)) (fC (.int 1)))) (fTru (fBin gIx (fVar 1) (fC (.int 0))))) (fBin gIx (fBin gIx (fVar 1) (fC (.int 0))) (fC (.int 0))) (fC .non)))))
/-! ### stand_of -/
def G_stand_of (g_tuple_of : GL) (g_value_text : GL) (g_has_stand_form : GL) : FS := (gSeq (gSet (fCall g_tuple_of (fCons (fVar 0) fNil)) (tgN 2)) (gSeq (gIf (fOr (fB (fBin gIsN (fVar 2) (fC .non))) (fOr (fB (fBin gNee (fCall g_value_text (fCons (fVar 2) fNil)) (fVar 0))) (fNot (fTru (fCall g_has_stand_form (fCons (fVar 2) fNil)))))) gNo gNx) (gRet (fVar 2))))
/-! ### event_of -/
def G_event_of (g_integer_of : GL) (g_is_event : GL) : FS := (gMatchL 4 (fMeth "str" gSplit (fVar 0) (fCons (fC (.str " ")) fNil)) (fun ds ρ => some (setsR [3, 4, 5, 6] ds ρ)) (gSeq (gSet (fTup (fCons (fCall g_integer_of (fCons (fVar 3) fNil)) (fCons (fVar 4) (fCons (fVar 5) (fCons (fCall g_integer_of (fCons (fVar 6) fNil)) fNil))))) (tgN 2)) (gRet (fIf (fAnd (fTru (fCall g_is_event (fCons (fVar 2) fNil))) (fB (fBin gGe (fBin gIx (fVar 2) (fC (.int 0))) (fVar 1)))) (fVar 2) (fC .non)))) (gRet (fC .non)))
/-! ### last_of -/
def G_last_of (g_integer_of : GL) : FS := (gSeq (gSet (fMeth "str" gPartition (fVar 0) (fCons (fC (.str " ")) fNil)) (tgT 3 (tgCons (tgN 3) (tgCons (tgN 4) (tgCons (tgN 5) tgNil))))) (gSeq (gSet (fCall g_integer_of (fCons (fVar 5) fNil)) (tgN 6)) (gSeq (gIf (fOr (fB (fBin gNee (fVar 3) (fC (.str "until")))) (fOr (fB (fBin gIsN (fVar 6) (fC .non))) (fB (fBin gLt (fVar 6) (fVar 1))))) gNo gNx) (gRet (fVar 6)))))
/-! ### rounds_of -/
def G_rounds_of (g_stand_of : GL) : FS := (gSeq (gSet (fMut fNil) (tgN 3)) (gSeq (gWhile (fuelOf 0) (fB (fBin gLt (fVar 1) (fCall gLen (fCons (fVar 0) fNil)))) (gSeq (gIf (fAnd (fB (fBin gEqq (fBin gIx (fVar 0) (fVar 1)) (fC (.str "round")))) (fB (fBin gLt (fCall gLen (fCons (fVar 3) fNil)) (fVar 2)))) (gExpr (fMeth "list" gAppend (fVar 3) (fCons (fTup fNil) fNil))) (gIf (fAnd (fB (fBin gNee (fBin gIx (fVar 0) (fVar 1)) (fC (.str "round")))) (fTru (fVar 3))) (gStoreL (fTup (fStar (fBin gIx (fVar 3) (fUn gNeg (fC (.int 1)))) (fCons (fCall g_stand_of (fCons (fBin gIx (fVar 0) (fVar 1)) (fCons (fVar 1) fNil))) fNil))) (fVar 3) (fUn gNeg (fC (.int 1)))) gNo)) (gAug 1 (fC (.int 1))))) (gSeq (gIf (fB (fBin gLt (fCall gLen (fCons (fVar 3) fNil)) (fVar 2))) gNo gNx) (gRet (fCall gTuple (fCons (fVar 3) fNil))))))
/-! ### read_paper -/
def G_read_paper (g_stand_of : GL) (g_event_of : GL) (g_last_of : GL) (g_rounds_of : GL) : FS := (gSeq (gIf (fNot (fTru (fCall gIsi (fCons (fVar 0) (fCons (fC (.ty "str")) fNil))))) gNo gNx) (gSeq (gSet (fMeth "str" gSplit (fVar 0) (fCons (fC (.str "\n")) fNil)) (tgN 1)) (gSeq (gIf (fB (fBin gEqq (fBin gIx (fVar 1) (fC (.int 0))) (fC (.str "list")))) (gRet (fTup (fCons (fC (.str "list")) (fCons (fCall gTuple (fCons (fComp [2, 3] (fItE (fCons (fSl (fVar 1) (fP (fC (.int 1))) fNoP) fNil)) (tgT 2 (tgCons (tgN 2) (tgCons (tgN 3) tgNil))) fYes (fCall g_stand_of (fCons (fVar 3) (fCons (fBin gAdd (fVar 2) (fC (.int 1))) fNil)))) fNil)) fNil)))) gNx) (gSeq (gIf (fB (fBin gNee (fBin gIx (fVar 1) (fC (.int 0))) (fC (.str "row")))) gNo gNx) (gSeq (gSet (fMut fNil) (tgN 4)) (gSeq (gSet (fC (.int 0)) (tgN 5)) (gSeq (gFor (fItL (fSl (fVar 1) (fP (fC (.int 1))) fNoP)) (tgN 3) (gSeq (gIfN 6 gIsN (fCall g_event_of (fCons (fVar 3) (fCons (fVar 5) fNil))) (fC .non) gBrk gNx) (gSeq (gExpr (fMeth "list" gAppend (fVar 4) (fCons (fVar 6) fNil))) (gSet (fBin gIx (fVar 6) (fC (.int 0))) (tgN 5))))) (gSeq (gSet (fBin gAdd (fCall gLen (fCons (fVar 4) fNil)) (fC (.int 1))) (tgN 7)) (gSeq (gIf (fB (fBin gEqq (fVar 7) (fCall gLen (fCons (fVar 1) fNil)))) gNo gNx) (gSeq (gSet (fCall g_last_of (fCons (fBin gIx (fVar 1) (fVar 7)) (fCons (fVar 5) (fCons (fVar 7) fNil)))) (tgN 8)) (gRet (fTup (fCons (fC (.str "row")) (fCons (fCall gTuple (fCons (fVar 4) fNil)) (fCons (fVar 8) (fCons (fCall g_rounds_of (fCons (fVar 1) (fCons (fBin gAdd (fVar 7) (fC (.int 1))) (fCons (fCall gLen (fCons (fVar 4) fNil)) fNil)))) fNil))))))))))))))))
/-! ### _law_start -/
def G__law_start : FS := (gSeq (gSet (fIf (fB (fBin gLt (fVar 1) (fCall gLen (fCons (fVar 0) fNil)))) (fBin gIx (fVar 0) (fVar 1)) (fBin gAdd (fBin gMul (fC (.int 53)) (fVar 1)) (fC (.int 7)))) (tgN 2)) (gSeq (gSet (fBin gMod (fCall gInt (fCons (fCall gAbs (fCons (fVar 2) fNil)) fNil)) (fBin gPow (fBin gPow (fC (.int 10)) (fC (.int 60))) (fC (.int 10)))) (tgN 3)) (gSeq (gSet (fBin gAdd (fBin gMul (fBin gMod (fCall gInt (fCons (fVar 3) fNil)) (fC (.int 2305843009213693921))) (fC (.int 3))) (fCall gInt (fCons (fBin gLt (fVar 2) (fC (.int 0))) fNil))) (tgN 4)) (gRet (fMut (fCons (fCall gMax2 (fCons (fC (.int 0)) (fCons (fBin gSub (fVar 3) (fBin gPow (fC (.int 10)) (fC (.int 18)))) fNil))) (fCons (fBin gMod (fCall gInt (fCons (fBin gAdd (fBin gAdd (fBin gMul (fVar 4) (fC (.int 40009))) (fBin gMul (fC (.int 7919)) (fVar 1))) (fC (.int 17))) fNil)) (fC (.int 2305843009213693951))) (fCons (fC (.int 0)) fNil))))))))
/-! ### _law_throw -/
def G__law_throw : FS := (gSeq (gIf (fB (fBin gGt (fBin gIx (fVar 0) (fC (.int 0))) (fC (.int 0)))) (gSeq (gSet (fBin gMod (fCall gInt (fCons (fBin gIx (fVar 0) (fC (.int 0))) fNil)) (fVar 1)) (tgN 2)) (gSeq (gStoreL (fBin gFdiv (fBin gIx (fVar 0) (fC (.int 0))) (fVar 1)) (fVar 0) (fC (.int 0))) (gRet (fVar 2)))) gNx) (gSeq (gStoreL (fBin gAdd (fBin gIx (fVar 0) (fC (.int 2))) (fC (.int 1))) (fVar 0) (fC (.int 2))) (gSeq (gSet (fBin gMod (fCall gInt (fCons (fBin gAdd (fBin gIx (fVar 0) (fC (.int 1))) (fBin gMul (fC (.int 1000003)) (fBin gIx (fVar 0) (fC (.int 2))))) fNil)) (fC (.int 2305843009213693951))) (tgN 3)) (gSeq (gSet (fBin gMod (fCall gInt (fCons (fBin gAdd (fBin gMul (fVar 3) (fVar 3)) (fBin gMul (fC (.int 12347)) (fBin gIx (fVar 0) (fC (.int 2))))) fNil)) (fC (.int 2305843009213693921))) (tgN 4)) (gSeq (gSet (fBin gMod (fCall gInt (fCons (fBin gAdd (fBin gMul (fVar 4) (fVar 3)) (fC (.int 777767777))) fNil)) (fC (.int 2305843009213693951))) (tgN 5)) (gRet (fBin gMod (fCall gInt (fCons (fBin gFdiv (fVar 5) (fC (.int 4096))) fNil)) (fVar 1))))))))
/-! ### _law_pick -/
def G__law_pick (g__law_throw : GL) : FS := (gRet (fBin gIx (fVar 1) (fCall g__law_throw (fCons (fVar 0) (fCons (fCall gLen (fCons (fVar 1) fNil)) fNil)))))
/-! ### _law_letters -/
def G__law_letters (g__law_throw : GL) : FS := (gSeq (gSet (fCall gListM (fCons (fC (.str "abcdefghijklmnopqrstuvwxyz")) fNil)) (tgN 2)) (gSeq (gIf (fAnd (fB (fBin gLe (fVar 1) (fC (.int 4)))) (fB (fBin gGt (fCall g__law_throw (fCons (fVar 0) (fCons (fC (.int 3)) fNil))) (fC (.int 0))))) (gSet (fCall gListM (fCons (fC (.str "abcd")) fNil)) (tgN 2)) gNx) (gSeq (gSet (fBin gAdd (fC (.int 1)) (fCall g__law_throw (fCons (fVar 0) (fCons (fVar 1) fNil)))) (tgN 3)) (gRet (fCall gTuple (fCons (fCall gSorted (fCons (fComp [4] (fItR1 (fCons (fVar 3) fNil)) (tgN 4) fYes (fMeth "list" gPopAt (fVar 2) (fCons (fCall g__law_throw (fCons (fVar 0) (fCons (fCall gLen (fCons (fVar 2) fNil)) fNil))) fNil))) fNil)) fNil))))))
/-! ### _law_words -/
def G__law_words : FS := (gSeq (gSet (fLst (fCons (fC (.str "after")) (fCons (fC (.str "again")) (fCons (fC (.str "at")) (fCons (fC (.str "busy")) (fCons (fC (.str "changes")) (fCons (fC (.str "else")) (fCons (fC (.str "every")) (fCons (fC (.str "first")) (fCons (fC (.str "fold")) (fCons (fC (.str "it")) (fCons (fC (.str "late")) (fCons (fC (.str "never")) (fCons (fC (.str "one")) fNil)))))))))))))) (tgN 0)) (gRet (fBin gAdd (fVar 0) (fLst (fCons (fC (.str "only")) (fCons (fC (.str "pairs")) (fCons (fC (.str "pick")) (fCons (fC (.str "quiet")) (fCons (fC (.str "source")) (fCons (fC (.str "spaced")) (fCons (fC (.str "switch")) (fCons (fC (.str "then")) (fCons (fC (.str "told")) (fCons (fC (.str "until")) fNil))))))))))))))
/-! ### _law_name -/
def G__law_name (g__law_pick : GL) (g__law_throw : GL) (g__law_words : GL) : FS := (gSeq (gSet (fC (.str "abcdefghijklmnopqrstuvwxyz")) (tgN 2)) (gSeq (gSet (fCall g__law_pick (fCons (fVar 0) (fCons (fLst (fCons (fVar 2) (fCons (fC (.str "ab")) (fCons (fC (.str "st")) fNil)))) fNil))) (tgN 3)) (gSeq (gSet (fMeth "str" gJoin (fC (.str "")) (fCons (fComp [5] (fItR1 (fCons (fBin gAdd (fC (.int 1)) (fCall g__law_throw (fCons (fVar 0) (fCons (fC (.int 8)) fNil)))) fNil)) (tgN 5) fYes (fCall g__law_pick (fCons (fVar 0) (fCons (fVar 3) fNil)))) fNil)) (tgN 4)) (gSeq (gFor (fItL (fBin gAdd (fLst (fCons (fVar 4) fNil)) (fComp [7] (fItS (fVar 2)) (tgN 7) fYes (fBin gAdd (fSl (fVar 4) fNoP (fP (fC (.int 7)))) (fVar 7))))) (tgN 6) (gIf (fAnd (fB (fBin (gIn true) (fVar 6) (fVar 1))) (fB (fBin (gIn true) (fVar 6) (fCall g__law_words fNil)))) (gRet (fVar 6)) gNx)) (gRet (fC (.str "zzz")))))))
/-! ### _law_layout -/
def G__law_layout (g__law_throw : GL) (g__law_name : GL) (g__law_letters : GL) : FS := (gSeq (gSet fDNewM (tgN 3)) (gSeq (gFor (fItR1 (fCons (fBin gAdd (fC (.int 1)) (fCall g__law_throw (fCons (fVar 0) (fCons (fVar 1) fNil)))) fNil)) (tgN 4) (gSeq (gSet (fCall g__law_name (fCons (fVar 0) (fCons (fCall gSorted (fCons (fVar 3) fNil)) fNil))) (tgN 5)) (gStoreD (fCall g__law_letters (fCons (fVar 0) (fCons (fVar 2) fNil))) (fVar 3) (fVar 5)))) (gRet (fVar 3))))
/-! ### _law_value -/
def G__law_value (g__law_throw : GL) : FS := (gSeq (gSet (fCall g__law_throw (fCons (fVar 0) (fCons (fC (.int 8)) fNil))) (tgN 1)) (gSeq (gIf (fB (fBin gLt (fVar 1) (fC (.int 5)))) (gRet (fCall g__law_throw (fCons (fVar 0) (fCons (fC (.int 3)) fNil)))) gNx) (gSeq (gIf (fB (fBin gEqq (fVar 1) (fC (.int 5)))) (gRet (fBin gSub (fUn gNeg (fC (.int 1))) (fCall g__law_throw (fCons (fVar 0) (fCons (fC (.int 3)) fNil))))) gNx) (gRet (fBin gMul (fCall g__law_throw (fCons (fVar 0) (fCons (fBin gPow (fC (.int 10)) (fC (.int 60))) fNil))) (fBin gSub (fC (.int 13)) (fBin gMul (fC (.int 2)) (fVar 1))))))))
/-! ### _law_events -/
def G__law_events (g__law_throw : GL) (g__law_pick : GL) (g__law_value : GL) : FS := (gSeq (gSet (fCall gSorted (fCons (fVar 1) fNil)) (tgN 4)) (gSeq (gSet (fMut fNil) (tgN 5)) (gSeq (gSet (fC (.int 0)) (tgN 6)) (gSeq (gFor (fItR1 (fCons (fCall g__law_throw (fCons (fVar 0) (fCons (fBin gAdd (fVar 2) (fC (.int 1))) fNil))) fNil)) (tgN 7) (gSeq (gSet (fBin gAdd (fVar 6) (fBin gMul (fCall g__law_throw (fCons (fVar 0) (fCons (fVar 3) fNil))) (fCall gInt (fCons (fBin gGt (fCall g__law_throw (fCons (fVar 0) (fCons (fC (.int 3)) fNil))) (fC (.int 0))) fNil)))) (tgN 6)) (gSeq (gSet (fCall g__law_pick (fCons (fVar 0) (fCons (fVar 4) fNil))) (tgN 8)) (gExpr (fMeth "list" gAppend (fVar 5) (fCons (fTup (fCons (fVar 6) (fCons (fVar 8) (fCons (fCall g__law_pick (fCons (fVar 0) (fCons (fBin gDGet (fVar 1) (fVar 8)) fNil))) (fCons (fCall g__law_value (fCons (fVar 0) fNil)) fNil))))) fNil)))))) (gRet (fCall gTuple (fCons (fVar 5) fNil)))))))
/-! ### _law_tape -/
def G__law_tape (g__law_events : GL) (g__law_throw : GL) : FS := (gSeq (gSet (fCall g__law_events (fCons (fVar 0) (fCons (fVar 1) (fCons (fVar 2) (fCons (fVar 3) fNil))))) (tgN 4)) (gSeq (gSet (fIf (fTru (fVar 4)) (fBin gIx (fBin gIx (fVar 4) (fUn gNeg (fC (.int 1)))) (fC (.int 0))) (fC (.int 0))) (tgN 5)) (gRet (fTup (fCons (fVar 4) (fCons (fBin gAdd (fVar 5) (fCall g__law_throw (fCons (fVar 0) (fCons (fVar 3) fNil)))) fNil))))))
/-! ### _law_atom -/
def G__law_atom (g__law_throw : GL) (g__law_pick : GL) : FS := (gSeq (gSet (fCall g__law_throw (fCons (fVar 0) (fCons (fC (.int 6)) fNil))) (tgN 1)) (gSeq (gIf (fB (fBin gEqq (fVar 1) (fC (.int 0)))) (gRet (fC .non)) gNx) (gSeq (gIf (fB (fBin gLt (fVar 1) (fC (.int 3)))) (gSeq (gSet (fLst (fCons (fC (.int 0)) (fCons (fC (.int 1)) (fCons (fUn gNeg (fC (.int 1))) (fCons (fBin gSub (fBin gPow (fC (.int 10)) (fC (.int 60))) (fC (.int 1))) (fCons (fBin gSub (fC (.int 1)) (fBin gPow (fC (.int 10)) (fC (.int 60)))) (fCons (fCall g__law_throw (fCons (fVar 0) (fCons (fBin gPow (fC (.int 10)) (fC (.int 60))) fNil))) (fCons (fBin gAdd (fC (.int 10)) (fCall g__law_throw (fCons (fVar 0) (fCons (fC (.int 90)) fNil)))) fNil)))))))) (tgN 2)) (gRet (fCall g__law_pick (fCons (fVar 0) (fCons (fVar 2) fNil))))) gNx) (gSeq (gSet (fCall g__law_pick (fCons (fVar 0) (fCons (fLst (fCons (fC (.str "ab")) (fCons (fC (.str "onver")) (fCons (fC (.str "abcdefghijklmnopqrstuvwxyz")) fNil)))) fNil))) (tgN 3)) (gRet (fMeth "str" gJoin (fC (.str "")) (fCons (fComp [4] (fItR1 (fCons (fBin gAdd (fC (.int 1)) (fCall g__law_throw (fCons (fVar 0) (fCons (fC (.int 12)) fNil)))) fNil)) (tgN 4) fYes (fCall g__law_pick (fCons (fVar 0) (fCons (fVar 3) fNil)))) fNil)))))))
/-! ### _law_shape -/
def G__law_shape (g__law_throw : GL) (g__law_atom : GL) (g__law_shape : GL) : FS := (gSeq (gIf (fOr (fB (fBin gEqq (fVar 1) (fC (.int 0)))) (fOr (fB (fBin gEqq (fBin gIx (fVar 2) (fC (.int 0))) (fC (.int 0)))) (fB (fBin gEqq (fCall g__law_throw (fCons (fVar 0) (fCons (fC (.int 3)) fNil))) (fC (.int 0)))))) (gRet (fCall g__law_atom (fCons (fVar 0) fNil))) gNx) (gSeq (gStoreL (fBin gSub (fBin gIx (fVar 2) (fC (.int 0))) (fC (.int 1))) (fVar 2) (fC (.int 0))) (gRet (fCall gTuple (fCons (fComp [3] (fItR1 (fCons (fCall g__law_throw (fCons (fVar 0) (fCons (fC (.int 7)) fNil))) fNil)) (tgN 3) fYes (fCall g__law_shape (fCons (fVar 0) (fCons (fBin gSub (fVar 1) (fC (.int 1))) (fCons (fVar 2) fNil))))) fNil)))))
/-! ### _law_deep -/
def G__law_deep (g__law_atom : GL) (g__law_pick : GL) : FS := (gSeq (gSet (fTup fNil) (tgN 2)) (gSeq (gFor (fItR1 (fCons (fBin gSub (fVar 1) (fC (.int 1))) fNil)) (tgN 3) (gSet (fCall g__law_pick (fCons (fVar 0) (fCons (fLst (fCons (fTup (fCons (fVar 2) fNil)) (fCons (fTup (fCons (fVar 2) (fCons (fCall g__law_atom (fCons (fVar 0) fNil)) fNil))) (fCons (fTup (fCons (fCall g__law_atom (fCons (fVar 0) fNil)) (fCons (fVar 2) fNil))) (fCons (fTup (fCons (fC .non) (fCons (fVar 2) (fCons (fTup fNil) fNil)))) fNil))))) fNil))) (tgN 2))) (gRet (fVar 2))))
/-! ### _law_number -/
def G__law_number (g__law_throw : GL) (g__law_pick : GL) : FS := (gRet (fCall g__law_pick (fCons (fVar 0) (fCons (fLst (fCons (fC (.int 0)) (fCons (fC (.int 0)) (fCons (fC (.int 1)) (fCons (fUn gNeg (fC (.int 1))) (fCons (fC (.int 2)) (fCons (fCall g__law_throw (fCons (fVar 0) (fCons (fC (.int 9)) fNil))) (fCons (fBin gSub (fBin gPow (fC (.int 10)) (fC (.int 60))) (fC (.int 1))) (fCons (fBin gSub (fC (.int 1)) (fBin gPow (fC (.int 10)) (fC (.int 60)))) (fCons (fUn gNeg (fCall g__law_throw (fCons (fVar 0) (fCons (fBin gPow (fC (.int 10)) (fC (.int 40))) fNil)))) fNil)))))))))) fNil))))
/-! ### _law_stand -/
def G__law_stand (g__law_pick : GL) (g__law_number : GL) (g__law_throw : GL) (g__law_shape : GL) (g__law_deep : GL) : FS := (gSeq (gSet (fCall g__law_pick (fCons (fVar 0) (fCons (fLst (fCons (fC (.int 1)) (fCons (fC (.int 1)) (fCons (fC (.int 2)) (fCons (fC (.int 2)) (fCons (fC (.int 3)) (fCons (fC (.int 4)) (fCons (fC (.int 5)) (fCons (fC (.int 8)) (fCons (fC (.int 13)) fNil)))))))))) fNil))) (tgN 1)) (gSeq (gSet (fComp [4] (fItR1 (fCons (fVar 1) fNil)) (tgN 4) fYes (fCall gTuple (fCons (fComp [3] (fItR1 (fCons (fVar 1) fNil)) (tgN 3) fYes (fIf (fB (fBin gLt (fVar 1) (fC (.int 5)))) (fCall g__law_number (fCons (fVar 0) fNil)) (fCall g__law_throw (fCons (fVar 0) (fCons (fC (.int 30)) fNil))))) fNil))) (tgN 2)) (gSeq (gSet (fCall gTuple (fCons (fComp [6] (fItR1 (fCons (fCall g__law_throw (fCons (fVar 0) (fCons (fC (.int 8)) fNil))) fNil)) (tgN 6) fYes (fCall g__law_number (fCons (fVar 0) fNil))) fNil)) (tgN 5)) (gSeq (gSet (fCompM [6] (fItR1 (fCons (fC (.int 2)) fNil)) (tgN 6) fYes (fCall g__law_shape (fCons (fVar 0) (fCons (fBin gAdd (fC (.int 1)) (fCall g__law_throw (fCons (fVar 0) (fCons (fC (.int 6)) fNil)))) (fCons (fMut (fCons (fC (.int 8)) fNil)) fNil))))) (tgN 7)) (gSeq (gIf (fB (fBin gEqq (fCall g__law_throw (fCons (fVar 0) (fCons (fC (.int 5)) fNil))) (fC (.int 0)))) (gStoreL (fCall g__law_deep (fCons (fVar 0) (fCons (fC (.int 19)) fNil))) (fVar 7) (fCall g__law_throw (fCons (fVar 0) (fCons (fC (.int 2)) fNil)))) gNx) (gRet (fTup (fCons (fBin gIx (fVar 7) (fC (.int 0))) (fCons (fBin gIx (fVar 7) (fC (.int 1))) (fCons (fVar 5) (fCons (fCall gTuple (fCons (fVar 2) fNil)) fNil)))))))))))
/-! ### _law_stands -/
def G__law_stands (g__law_throw : GL) (g__law_stand : GL) : FS := (gRet (fCall gTuple (fCons (fComp [2] (fItR1 (fCons (fCall g__law_throw (fCons (fVar 0) (fCons (fBin gAdd (fVar 1) (fC (.int 1))) fNil))) fNil)) (tgN 2) fYes (fCall g__law_stand (fCons (fVar 0) fNil))) fNil)))
/-! ### _law_paper -/
def G__law_paper (g__law_throw : GL) (g__law_stands : GL) (g__law_layout : GL) (g__law_pick : GL) (g__law_tape : GL) : FS := (gSeq (gIf (fB (fBin gEqq (fCall g__law_throw (fCons (fVar 0) (fCons (fC (.int 3)) fNil))) (fC (.int 0)))) (gRet (fTup (fCons (fC (.str "list")) (fCons (fCall g__law_stands (fCons (fVar 0) (fCons (fC (.int 4)) fNil))) fNil)))) gNx) (gSeq (gSet (fCall g__law_tape (fCons (fVar 0) (fCons (fCall g__law_layout (fCons (fVar 0) (fCons (fC (.int 4)) (fCons (fC (.int 2)) fNil)))) (fCons (fC (.int 4)) (fCons (fCall g__law_pick (fCons (fVar 0) (fCons (fLst (fCons (fC (.int 1)) (fCons (fC (.int 3)) (fCons (fBin gPow (fC (.int 10)) (fC (.int 58))) fNil)))) fNil))) fNil))))) (tgT 2 (tgCons (tgN 1) (tgCons (tgN 2) tgNil)))) (gRet (fTup (fCons (fC (.str "row")) (fCons (fVar 1) (fCons (fVar 2) (fCons (fCall gTuple (fCons (fComp [3] (fItR1 (fCons (fCall gLen (fCons (fVar 1) fNil)) fNil)) (tgN 3) fYes (fCall g__law_stands (fCons (fVar 0) (fCons (fC (.int 2)) fNil)))) fNil)) fNil))))))))
/-! ### _law_text -/
def G__law_text (g__law_text : GL) : FS := (gSeq (gIf (fNot (fTru (fCall gIsi (fCons (fVar 0) (fCons (fC (.ty "tuple")) fNil))))) (gRet (fIf (fB (fBin gIsN (fVar 0) (fC .non))) (fC (.str "-")) (fCall gStr (fCons (fVar 0) fNil)))) gNx) (gRet (fBin gAdd (fBin gAdd (fC (.str "(")) (fMeth "str" gJoin (fC (.str " ")) (fCons (fComp [1] (fItT (fVar 0)) (tgN 1) fYes (fCall g__law_text (fCons (fVar 1) fNil))) fNil))) (fC (.str ")")))))
/-! ### _law_lines -/
def G__law_lines (g__law_text : GL) : FS := (gSeq (gIf (fB (fBin gEqq (fBin gIx (fVar 0) (fC (.int 0))) (fC (.str "list")))) (gRet (fBin gAdd (fLst (fCons (fC (.str "list")) fNil)) (fComp [1] (fItT (fBin gIx (fVar 0) (fC (.int 1)))) (tgN 1) fYes (fCall g__law_text (fCons (fVar 1) fNil))))) gNx) (gSeq (gSet (fMut (fCons (fC (.str "row")) fNil)) (tgN 2)) (gSeq (gFor (fItT (fBin gIx (fVar 0) (fC (.int 1)))) (tgT 4 (tgCons (tgN 3) (tgCons (tgN 4) (tgCons (tgN 5) (tgCons (tgN 6) tgNil))))) (gExpr (fMeth "list" gAppend (fVar 2) (fCons (fBin gAdd (fBin gAdd (fBin gAdd (fBin gAdd (fBin gAdd (fBin gAdd (fCall gStr (fCons (fVar 3) fNil)) (fC (.str " "))) (fVar 4)) (fC (.str " "))) (fVar 5)) (fC (.str " "))) (fCall gStr (fCons (fVar 6) fNil))) fNil)))) (gSeq (gExpr (fMeth "list" gAppend (fVar 2) (fCons (fBin gAdd (fC (.str "until ")) (fCall gStr (fCons (fBin gIx (fVar 0) (fC (.int 2))) fNil))) fNil))) (gSeq (gFor (fItT (fBin gIx (fVar 0) (fC (.int 3)))) (tgN 7) (gSeq (gExpr (fMeth "list" gAppend (fVar 2) (fCons (fC (.str "round")) fNil))) (gExpr (fMeth "list" gExtend (fVar 2) (fCons (fComp [1] (fItT (fVar 7)) (tgN 1) fYes (fCall g__law_text (fCons (fVar 1) fNil))) fNil))))) (gRet (fVar 2)))))))
/-! ### _law_integer -/
def G__law_integer : FS := (gRet (fAndV (fCall gIsi (fCons (fVar 0) (fCons (fC (.ty "int")) fNil))) (fAndV (fNotV (fCall gIsi (fCons (fVar 0) (fCons (fC (.ty "bool")) fNil)))) (fBin gLt (fCall gAbs (fCons (fVar 0) fNil)) (fBin gPow (fC (.int 10)) (fC (.int 60)))))))
/-! ### _law_letters_alone -/
def G__law_letters_alone : FS := (gSeq (gIf (fOr (fNot (fTru (fCall gIsi (fCons (fVar 0) (fCons (fC (.ty "str")) fNil))))) (fNot (fB (fChain gLe gLe (fC (.int 1)) (fCall gLen (fCons (fVar 0) fNil)) (fVar 1))))) (gRet (fC (.bl false))) gNx) (gRet (fBin gEqq (fComp [2] (fItS (fVar 0)) (tgN 2) (fB (fBin (gIn true) (fVar 2) (fC (.str "abcdefghijklmnopqrstuvwxyz")))) (fVar 2)) (fLst fNil))))
/-! ### _law_has_text -/
def G__law_has_text (g__law_has_text : GL) (g__law_integer : GL) (g__law_letters_alone : GL) : FS := (gSeq (gIf (fTru (fCall gIsi (fCons (fVar 0) (fCons (fC (.ty "tuple")) fNil)))) (gRet (fAndV (fBin gGt (fVar 1) (fC (.int 0))) (fBin gEqq (fComp [2] (fItT (fVar 0)) (tgN 2) (fNot (fTru (fCall g__law_has_text (fCons (fVar 2) (fCons (fBin gSub (fVar 1) (fC (.int 1))) fNil))))) (fVar 2)) (fLst fNil)))) gNx) (gRet (fOrV (fBin gIsN (fVar 0) (fC .non)) (fOrV (fCall g__law_integer (fCons (fVar 0) fNil)) (fCall g__law_letters_alone (fCons (fVar 0) (fCons (fBin gPow (fC (.int 10)) (fC (.int 6))) fNil)))))))
/-! ### _law_is_stand -/
def G__law_is_stand (g__law_has_text : GL) (g__law_integer : GL) : FS := (gSeq (gIf (fOr (fNot (fTru (fCall gIsi (fCons (fVar 0) (fCons (fC (.ty "tuple")) fNil))))) (fOr (fB (fBin gNee (fCall gLen (fCons (fVar 0) fNil)) (fC (.int 4)))) (fNot (fTru (fCall g__law_has_text (fCons (fVar 0) (fCons (fC (.int 20)) fNil))))))) (gRet (fC (.bl false))) gNx) (gSeq (gIf (fOr (fNot (fTru (fCall gIsi (fCons (fBin gIx (fVar 0) (fC (.int 2))) (fCons (fC (.ty "tuple")) fNil))))) (fB (fBin gNee (fComp [1] (fItT (fBin gIx (fVar 0) (fC (.int 2)))) (tgN 1) (fNot (fTru (fCall g__law_integer (fCons (fVar 1) fNil)))) (fVar 1)) (fLst fNil)))) (gRet (fC (.bl false))) gNx) (gSeq (gSet (fBin gIx (fVar 0) (fC (.int 3))) (tgN 2)) (gSeq (gIf (fOr (fNot (fTru (fCall gIsi (fCons (fVar 2) (fCons (fC (.ty "tuple")) fNil))))) (fNot (fB (fChain gLe gLe (fC (.int 1)) (fCall gLen (fCons (fVar 2) fNil)) (fC (.int 13)))))) (gRet (fC (.bl false))) gNx) (gSeq (gFor (fItT (fVar 2)) (tgN 3) (gIf (fOr (fNot (fTru (fCall gIsi (fCons (fVar 3) (fCons (fC (.ty "tuple")) fNil))))) (fOr (fB (fBin gNee (fCall gLen (fCons (fVar 3) fNil)) (fCall gLen (fCons (fVar 2) fNil)))) (fB (fBin gNee (fComp [1] (fItT (fVar 3)) (tgN 1) (fNot (fTru (fCall g__law_integer (fCons (fVar 1) fNil)))) (fVar 1)) (fLst fNil))))) (gRet (fC (.bl false))) gNx)) (gRet (fC (.bl true))))))))
/-! ### _law_are_stands -/
def G__law_are_stands (g__law_is_stand : GL) : FS := (gRet (fAndV (fCall gIsi (fCons (fVar 0) (fCons (fC (.ty "tuple")) fNil))) (fBin gEqq (fComp [1] (fItT (fVar 0)) (tgN 1) (fNot (fTru (fCall g__law_is_stand (fCons (fVar 1) fNil)))) (fVar 1)) (fLst fNil))))
/-! ### _law_is_event -/
def G__law_is_event (g__law_integer : GL) (g__law_letters_alone : GL) (g__law_words : GL) : FS := (gSeq (gIf (fOr (fNot (fTru (fCall gIsi (fCons (fVar 0) (fCons (fC (.ty "tuple")) fNil))))) (fOr (fB (fBin gNee (fCall gLen (fCons (fVar 0) fNil)) (fC (.int 4)))) (fOr (fNot (fTru (fCall g__law_integer (fCons (fBin gIx (fVar 0) (fC (.int 0))) fNil)))) (fB (fBin gLt (fBin gIx (fVar 0) (fC (.int 0))) (fC (.int 0))))))) (gRet (fC (.bl false))) gNx) (gSeq (gIf (fOr (fNot (fTru (fCall g__law_letters_alone (fCons (fBin gIx (fVar 0) (fC (.int 1))) (fCons (fC (.int 8)) fNil))))) (fB (fBin (gIn false) (fBin gIx (fVar 0) (fC (.int 1))) (fCall g__law_words fNil)))) (gRet (fC (.bl false))) gNx) (gRet (fAndV (fCall g__law_letters_alone (fCons (fBin gIx (fVar 0) (fC (.int 2))) (fCons (fC (.int 1)) fNil))) (fCall g__law_integer (fCons (fBin gIx (fVar 0) (fC (.int 3))) fNil))))))
/-! ### _law_is_paper -/
def G__law_is_paper (g__law_are_stands : GL) (g__law_is_event : GL) (g__law_integer : GL) : FS := (gSeq (gIf (fOr (fNot (fTru (fCall gIsi (fCons (fVar 0) (fCons (fC (.ty "tuple")) fNil))))) (fOr (fB (fBin (gIn true) (fCall gLen (fCons (fVar 0) fNil)) (fTup (fCons (fC (.int 2)) (fCons (fC (.int 4)) fNil))))) (fB (fBin gNee (fBin gIx (fVar 0) (fC (.int 0))) (fBin gIx (fLst (fCons (fC (.str "")) (fCons (fC (.str "list")) (fCons (fC (.str "")) (fCons (fC (.str "row")) fNil))))) (fBin gSub (fCall gLen (fCons (fVar 0) fNil)) (fC (.int 1)))))))) (gRet (fC (.bl false))) gNx) (gSeq (gIf (fB (fBin gEqq (fCall gLen (fCons (fVar 0) fNil)) (fC (.int 2)))) (gRet (fCall g__law_are_stands (fCons (fBin gIx (fVar 0) (fC (.int 1))) fNil))) gNx) (gSeq (gSet (fSl (fVar 0) (fP (fC (.int 1))) fNoP) (tgT 3 (tgCons (tgN 1) (tgCons (tgN 2) (tgCons (tgN 3) tgNil))))) (gSeq (gIf (fOr (fNot (fTru (fCall gIsi (fCons (fVar 1) (fCons (fC (.ty "tuple")) fNil))))) (fB (fBin gNee (fComp [4] (fItT (fVar 1)) (tgN 4) (fNot (fTru (fCall g__law_is_event (fCons (fVar 4) fNil)))) (fVar 4)) (fLst fNil)))) (gRet (fC (.bl false))) gNx) (gSeq (gSet (fBin gAdd (fLst (fCons (fC (.int 0)) fNil)) (fComp [4] (fItT (fVar 1)) (tgN 4) fYes (fBin gIx (fVar 4) (fC (.int 0))))) (tgN 5)) (gSeq (gIf (fOr (fB (fBin gNee (fVar 5) (fCall gSortedI (fCons (fVar 5) fNil)))) (fOr (fNot (fTru (fCall g__law_integer (fCons (fVar 2) fNil)))) (fB (fBin gLt (fVar 2) (fBin gIx (fVar 5) (fUn gNeg (fC (.int 1)))))))) (gRet (fC (.bl false))) gNx) (gSeq (gIf (fOr (fNot (fTru (fCall gIsi (fCons (fVar 3) (fCons (fC (.ty "tuple")) fNil))))) (fB (fBin gNee (fCall gLen (fCons (fVar 3) fNil)) (fCall gLen (fCons (fVar 1) fNil))))) (gRet (fC (.bl false))) gNx) (gRet (fBin gEqq (fComp [4] (fItT (fVar 3)) (tgN 4) (fNot (fTru (fCall g__law_are_stands (fCons (fVar 4) fNil)))) (fVar 4)) (fLst fNil))))))))))
/-! ### _law_spoilt -/
def G__law_spoilt (g__law_pick : GL) (g__law_deep : GL) (g__law_throw : GL) (g__law_spoilt : GL) : FS := (gSeq (gSet (fMut (fCons (fC .non) (fCons (fC (.bl true)) (fCons (fUn gNeg (fC (.int 1))) (fCons (fC (.int 0)) (fCons (fC (.str "")) (fCons (fC (.str "A")) (fCons (fC (.str "a1")) (fCons (fC (.str "until")) (fCons (fC (.str "it")) (fCons (fBin gPow (fC (.int 10)) (fC (.int 60))) (fCons (fUn gNeg (fBin gPow (fC (.int 10)) (fC (.int 60)))) (fCons (fTup fNil) (fCons (fLst fNil) (fCons fDNew (fCons (fTup (fCons (fC (.str "a")) fNil)) (fCons (fTup (fCons (fTup (fCons (fC (.int 0)) fNil)) fNil)) fNil))))))))))))))))) (tgN 2)) (gSeq (gExpr (fMeth "list" gAppend (fVar 2) (fCons (fC (.str "zzzzzzzzz")) fNil))) (gSeq (gExpr (fMeth "list" gAppend (fVar 2) (fCons (fCall g__law_deep (fCons (fVar 0) (fCons (fCall g__law_pick (fCons (fVar 0) (fCons (fLst (fCons (fC (.int 15)) (fCons (fC (.int 16)) (fCons (fC (.int 17)) fNil)))) fNil))) fNil))) fNil))) (gSeq (gIf (fAnd (fTru (fCall gIsi (fCons (fVar 1) (fCons (fC (.ty "tuple")) fNil)))) (fAnd (fB (fBin gNee (fVar 1) (fTup fNil))) (fB (fBin gGt (fCall g__law_throw (fCons (fVar 0) (fCons (fC (.int 6)) fNil))) (fC (.int 0)))))) (gSeq (gSet (fCall g__law_throw (fCons (fVar 0) (fCons (fCall gLen (fCons (fVar 1) fNil)) fNil))) (tgN 3)) (gRet (fBin gAdd (fBin gAdd (fSl (fVar 1) fNoP (fP (fVar 3))) (fTup (fCons (fCall g__law_spoilt (fCons (fVar 0) (fCons (fBin gIx (fVar 1) (fVar 3)) fNil))) fNil))) (fSl (fVar 1) (fP (fBin gAdd (fVar 3) (fC (.int 1)))) fNoP)))) gNx) (gSeq (gIf (fAnd (fTru (fCall gIsi (fCons (fVar 1) (fCons (fC (.ty "tuple")) fNil)))) (fB (fBin gEqq (fCall g__law_throw (fCons (fVar 0) (fCons (fC (.int 2)) fNil))) (fC (.int 0))))) (gSeq (gSet (fLst (fCons (fCall gList (fCons (fVar 1) fNil)) (fCons (fSl (fVar 1) (fP (fC (.int 1))) fNoP) (fCons (fSl (fVar 1) fNoP (fP (fUn gNeg (fC (.int 1))))) (fCons (fBin gAdd (fVar 1) (fSl (fVar 1) fNoP (fP (fC (.int 1))))) (fCons (fRev (fVar 1)) (fCons (fBin gAdd (fVar 1) (fTup (fCons (fC (.int 0)) fNil))) (fCons (fTup (fCons (fVar 1) fNil)) fNil)))))))) (tgN 4)) (gRet (fCall g__law_pick (fCons (fVar 0) (fCons (fVar 4) fNil))))) gNx) (gSeq (gIf (fAnd (fTru (fCall gIsi (fCons (fVar 1) (fCons (fC (.ty "int")) fNil)))) (fB (fBin gEqq (fCall g__law_throw (fCons (fVar 0) (fCons (fC (.int 2)) fNil))) (fC (.int 0))))) (gRet (fCall g__law_pick (fCons (fVar 0) (fCons (fLst (fCons (fBin gAdd (fVar 1) (fC (.int 1))) (fCons (fBin gSub (fVar 1) (fC (.int 1))) (fCons (fUn gNeg (fVar 1)) (fCons (fCall gStr (fCons (fVar 1) fNil)) (fCons (fBin gEqq (fVar 1) (fC (.int 1))) (fCons (fLst (fCons (fVar 1) fNil)) fNil))))))) fNil)))) gNx) (gRet (fCall g__law_pick (fCons (fVar 0) (fCons (fVar 2) fNil))))))))))
/-! ### _law_case -/
def G__law_case (g__law_paper : GL) (g__law_is_paper : GL) (g__law_right : GL) (g__law_throw : GL) (g__law_spoilt : GL) : FS := (gSeq (gSet (fCall g__law_paper (fCons (fVar 0) fNil)) (tgN 1)) (gSeq (gIf (fOr (fNot (fTru (fCall g__law_is_paper (fCons (fVar 1) fNil)))) (fNot (fTru (fCall g__law_right (fCons (fVar 1) fNil))))) (gRet (fC (.bl false))) gNx) (gRet (fOrV (fBin gEqq (fCall g__law_throw (fCons (fVar 0) (fCons (fC (.int 2)) fNil))) (fC (.int 0))) (fCall g__law_right (fCons (fCall g__law_spoilt (fCons (fVar 0) (fCons (fVar 1) fNil))) fNil))))))
/-! ### law -/
def G_law (g__law_right : GL) (g__law_start : GL) (g__law_case : GL) : FS := (gSeq (gSet (fMut (fCons (fC .non) (fCons (fTup fNil) (fCons (fLst fNil) (fCons (fC (.str "list")) (fCons (fTup (fCons (fC (.str "list")) fNil)) (fCons (fTup (fCons (fC (.str "list")) (fCons (fTup fNil) fNil))) (fCons (fTup (fCons (fC (.str "row")) (fCons (fTup fNil) (fCons (fC (.int 0)) (fCons (fTup fNil) fNil))))) (fCons (fTup (fCons (fC (.str "row")) (fCons (fTup fNil) (fCons (fC (.int 0)) fNil)))) (fCons (fTup (fCons (fC (.str "row")) (fCons (fTup fNil) (fCons (fC (.int 0)) (fCons (fTup (fCons (fTup fNil) fNil)) fNil))))) fNil)))))))))) (tgN 1)) (gSeq (gSet (fCall gTuple (fCons (fBin gRep (fLst (fCons (fBin gRep (fTup (fCons (fC (.int 0)) fNil)) (fC (.int 14))) fNil)) (fC (.int 14))) fNil)) (tgN 2)) (gSeq (gExpr (fMeth "list" gAppend (fVar 1) (fCons (fTup (fCons (fC (.str "list")) (fCons (fTup (fCons (fTup (fCons (fC (.str "on")) (fCons (fC (.str "on")) (fCons (fTup fNil) (fCons (fVar 2) fNil))))) (fCons (fTup (fCons (fCall gTuple (fCons (fC (.str "abcdefghij")) fNil)) (fCons (fC (.str "on")) (fCons (fTup fNil) (fCons (fTup (fCons (fTup (fCons (fC (.int 0)) fNil)) fNil)) fNil))))) fNil))) fNil))) fNil))) (gSeq (gExpr (fMeth "list" gAppend (fVar 1) (fCons (fTup (fCons (fC (.str "list")) (fCons (fTup (fCons (fTup (fCons (fCall gTuple (fCons (fC (.str "abcdefghij")) fNil)) (fCons (fC (.str "on")) (fCons (fTup fNil) (fCons (fTup (fCons (fTup (fCons (fC (.int 0)) fNil)) fNil)) fNil))))) fNil)) fNil))) fNil))) (gSeq (gExpr (fMeth "list" gAppend (fVar 1) (fCons (fTup (fCons (fC (.str "list")) (fCons (fTup (fCons (fTup (fCons (fC (.str "on")) (fCons (fC (.str "on")) (fCons (fTup fNil) (fCons (fCall gTuple (fCons (fComp [3] (fItT (fSl (fVar 2) fNoP (fP (fC (.int 13))))) (tgN 3) fYes (fSl (fVar 3) fNoP (fP (fC (.int 13))))) fNil)) fNil))))) fNil)) fNil))) fNil))) (gSeq (gFor (fItL (fBin gAddM (fVar 1) (fLst (fCons (fTup (fCons (fC (.str "list")) (fCons (fLst fNil) (fCons (fTup fNil) fNil)))) (fCons (fTup (fCons (fC (.str "row")) (fCons (fTup fNil) (fCons (fC (.int 0)) (fCons (fTup fNil) (fCons (fTup fNil) fNil)))))) (fCons (fTup (fCons (fC (.str "list")) (fCons (fC .non) fNil))) (fCons fDNew (fCons (fTup (fCons (fC (.str "row")) (fCons (fTup fNil) (fCons (fUn gNeg (fC (.int 1))) (fCons (fTup fNil) fNil))))) fNil)))))))) (tgN 4) (gIf (fNot (fTru (fCall g__law_right (fCons (fVar 4) fNil)))) (gRet (fC (.bl false))) gNx)) (gSeq (gFor (fItR1 (fCons (fCall gMin2 (fCons (fCall gMax2 (fCons (fC (.int 1)) (fCons (fCall gLen (fCons (fVar 0) fNil)) fNil))) (fCons (fC (.int 16)) fNil))) fNil)) (tgN 5) (gIf (fNot (fTru (fCall g__law_case (fCons (fCall g__law_start (fCons (fVar 0) (fCons (fVar 5) fNil))) fNil)))) (gRet (fC (.bl false))) gNx)) (gRet (fC (.bl true))))))))))
/-- what the defs compute -/
structure Gs where
  is_integer : GL
  is_time : GL
  is_letter : GL
  is_name : GL
  is_event : GL
  are_events : GL
  last_time : GL
  are_rows : GL
  words_in : GL
  is_word : GL
  can_be_written : GL
  has_stand_form : GL
  are_stand_forms : GL
  has_row_form : GL
  has_paper_form : GL
  value_text : GL
  event_text : GL
  paper_lines : GL
  integer_of : GL
  tuple_of : GL
  stand_of : GL
  event_of : GL
  last_of : GL
  rounds_of : GL
  write_paper : GL
  read_paper : GL
  _law_start : GL
  _law_throw : GL
  _law_pick : GL
  _law_letters : GL
  _law_words : GL
  _law_name : GL
  _law_layout : GL
  _law_value : GL
  _law_events : GL
  _law_tape : GL
  _law_atom : GL
  _law_shape : GL
  _law_deep : GL
  _law_number : GL
  _law_stand : GL
  _law_stands : GL
  _law_paper : GL
  _law_text : GL
  _law_lines : GL
  _law_integer : GL
  _law_letters_alone : GL
  _law_has_text : GL
  _law_is_stand : GL
  _law_are_stands : GL
  _law_is_event : GL
  _law_is_paper : GL
  _law_spoilt : GL
  _law_right : GL
  _law_case : GL
  law : GL
def gs0 : Gs := ⟨noG, noG, noG, noG, noG, noG, noG, noG, noG, noG, noG, noG, noG, noG, noG, noG, noG, noG, noG, noG, noG, noG, noG, noG, noG, noG, noG, noG, noG, noG, noG, noG, noG, noG, noG, noG, noG, noG, noG, noG, noG, noG, noG, noG, noG, noG, noG, noG, noG, noG, noG, noG, noG, noG, noG, noG⟩
end K49
namespace K49
open PySem PySem.Spec PyProof.Rows L2 FL RZ
set_option autoImplicit false
def topS (i : Nat) : Stmt := PySem.Challenge.pw_pushalike_k49_papers_written.main.body.getD i (.Pass ⟨0, 0, 0, 0⟩)
abbrev s_is_integer : Stmt := topS 5
abbrev s_is_time : Stmt := topS 6
abbrev s_is_letter : Stmt := topS 7
abbrev s_is_name : Stmt := topS 8
abbrev s_is_event : Stmt := topS 9
abbrev s_are_events : Stmt := topS 15
abbrev s_last_time : Stmt := topS 16
abbrev s_are_rows : Stmt := topS 19
abbrev s_words_in : Stmt := topS 23
abbrev s_is_word : Stmt := topS 32
abbrev s_can_be_written : Stmt := topS 33
abbrev s_has_stand_form : Stmt := topS 34
abbrev s_are_stand_forms : Stmt := topS 35
abbrev s_has_row_form : Stmt := topS 36
abbrev s_has_paper_form : Stmt := topS 37
abbrev s_value_text : Stmt := topS 38
abbrev s_event_text : Stmt := topS 39
abbrev s_paper_lines : Stmt := topS 40
abbrev s_integer_of : Stmt := topS 41
abbrev s_tuple_of : Stmt := topS 42
abbrev s_stand_of : Stmt := topS 43
abbrev s_event_of : Stmt := topS 44
abbrev s_last_of : Stmt := topS 45
abbrev s_rounds_of : Stmt := topS 46
abbrev s_write_paper : Stmt := topS 47
abbrev s_read_paper : Stmt := topS 48
abbrev s__law_start : Stmt := topS 50
abbrev s__law_throw : Stmt := topS 51
abbrev s__law_pick : Stmt := topS 52
abbrev s__law_letters : Stmt := topS 53
abbrev s__law_words : Stmt := topS 54
abbrev s__law_name : Stmt := topS 55
abbrev s__law_layout : Stmt := topS 56
abbrev s__law_value : Stmt := topS 57
abbrev s__law_events : Stmt := topS 58
abbrev s__law_tape : Stmt := topS 59
abbrev s__law_atom : Stmt := topS 60
abbrev s__law_shape : Stmt := topS 61
abbrev s__law_deep : Stmt := topS 62
abbrev s__law_number : Stmt := topS 63
abbrev s__law_stand : Stmt := topS 64
abbrev s__law_stands : Stmt := topS 65
abbrev s__law_paper : Stmt := topS 66
abbrev s__law_text : Stmt := topS 67
abbrev s__law_lines : Stmt := topS 68
abbrev s__law_integer : Stmt := topS 69
abbrev s__law_letters_alone : Stmt := topS 70
abbrev s__law_has_text : Stmt := topS 71
abbrev s__law_is_stand : Stmt := topS 72
abbrev s__law_are_stands : Stmt := topS 73
abbrev s__law_is_event : Stmt := topS 74
abbrev s__law_is_paper : Stmt := topS 75
abbrev s__law_spoilt : Stmt := topS 76
abbrev s__law_right : Stmt := topS 77
abbrev s__law_case : Stmt := topS 78
abbrev s_law : Stmt := topS 79
structure Txt (K : PySem.W.Frag) (mg : Str → Option Value) where
  a_is_integer : Addr
  f_is_integer : FuncData
  F_is_integer : Fun K "is_integer" "is_integer" s_is_integer a_is_integer f_is_integer
  m_is_integer : mg "is_integer" = some (.ref a_is_integer)
  k_is_integer : PySem.W.keepIn K (.ref a_is_integer) = true
  b_is_integer : Binds K f_is_integer ["value"] []
  a_is_time : Addr
  f_is_time : FuncData
  F_is_time : Fun K "is_time" "is_time" s_is_time a_is_time f_is_time
  m_is_time : mg "is_time" = some (.ref a_is_time)
  k_is_time : PySem.W.keepIn K (.ref a_is_time) = true
  b_is_time : Binds K f_is_time ["value"] []
  a_is_letter : Addr
  f_is_letter : FuncData
  F_is_letter : Fun K "is_letter" "is_letter" s_is_letter a_is_letter f_is_letter
  m_is_letter : mg "is_letter" = some (.ref a_is_letter)
  k_is_letter : PySem.W.keepIn K (.ref a_is_letter) = true
  b_is_letter : Binds K f_is_letter ["value"] []
  a_is_name : Addr
  f_is_name : FuncData
  F_is_name : Fun K "is_name" "is_name" s_is_name a_is_name f_is_name
  m_is_name : mg "is_name" = some (.ref a_is_name)
  k_is_name : PySem.W.keepIn K (.ref a_is_name) = true
  b_is_name : Binds K f_is_name ["value"] []
  a_is_event : Addr
  f_is_event : FuncData
  F_is_event : Fun K "is_event" "is_event" s_is_event a_is_event f_is_event
  m_is_event : mg "is_event" = some (.ref a_is_event)
  k_is_event : PySem.W.keepIn K (.ref a_is_event) = true
  b_is_event : Binds K f_is_event ["value"] []
  a_are_events : Addr
  f_are_events : FuncData
  F_are_events : Fun K "are_events" "are_events" s_are_events a_are_events f_are_events
  m_are_events : mg "are_events" = some (.ref a_are_events)
  k_are_events : PySem.W.keepIn K (.ref a_are_events) = true
  b_are_events : Binds K f_are_events ["value"] []
  a_last_time : Addr
  f_last_time : FuncData
  F_last_time : Fun K "last_time" "last_time" s_last_time a_last_time f_last_time
  m_last_time : mg "last_time" = some (.ref a_last_time)
  k_last_time : PySem.W.keepIn K (.ref a_last_time) = true
  b_last_time : Binds K f_last_time ["events"] []
  a_are_rows : Addr
  f_are_rows : FuncData
  F_are_rows : Fun K "are_rows" "are_rows" s_are_rows a_are_rows f_are_rows
  m_are_rows : mg "are_rows" = some (.ref a_are_rows)
  k_are_rows : PySem.W.keepIn K (.ref a_are_rows) = true
  b_are_rows : Binds K f_are_rows ["value"] []
  a_words_in : Addr
  f_words_in : FuncData
  F_words_in : Fun K "words_in" "words_in" s_words_in a_words_in f_words_in
  m_words_in : mg "words_in" = some (.ref a_words_in)
  k_words_in : PySem.W.keepIn K (.ref a_words_in) = true
  b_words_in : Binds K f_words_in ["text"] []
  a_is_word : Addr
  f_is_word : FuncData
  F_is_word : Fun K "is_word" "is_word" s_is_word a_is_word f_is_word
  m_is_word : mg "is_word" = some (.ref a_is_word)
  k_is_word : PySem.W.keepIn K (.ref a_is_word) = true
  b_is_word : Binds K f_is_word ["value"] []
  a_can_be_written : Addr
  f_can_be_written : FuncData
  F_can_be_written : Fun K "can_be_written" "can_be_written" s_can_be_written a_can_be_written f_can_be_written
  m_can_be_written : mg "can_be_written" = some (.ref a_can_be_written)
  k_can_be_written : PySem.W.keepIn K (.ref a_can_be_written) = true
  b_can_be_written : Binds K f_can_be_written ["value", "depth"] []
  a_has_stand_form : Addr
  f_has_stand_form : FuncData
  F_has_stand_form : Fun K "has_stand_form" "has_stand_form" s_has_stand_form a_has_stand_form f_has_stand_form
  m_has_stand_form : mg "has_stand_form" = some (.ref a_has_stand_form)
  k_has_stand_form : PySem.W.keepIn K (.ref a_has_stand_form) = true
  b_has_stand_form : Binds K f_has_stand_form ["value"] []
  a_are_stand_forms : Addr
  f_are_stand_forms : FuncData
  F_are_stand_forms : Fun K "are_stand_forms" "are_stand_forms" s_are_stand_forms a_are_stand_forms f_are_stand_forms
  m_are_stand_forms : mg "are_stand_forms" = some (.ref a_are_stand_forms)
  k_are_stand_forms : PySem.W.keepIn K (.ref a_are_stand_forms) = true
  b_are_stand_forms : Binds K f_are_stand_forms ["value"] []
  a_has_row_form : Addr
  f_has_row_form : FuncData
  F_has_row_form : Fun K "has_row_form" "has_row_form" s_has_row_form a_has_row_form f_has_row_form
  m_has_row_form : mg "has_row_form" = some (.ref a_has_row_form)
  k_has_row_form : PySem.W.keepIn K (.ref a_has_row_form) = true
  b_has_row_form : Binds K f_has_row_form ["events", "last", "rounds"] []
  a_has_paper_form : Addr
  f_has_paper_form : FuncData
  F_has_paper_form : Fun K "has_paper_form" "has_paper_form" s_has_paper_form a_has_paper_form f_has_paper_form
  m_has_paper_form : mg "has_paper_form" = some (.ref a_has_paper_form)
  k_has_paper_form : PySem.W.keepIn K (.ref a_has_paper_form) = true
  b_has_paper_form : Binds K f_has_paper_form ["value"] []
  a_value_text : Addr
  f_value_text : FuncData
  F_value_text : Fun K "value_text" "value_text" s_value_text a_value_text f_value_text
  m_value_text : mg "value_text" = some (.ref a_value_text)
  k_value_text : PySem.W.keepIn K (.ref a_value_text) = true
  b_value_text : Binds K f_value_text ["value"] []
  a_event_text : Addr
  f_event_text : FuncData
  F_event_text : Fun K "event_text" "event_text" s_event_text a_event_text f_event_text
  m_event_text : mg "event_text" = some (.ref a_event_text)
  k_event_text : PySem.W.keepIn K (.ref a_event_text) = true
  b_event_text : Binds K f_event_text ["event"] []
  a_paper_lines : Addr
  f_paper_lines : FuncData
  F_paper_lines : Fun K "paper_lines" "paper_lines" s_paper_lines a_paper_lines f_paper_lines
  m_paper_lines : mg "paper_lines" = some (.ref a_paper_lines)
  k_paper_lines : PySem.W.keepIn K (.ref a_paper_lines) = true
  b_paper_lines : Binds K f_paper_lines ["paper"] []
  a_integer_of : Addr
  f_integer_of : FuncData
  F_integer_of : Fun K "integer_of" "integer_of" s_integer_of a_integer_of f_integer_of
  m_integer_of : mg "integer_of" = some (.ref a_integer_of)
  k_integer_of : PySem.W.keepIn K (.ref a_integer_of) = true
  b_integer_of : Binds K f_integer_of ["word"] []
  a_tuple_of : Addr
  f_tuple_of : FuncData
  F_tuple_of : Fun K "tuple_of" "tuple_of" s_tuple_of a_tuple_of f_tuple_of
  m_tuple_of : mg "tuple_of" = some (.ref a_tuple_of)
  k_tuple_of : PySem.W.keepIn K (.ref a_tuple_of) = true
  b_tuple_of : Binds K f_tuple_of ["line"] []
  a_stand_of : Addr
  f_stand_of : FuncData
  F_stand_of : Fun K "stand_of" "stand_of" s_stand_of a_stand_of f_stand_of
  m_stand_of : mg "stand_of" = some (.ref a_stand_of)
  k_stand_of : PySem.W.keepIn K (.ref a_stand_of) = true
  b_stand_of : Binds K f_stand_of ["line", "index"] []
  a_event_of : Addr
  f_event_of : FuncData
  F_event_of : Fun K "event_of" "event_of" s_event_of a_event_of f_event_of
  m_event_of : mg "event_of" = some (.ref a_event_of)
  k_event_of : PySem.W.keepIn K (.ref a_event_of) = true
  b_event_of : Binds K f_event_of ["line", "now"] []
  a_last_of : Addr
  f_last_of : FuncData
  F_last_of : Fun K "last_of" "last_of" s_last_of a_last_of f_last_of
  m_last_of : mg "last_of" = some (.ref a_last_of)
  k_last_of : PySem.W.keepIn K (.ref a_last_of) = true
  b_last_of : Binds K f_last_of ["line", "now", "index"] []
  a_rounds_of : Addr
  f_rounds_of : FuncData
  F_rounds_of : Fun K "rounds_of" "rounds_of" s_rounds_of a_rounds_of f_rounds_of
  m_rounds_of : mg "rounds_of" = some (.ref a_rounds_of)
  k_rounds_of : PySem.W.keepIn K (.ref a_rounds_of) = true
  b_rounds_of : Binds K f_rounds_of ["lines", "index", "many"] []
  a_write_paper : Addr
  f_write_paper : FuncData
  F_write_paper : Fun K "write_paper" "write_paper" s_write_paper a_write_paper f_write_paper
  m_write_paper : mg "write_paper" = some (.ref a_write_paper)
  k_write_paper : PySem.W.keepIn K (.ref a_write_paper) = true
  b_write_paper : Binds K f_write_paper ["paper"] []
  a_read_paper : Addr
  f_read_paper : FuncData
  F_read_paper : Fun K "read_paper" "read_paper" s_read_paper a_read_paper f_read_paper
  m_read_paper : mg "read_paper" = some (.ref a_read_paper)
  k_read_paper : PySem.W.keepIn K (.ref a_read_paper) = true
  b_read_paper : Binds K f_read_paper ["text"] []
  a__law_start : Addr
  f__law_start : FuncData
  F__law_start : Fun K "_law_start" "_law_start" s__law_start a__law_start f__law_start
  m__law_start : mg "_law_start" = some (.ref a__law_start)
  k__law_start : PySem.W.keepIn K (.ref a__law_start) = true
  b__law_start : Binds K f__law_start ["script", "at"] []
  a__law_throw : Addr
  f__law_throw : FuncData
  F__law_throw : Fun K "_law_throw" "_law_throw" s__law_throw a__law_throw f__law_throw
  m__law_throw : mg "_law_throw" = some (.ref a__law_throw)
  k__law_throw : PySem.W.keepIn K (.ref a__law_throw) = true
  b__law_throw : Binds K f__law_throw ["bag", "total"] []
  a__law_pick : Addr
  f__law_pick : FuncData
  F__law_pick : Fun K "_law_pick" "_law_pick" s__law_pick a__law_pick f__law_pick
  m__law_pick : mg "_law_pick" = some (.ref a__law_pick)
  k__law_pick : PySem.W.keepIn K (.ref a__law_pick) = true
  b__law_pick : Binds K f__law_pick ["bag", "items"] []
  a__law_letters : Addr
  f__law_letters : FuncData
  F__law_letters : Fun K "_law_letters" "_law_letters" s__law_letters a__law_letters f__law_letters
  m__law_letters : mg "_law_letters" = some (.ref a__law_letters)
  k__law_letters : PySem.W.keepIn K (.ref a__law_letters) = true
  b__law_letters : Binds K f__law_letters ["bag", "most"] []
  a__law_words : Addr
  f__law_words : FuncData
  F__law_words : Fun K "_law_words" "_law_words" s__law_words a__law_words f__law_words
  m__law_words : mg "_law_words" = some (.ref a__law_words)
  k__law_words : PySem.W.keepIn K (.ref a__law_words) = true
  b__law_words : Binds K f__law_words [] []
  a__law_name : Addr
  f__law_name : FuncData
  F__law_name : Fun K "_law_name" "_law_name" s__law_name a__law_name f__law_name
  m__law_name : mg "_law_name" = some (.ref a__law_name)
  k__law_name : PySem.W.keepIn K (.ref a__law_name) = true
  b__law_name : Binds K f__law_name ["bag", "known"] []
  a__law_layout : Addr
  f__law_layout : FuncData
  F__law_layout : Fun K "_law_layout" "_law_layout" s__law_layout a__law_layout f__law_layout
  m__law_layout : mg "_law_layout" = some (.ref a__law_layout)
  k__law_layout : PySem.W.keepIn K (.ref a__law_layout) = true
  b__law_layout : Binds K f__law_layout ["bag", "sources", "letters"] []
  a__law_value : Addr
  f__law_value : FuncData
  F__law_value : Fun K "_law_value" "_law_value" s__law_value a__law_value f__law_value
  m__law_value : mg "_law_value" = some (.ref a__law_value)
  k__law_value : PySem.W.keepIn K (.ref a__law_value) = true
  b__law_value : Binds K f__law_value ["bag"] []
  a__law_events : Addr
  f__law_events : FuncData
  F__law_events : Fun K "_law_events" "_law_events" s__law_events a__law_events f__law_events
  m__law_events : mg "_law_events" = some (.ref a__law_events)
  k__law_events : PySem.W.keepIn K (.ref a__law_events) = true
  b__law_events : Binds K f__law_events ["bag", "layout", "most", "gap"] []
  a__law_tape : Addr
  f__law_tape : FuncData
  F__law_tape : Fun K "_law_tape" "_law_tape" s__law_tape a__law_tape f__law_tape
  m__law_tape : mg "_law_tape" = some (.ref a__law_tape)
  k__law_tape : PySem.W.keepIn K (.ref a__law_tape) = true
  b__law_tape : Binds K f__law_tape ["bag", "layout", "most", "gap"] []
  a__law_atom : Addr
  f__law_atom : FuncData
  F__law_atom : Fun K "_law_atom" "_law_atom" s__law_atom a__law_atom f__law_atom
  m__law_atom : mg "_law_atom" = some (.ref a__law_atom)
  k__law_atom : PySem.W.keepIn K (.ref a__law_atom) = true
  b__law_atom : Binds K f__law_atom ["bag"] []
  a__law_shape : Addr
  f__law_shape : FuncData
  F__law_shape : Fun K "_law_shape" "_law_shape" s__law_shape a__law_shape f__law_shape
  m__law_shape : mg "_law_shape" = some (.ref a__law_shape)
  k__law_shape : PySem.W.keepIn K (.ref a__law_shape) = true
  b__law_shape : Binds K f__law_shape ["bag", "depth", "left"] []
  a__law_deep : Addr
  f__law_deep : FuncData
  F__law_deep : Fun K "_law_deep" "_law_deep" s__law_deep a__law_deep f__law_deep
  m__law_deep : mg "_law_deep" = some (.ref a__law_deep)
  k__law_deep : PySem.W.keepIn K (.ref a__law_deep) = true
  b__law_deep : Binds K f__law_deep ["bag", "depth"] []
  a__law_number : Addr
  f__law_number : FuncData
  F__law_number : Fun K "_law_number" "_law_number" s__law_number a__law_number f__law_number
  m__law_number : mg "_law_number" = some (.ref a__law_number)
  k__law_number : PySem.W.keepIn K (.ref a__law_number) = true
  b__law_number : Binds K f__law_number ["bag"] []
  a__law_stand : Addr
  f__law_stand : FuncData
  F__law_stand : Fun K "_law_stand" "_law_stand" s__law_stand a__law_stand f__law_stand
  m__law_stand : mg "_law_stand" = some (.ref a__law_stand)
  k__law_stand : PySem.W.keepIn K (.ref a__law_stand) = true
  b__law_stand : Binds K f__law_stand ["bag"] []
  a__law_stands : Addr
  f__law_stands : FuncData
  F__law_stands : Fun K "_law_stands" "_law_stands" s__law_stands a__law_stands f__law_stands
  m__law_stands : mg "_law_stands" = some (.ref a__law_stands)
  k__law_stands : PySem.W.keepIn K (.ref a__law_stands) = true
  b__law_stands : Binds K f__law_stands ["bag", "most"] []
  a__law_paper : Addr
  f__law_paper : FuncData
  F__law_paper : Fun K "_law_paper" "_law_paper" s__law_paper a__law_paper f__law_paper
  m__law_paper : mg "_law_paper" = some (.ref a__law_paper)
  k__law_paper : PySem.W.keepIn K (.ref a__law_paper) = true
  b__law_paper : Binds K f__law_paper ["bag"] []
  a__law_text : Addr
  f__law_text : FuncData
  F__law_text : Fun K "_law_text" "_law_text" s__law_text a__law_text f__law_text
  m__law_text : mg "_law_text" = some (.ref a__law_text)
  k__law_text : PySem.W.keepIn K (.ref a__law_text) = true
  b__law_text : Binds K f__law_text ["value"] []
  a__law_lines : Addr
  f__law_lines : FuncData
  F__law_lines : Fun K "_law_lines" "_law_lines" s__law_lines a__law_lines f__law_lines
  m__law_lines : mg "_law_lines" = some (.ref a__law_lines)
  k__law_lines : PySem.W.keepIn K (.ref a__law_lines) = true
  b__law_lines : Binds K f__law_lines ["paper"] []
  a__law_integer : Addr
  f__law_integer : FuncData
  F__law_integer : Fun K "_law_integer" "_law_integer" s__law_integer a__law_integer f__law_integer
  m__law_integer : mg "_law_integer" = some (.ref a__law_integer)
  k__law_integer : PySem.W.keepIn K (.ref a__law_integer) = true
  b__law_integer : Binds K f__law_integer ["value"] []
  a__law_letters_alone : Addr
  f__law_letters_alone : FuncData
  F__law_letters_alone : Fun K "_law_letters_alone" "_law_letters_alone" s__law_letters_alone a__law_letters_alone f__law_letters_alone
  m__law_letters_alone : mg "_law_letters_alone" = some (.ref a__law_letters_alone)
  k__law_letters_alone : PySem.W.keepIn K (.ref a__law_letters_alone) = true
  b__law_letters_alone : Binds K f__law_letters_alone ["value", "most"] []
  a__law_has_text : Addr
  f__law_has_text : FuncData
  F__law_has_text : Fun K "_law_has_text" "_law_has_text" s__law_has_text a__law_has_text f__law_has_text
  m__law_has_text : mg "_law_has_text" = some (.ref a__law_has_text)
  k__law_has_text : PySem.W.keepIn K (.ref a__law_has_text) = true
  b__law_has_text : Binds K f__law_has_text ["value", "depth"] []
  a__law_is_stand : Addr
  f__law_is_stand : FuncData
  F__law_is_stand : Fun K "_law_is_stand" "_law_is_stand" s__law_is_stand a__law_is_stand f__law_is_stand
  m__law_is_stand : mg "_law_is_stand" = some (.ref a__law_is_stand)
  k__law_is_stand : PySem.W.keepIn K (.ref a__law_is_stand) = true
  b__law_is_stand : Binds K f__law_is_stand ["value"] []
  a__law_are_stands : Addr
  f__law_are_stands : FuncData
  F__law_are_stands : Fun K "_law_are_stands" "_law_are_stands" s__law_are_stands a__law_are_stands f__law_are_stands
  m__law_are_stands : mg "_law_are_stands" = some (.ref a__law_are_stands)
  k__law_are_stands : PySem.W.keepIn K (.ref a__law_are_stands) = true
  b__law_are_stands : Binds K f__law_are_stands ["value"] []
  a__law_is_event : Addr
  f__law_is_event : FuncData
  F__law_is_event : Fun K "_law_is_event" "_law_is_event" s__law_is_event a__law_is_event f__law_is_event
  m__law_is_event : mg "_law_is_event" = some (.ref a__law_is_event)
  k__law_is_event : PySem.W.keepIn K (.ref a__law_is_event) = true
  b__law_is_event : Binds K f__law_is_event ["value"] []
  a__law_is_paper : Addr
  f__law_is_paper : FuncData
  F__law_is_paper : Fun K "_law_is_paper" "_law_is_paper" s__law_is_paper a__law_is_paper f__law_is_paper
  m__law_is_paper : mg "_law_is_paper" = some (.ref a__law_is_paper)
  k__law_is_paper : PySem.W.keepIn K (.ref a__law_is_paper) = true
  b__law_is_paper : Binds K f__law_is_paper ["value"] []
  a__law_spoilt : Addr
  f__law_spoilt : FuncData
  F__law_spoilt : Fun K "_law_spoilt" "_law_spoilt" s__law_spoilt a__law_spoilt f__law_spoilt
  m__law_spoilt : mg "_law_spoilt" = some (.ref a__law_spoilt)
  k__law_spoilt : PySem.W.keepIn K (.ref a__law_spoilt) = true
  b__law_spoilt : Binds K f__law_spoilt ["bag", "value"] []
  a__law_right : Addr
  f__law_right : FuncData
  F__law_right : Fun K "_law_right" "_law_right" s__law_right a__law_right f__law_right
  m__law_right : mg "_law_right" = some (.ref a__law_right)
  k__law_right : PySem.W.keepIn K (.ref a__law_right) = true
  b__law_right : Binds K f__law_right ["value"] []
  a__law_case : Addr
  f__law_case : FuncData
  F__law_case : Fun K "_law_case" "_law_case" s__law_case a__law_case f__law_case
  m__law_case : mg "_law_case" = some (.ref a__law_case)
  k__law_case : PySem.W.keepIn K (.ref a__law_case) = true
  b__law_case : Binds K f__law_case ["bag"] []
  a_law : Addr
  f_law : FuncData
  F_law : Fun K "law" "law" s_law a_law f_law
  m_law : mg "law" = some (.ref a_law)
  k_law : PySem.W.keepIn K (.ref a_law) = true
  b_law : Binds K f_law ["script"] []
  n_abs : mg "abs" = none
  n_all : mg "all" = none
  n_bool : mg "bool" = none
  n_enumerate : mg "enumerate" = none
  n_int : mg "int" = none
  n_isinstance : mg "isinstance" = none
  n_len : mg "len" = none
  n_list : mg "list" = none
  n_max : mg "max" = none
  n_min : mg "min" = none
  n_range : mg "range" = none
  n_repr : mg "repr" = none
  n_sorted : mg "sorted" = none
  n_str : mg "str" = none
  n_tuple : mg "tuple" = none
  n_zip : mg "zip" = none
  t_LETTERS : Tok
  m_LETTERS : mg "LETTERS" = some (.str "abcdefghijklmnopqrstuvwxyz" t_LETTERS)
  t_MAX_VALUE : Tok
  m_MAX_VALUE : mg "MAX_VALUE" = some (.int 999999999999999999999999999999999999999999999999999999999999 t_MAX_VALUE)
  t_MAX_NAME : Tok
  m_MAX_NAME : mg "MAX_NAME" = some (.int 8 t_MAX_NAME)
  a_WORDS : Addr
  m_WORDS : mg "WORDS" = some (.ref a_WORDS)
  h_WORDS : ∀ w, Hv K w (.ref a_WORDS) wordsD
  t_MOST_CLOCKS : Tok
  m_MOST_CLOCKS : mg "MOST_CLOCKS" = some (.int 12 t_MOST_CLOCKS)
  t_OPEN : Tok
  m_OPEN : mg "OPEN" = some (.str "(" t_OPEN)
  t_CLOSE : Tok
  m_CLOSE : mg "CLOSE" = some (.str ")" t_CLOSE)
  t_MAX_DEPTH : Tok
  m_MAX_DEPTH : mg "MAX_DEPTH" = some (.int 20 t_MAX_DEPTH)
  t_MAX_NUMBER_SIGNS : Tok
  m_MAX_NUMBER_SIGNS : mg "MAX_NUMBER_SIGNS" = some (.int 61 t_MAX_NUMBER_SIGNS)
  t_LIST : Tok
  m_LIST : mg "LIST" = some (.str "list" t_LIST)
  t_ROW : Tok
  m_ROW : mg "ROW" = some (.str "row" t_ROW)
  t_UNTIL : Tok
  m_UNTIL : mg "UNTIL" = some (.str "until" t_UNTIL)
  t_ROUND : Tok
  m_ROUND : mg "ROUND" = some (.str "round" t_ROUND)
  t_NOTHING : Tok
  m_NOTHING : mg "NOTHING" = some (.str "-" t_NOTHING)
end K49
namespace K49
open PySem PySem.Spec PyProof.Rows L2 FL RZ
set_option autoImplicit false
variable {P : Program} {w : World} {K : PySem.W.Frag} {mg : Str → Option Value} {base : Heap}
theorem sc_is_integer : FnScope ["value"] ["value"] (defScope s_is_integer) := ⟨rfl, rfl, rfl, by decide +kernel, rfl, by decide +kernel, by decide +kernel⟩
theorem ok_is_integer {k : Nat} (T : Txt K mg) : FnOk P w K mg base CX0 (k + 1) T.a_is_integer T.f_is_integer ["value"] (spF K 1 (runK 1 (G_is_integer))) :=
  def_ok (G := G_is_integer) T.F_is_integer sc_is_integer rfl (fun cdv A outer s H E hr => (ds_one (d_ret (de_and (de_callB call_isi ad_isi (by rfl) T.n_isinstance (by decide +kernel) (da_cons (de_var (pv 0)) (da_cons (de_ty (pe_bltn (by rfl) T.n_int (by decide +kernel) rfl)) da_nil))) (de_and (de_not (de_callB call_isi ad_isi (by rfl) T.n_isinstance (by decide +kernel) (da_cons (de_var (pv 0)) (da_cons (de_ty (pe_bltn (by rfl) T.n_bool (by decide +kernel) rfl)) da_nil)))) (de_one (de_chain op_le op_le (ad_cmp _) (ad_cmp _) (de_un un_neg ad_neg (de_gint (by rfl) T.m_MAX_VALUE)) (de_var (pv 0)) (de_gint (by rfl) T.m_MAX_VALUE)))))))) (fun ds μ _ => runK_exit ds μ) runK_noex
theorem sc_is_time : FnScope ["value"] ["value"] (defScope s_is_time) := ⟨rfl, rfl, rfl, by decide +kernel, rfl, by decide +kernel, by decide +kernel⟩
theorem ok_is_time {k : Nat} (T : Txt K mg) {g_is_integer : GL} (H_is_integer : FnOk P w K mg base CX0 k T.a_is_integer T.f_is_integer ["value"] (spF K 1 g_is_integer)) : FnOk P w K mg base CX0 (k + 1) T.a_is_time T.f_is_time ["value"] (spF K 1 (runK 1 (G_is_time g_is_integer))) :=
  def_ok (G := G_is_time g_is_integer) T.F_is_time sc_is_time rfl (fun cdv A outer s H E hr => (ds_one (d_ret (de_and (de_call H_is_integer hr (by rfl) T.m_is_integer T.k_is_integer T.b_is_integer pass0 (da_cons (de_var (pv 0)) da_nil) (len_cons len_nil)) (de_one (de_cmp op_ge (ad_cmp _) (de_var (pv 0)) de_int)))))) (fun ds μ _ => runK_exit ds μ) runK_noex
theorem sc_is_letter : FnScope ["value"] ["value"] (defScope s_is_letter) := ⟨rfl, rfl, rfl, by decide +kernel, rfl, by decide +kernel, by decide +kernel⟩
theorem ok_is_letter {k : Nat} (T : Txt K mg) : FnOk P w K mg base CX0 (k + 1) T.a_is_letter T.f_is_letter ["value"] (spF K 1 (runK 1 (G_is_letter))) :=
  def_ok (G := G_is_letter) T.F_is_letter sc_is_letter rfl (fun cdv A outer s H E hr => (ds_one (d_ret (de_and (de_callB call_isi ad_isi (by rfl) T.n_isinstance (by decide +kernel) (da_cons (de_var (pv 0)) (da_cons (de_ty (pe_bltn (by rfl) T.n_str (by decide +kernel) rfl)) da_nil))) (de_and (de_cmp (o_eqq hr.units) ad_eqq (de_callB call_len ad_len (by rfl) T.n_len PySem.boot_len (da_cons (de_var (pv 0)) da_nil)) de_int) (de_one (de_cmp o_in (ad_in false) (de_var (pv 0)) (de_gstr (by rfl) T.m_LETTERS)))))))) (fun ds μ _ => runK_exit ds μ) runK_noex
theorem sc_is_name : FnScope ["value", "sign"] ["value"] (defScope s_is_name) := ⟨rfl, rfl, rfl, by decide +kernel, rfl, by decide +kernel, by decide +kernel⟩
theorem ok_is_name {k : Nat} (T : Txt K mg) : FnOk P w K mg base CX0 (k + 1) T.a_is_name T.f_is_name ["value"] (spF K 1 (runK 2 (G_is_name))) :=
  def_ok (G := G_is_name) T.F_is_name sc_is_name rfl (fun cdv A outer s H E hr => (ds_cons (d_if (dt_w (dw_or (dt_not (dt_tru (de_callB call_isi ad_isi (by rfl) T.n_isinstance (by decide +kernel) (da_cons (de_var (pv 0)) (da_cons (de_ty (pe_bltn (by rfl) T.n_str (by decide +kernel) rfl)) da_nil))))) (dw_or1 (dt_not (dt_chain op_le op_le (ad_cmp _) (ad_cmp _) de_int (de_callB call_len ad_len (by rfl) T.n_len PySem.boot_len (da_cons (de_var (pv 0)) da_nil)) (de_gint (by rfl) T.m_MAX_NAME)))))) (ds_one (d_ret de_bl)) ds_nil) (ds_cons (d_for PassesOwn.never rfl (pi_str (de_var (pv 0))) ai_str (pg_name (i := 1) sc_is_name.nd rfl (by first | exact Or.inl rfl | exact Or.inr rfl)) (adT_name 1) (ds_one (d_if (dt_cmp o_notin (ad_in true) (de_var (pv 1)) (de_gstr (by rfl) T.m_LETTERS)) (ds_one (d_ret de_bl)) ds_nil))) (ds_one (d_ret (de_cmp o_notin (ad_in true) (de_var (pv 0)) (de_gref (by rfl) T.m_WORDS T.h_WORDS))))))) (fun ds μ _ => runK_exit ds μ) runK_noex
theorem sc_is_event : FnScope ["value"] ["value"] (defScope s_is_event) := ⟨rfl, rfl, rfl, by decide +kernel, rfl, by decide +kernel, by decide +kernel⟩
theorem ok_is_event {k : Nat} (T : Txt K mg) {g_is_time : GL} {g_is_name : GL} {g_is_letter : GL} {g_is_integer : GL} (H_is_time : FnOk P w K mg base CX0 k T.a_is_time T.f_is_time ["value"] (spF K 1 g_is_time)) (H_is_name : FnOk P w K mg base CX0 k T.a_is_name T.f_is_name ["value"] (spF K 1 g_is_name)) (H_is_letter : FnOk P w K mg base CX0 k T.a_is_letter T.f_is_letter ["value"] (spF K 1 g_is_letter)) (H_is_integer : FnOk P w K mg base CX0 k T.a_is_integer T.f_is_integer ["value"] (spF K 1 g_is_integer)) : FnOk P w K mg base CX0 (k + 1) T.a_is_event T.f_is_event ["value"] (spF K 1 (runK 1 (G_is_event g_is_time g_is_name g_is_letter g_is_integer))) :=
  def_ok (G := G_is_event g_is_time g_is_name g_is_letter g_is_integer) T.F_is_event sc_is_event rfl (fun cdv A outer s H E hr => (ds_cons (d_if (dt_w (dw_or (dt_not (dt_tru (de_callB call_isi ad_isi (by rfl) T.n_isinstance (by decide +kernel) (da_cons (de_var (pv 0)) (da_cons (de_ty (pe_bltn (by rfl) T.n_tuple (by decide +kernel) rfl)) da_nil))))) (dw_or1 (dt_cmp (o_nee hr.units) ad_nee (de_callB call_len ad_len (by rfl) T.n_len PySem.boot_len (da_cons (de_var (pv 0)) da_nil)) de_int)))) (ds_one (d_ret de_bl)) ds_nil) (ds_one (d_ret (de_and (de_call H_is_time hr (by rfl) T.m_is_time T.k_is_time T.b_is_time pass0 (da_cons (de_ix (de_var (pv 0)) de_int) da_nil) (len_cons len_nil)) (de_and (de_call H_is_name hr (by rfl) T.m_is_name T.k_is_name T.b_is_name pass0 (da_cons (de_ix (de_var (pv 0)) de_int) da_nil) (len_cons len_nil)) (de_and (de_call H_is_letter hr (by rfl) T.m_is_letter T.k_is_letter T.b_is_letter pass0 (da_cons (de_ix (de_var (pv 0)) de_int) da_nil) (len_cons len_nil)) (de_one (de_call H_is_integer hr (by rfl) T.m_is_integer T.k_is_integer T.b_is_integer pass0 (da_cons (de_ix (de_var (pv 0)) de_int) da_nil) (len_cons len_nil)))))))))) (fun ds μ _ => runK_exit ds μ) runK_noex
theorem sc_are_events : FnScope ["value", "one", "other"] ["value"] (defScope s_are_events) := ⟨rfl, rfl, rfl, by decide +kernel, rfl, by decide +kernel, by decide +kernel⟩
theorem ok_are_events {k : Nat} (T : Txt K mg) {g_is_event : GL} (H_is_event : FnOk P w K mg base CX0 k T.a_is_event T.f_is_event ["value"] (spF K 1 g_is_event)) : FnOk P w K mg base CX0 (k + 1) T.a_are_events T.f_are_events ["value"] (spF K 1 (runK 3 (G_are_events g_is_event))) :=
  def_ok (G := G_are_events g_is_event) T.F_are_events sc_are_events rfl (fun cdv A outer s H E hr => (ds_cons (d_if (dt_w (dw_or (dt_not (dt_tru (de_callB call_isi ad_isi (by rfl) T.n_isinstance (by decide +kernel) (da_cons (de_var (pv 0)) (da_cons (de_ty (pe_bltn (by rfl) T.n_tuple (by decide +kernel) rfl)) da_nil))))) (dw_or1 (dt_not (dt_tru (de_callB (cr_all rfl) ad_all (by rfl) T.n_all (by decide +kernel) (da_cons (de_comp rfl sc_are_events.nd (pi_tup (de_var (pv 0))) ai_tup (own := [("one", 1)]) (blkOk_by (own := [("one", 1)]) (N := ["value", "one", "other"]) (sc := defScope s_are_events) (by decide +kernel)) (fun _ _ _ _ _ => (pg_name (i := 1) sc_are_events.nd rfl (by first | exact Or.inl rfl | exact Or.inr rfl))) (adW_name (by decide)) (fun _ _ _ _ _ => dts_nil) (fun _ _ _ _ _ => (de_call H_is_event hr (by rfl) T.m_is_event T.k_is_event T.b_is_event pass0 (da_cons (de_var (pv 1)) da_nil) (len_cons len_nil)))) da_nil))))))) (ds_one (d_ret de_bl)) ds_nil) (ds_cons (d_for PassesOwn.never rfl (pi_zipA (by rfl) T.n_zip (da_cons (de_var (pv 0)) (da_cons (de_sl (de_var (pv 0)) (do_some de_int) do_none) da_nil))) ai_zip (pg_tup rfl (pgs_cons (pg_name (i := 1) sc_are_events.nd rfl (by first | exact Or.inl rfl | exact Or.inr rfl)) (pgs_cons (pg_name (i := 2) sc_are_events.nd rfl (by first | exact Or.inl rfl | exact Or.inr rfl)) pgs_nil))) (adT_tup (adT_cons (adT_name 1) (adT_cons (adT_name 2) adT_nil))) (ds_one (d_if (dt_cmp op_gt (ad_cmp _) (de_ix (de_var (pv 1)) de_int) (de_ix (de_var (pv 2)) de_int)) (ds_one (d_ret de_bl)) ds_nil))) (ds_one (d_ret de_bl))))) (fun ds μ _ => runK_exit ds μ) runK_noex
theorem sc_last_time : FnScope ["events"] ["events"] (defScope s_last_time) := ⟨rfl, rfl, rfl, by decide +kernel, rfl, by decide +kernel, by decide +kernel⟩
theorem ok_last_time {k : Nat} (T : Txt K mg) : FnOk P w K mg base CX0 (k + 1) T.a_last_time T.f_last_time ["events"] (spF K 1 (runK 1 (G_last_time))) :=
  def_ok (G := G_last_time) T.F_last_time sc_last_time rfl (fun cdv A outer s H E hr => (ds_one (d_ret (de_ifExp (dt_tru (de_var (pv 0))) (de_ix (de_ix (de_var (pv 0)) (de_un un_neg ad_neg de_int)) de_int) de_int)))) (fun ds μ _ => runK_exit ds μ) runK_noex
theorem sc_are_rows : FnScope ["value", "row", "entry"] ["value"] (defScope s_are_rows) := ⟨rfl, rfl, rfl, by decide +kernel, rfl, by decide +kernel, by decide +kernel⟩
theorem ok_are_rows {k : Nat} (T : Txt K mg) {g_is_integer : GL} (H_is_integer : FnOk P w K mg base CX0 k T.a_is_integer T.f_is_integer ["value"] (spF K 1 g_is_integer)) : FnOk P w K mg base CX0 (k + 1) T.a_are_rows T.f_are_rows ["value"] (spF K 1 (runK 3 (G_are_rows g_is_integer))) :=
  def_ok (G := G_are_rows g_is_integer) T.F_are_rows sc_are_rows rfl (fun cdv A outer s H E hr => (ds_cons (d_if (dt_w (dw_or (dt_not (dt_tru (de_callB call_isi ad_isi (by rfl) T.n_isinstance (by decide +kernel) (da_cons (de_var (pv 0)) (da_cons (de_ty (pe_bltn (by rfl) T.n_tuple (by decide +kernel) rfl)) da_nil))))) (dw_or1 (dt_not (dt_chain op_le op_le (ad_cmp _) (ad_cmp _) de_int (de_callB call_len ad_len (by rfl) T.n_len PySem.boot_len (da_cons (de_var (pv 0)) da_nil)) (de_op o_add ad_add (de_gint (by rfl) T.m_MOST_CLOCKS) de_int)))))) (ds_one (d_ret de_bl)) ds_nil) (ds_cons (d_for PassesOwn.never rfl (pi_tup (de_var (pv 0))) ai_tup (pg_name (i := 1) sc_are_rows.nd rfl (by first | exact Or.inl rfl | exact Or.inr rfl)) (adT_name 1) (ds_cons (d_if (dt_w (dw_or (dt_not (dt_tru (de_callB call_isi ad_isi (by rfl) T.n_isinstance (by decide +kernel) (da_cons (de_var (pv 1)) (da_cons (de_ty (pe_bltn (by rfl) T.n_tuple (by decide +kernel) rfl)) da_nil))))) (dw_or1 (dt_cmp (o_nee hr.units) ad_nee (de_callB call_len ad_len (by rfl) T.n_len PySem.boot_len (da_cons (de_var (pv 1)) da_nil)) (de_callB call_len ad_len (by rfl) T.n_len PySem.boot_len (da_cons (de_var (pv 0)) da_nil)))))) (ds_one (d_ret de_bl)) ds_nil) (ds_one (d_if (dt_not (dt_tru (de_callB (cr_all rfl) ad_all (by rfl) T.n_all (by decide +kernel) (da_cons (de_comp rfl sc_are_rows.nd (pi_tup (de_var (pv 1))) ai_tup (own := [("entry", 2)]) (blkOk_by (own := [("entry", 2)]) (N := ["value", "row", "entry"]) (sc := defScope s_are_rows) (by decide +kernel)) (fun _ _ _ _ _ => (pg_name (i := 2) sc_are_rows.nd rfl (by first | exact Or.inl rfl | exact Or.inr rfl))) (adW_name (by decide)) (fun _ _ _ _ _ => dts_nil) (fun _ _ _ _ _ => (de_call H_is_integer hr (by rfl) T.m_is_integer T.k_is_integer T.b_is_integer pass0 (da_cons (de_var (pv 2)) da_nil) (len_cons len_nil)))) da_nil)))) (ds_one (d_ret de_bl)) ds_nil)))) (ds_one (d_ret de_bl))))) (fun ds μ _ => runK_exit ds μ) runK_noex
theorem sc_words_in : FnScope ["text", "words", "word", "sign"] ["text"] (defScope s_words_in) := ⟨rfl, rfl, rfl, by decide +kernel, rfl, by decide +kernel, by decide +kernel⟩
theorem ok_words_in {k : Nat} (T : Txt K mg) : FnOk P w K mg base CX0 (k + 1) T.a_words_in T.f_words_in ["text"] (spF K 1 (runG 4 (G_words_in))) :=
  def_ok (G := G_words_in) T.F_words_in sc_words_in rfl (fun cdv A outer s H E hr => (ds_cons (d_set (i := 1) sc_words_in.nd rfl (by first | exact Or.inl rfl | exact Or.inr rfl) (de_mut da_nil)) (ds_cons (d_set (i := 2) sc_words_in.nd rfl (by first | exact Or.inl rfl | exact Or.inr rfl) de_str) (ds_cons (d_for PassesOwn.never rfl (pi_str (de_var (pv 0))) ai_str (pg_name (i := 3) sc_words_in.nd rfl (by first | exact Or.inl rfl | exact Or.inr rfl)) (adT_name 3) (ds_cons (d_if (dt_w (dw_and (dt_cmp (o_nee hr.units) ad_nee (de_var (pv 3)) de_str) (dw_and1 (dt_cmp o_notin (ad_in true) (de_var (pv 3)) (de_tup (da_cons (de_gstr (by rfl) T.m_OPEN) (da_cons (de_gstr (by rfl) T.m_CLOSE) da_nil))))))) (ds_cons (d_aug (i := 2) sc_words_in.nd rfl (by first | exact Or.inl rfl | exact Or.inr rfl) (de_var (pv 3))) (ds_one d_continue)) ds_nil) (ds_cons (d_if (dt_cmp (o_nee hr.units) ad_nee (de_var (pv 2)) de_str) (ds_cons (d_expr (de_bm PySem.F.plainAttrs_list PySem.F.slot_list_append PySem.F.type_list_append mt_append ad_append (de_var (pv 1)) (da_cons (de_var (pv 2)) da_nil))) (ds_one (d_set (i := 2) sc_words_in.nd rfl (by first | exact Or.inl rfl | exact Or.inr rfl) de_str))) ds_nil) (ds_one (d_if (dt_cmp (o_nee hr.units) ad_nee (de_var (pv 3)) de_str) (ds_one (d_expr (de_bm PySem.F.plainAttrs_list PySem.F.slot_list_append PySem.F.type_list_append mt_append ad_append (de_var (pv 1)) (da_cons (de_var (pv 3)) da_nil)))) ds_nil))))) (ds_one (d_ret (de_ifExp (dt_cmp (o_nee hr.units) ad_nee (de_var (pv 2)) de_str) (de_lst (da_star (de_var (pv 1)) (da_cons (de_var (pv 2)) da_nil))) (de_var (pv 1))))))))) (fun ds μ _ => runG_exit ds μ) runG_noex
theorem sc_is_word : FnScope ["value", "sign"] ["value"] (defScope s_is_word) := ⟨rfl, rfl, rfl, by decide +kernel, rfl, by decide +kernel, by decide +kernel⟩
theorem ok_is_word {k : Nat} (T : Txt K mg) : FnOk P w K mg base CX0 (k + 1) T.a_is_word T.f_is_word ["value"] (spF K 1 (runK 2 (G_is_word))) :=
  def_ok (G := G_is_word) T.F_is_word sc_is_word rfl (fun cdv A outer s H E hr => (ds_one (d_ret (de_and (de_callB call_isi ad_isi (by rfl) T.n_isinstance (by decide +kernel) (da_cons (de_var (pv 0)) (da_cons (de_ty (pe_bltn (by rfl) T.n_str (by decide +kernel) rfl)) da_nil))) (de_and (de_cmp (o_nee hr.units) ad_nee (de_var (pv 0)) de_str) (de_one (de_callB (cr_all rfl) ad_all (by rfl) T.n_all (by decide +kernel) (da_cons (de_comp rfl sc_is_word.nd (pi_str (de_var (pv 0))) ai_str (own := [("sign", 1)]) (blkOk_by (own := [("sign", 1)]) (N := ["value", "sign"]) (sc := defScope s_is_word) (by decide +kernel)) (fun _ _ _ _ _ => (pg_name (i := 1) sc_is_word.nd rfl (by first | exact Or.inl rfl | exact Or.inr rfl))) (adW_name (by decide)) (fun _ _ _ _ _ => dts_nil) (fun _ _ _ _ _ => (de_cmp o_in (ad_in false) (de_var (pv 1)) (de_gstr (by rfl) T.m_LETTERS)))) da_nil)))))))) (fun ds μ _ => runK_exit ds μ) runK_noex
theorem sc_can_be_written : FnScope ["value", "depth", "item"] ["value", "depth"] (defScope s_can_be_written) := ⟨rfl, rfl, rfl, by decide +kernel, rfl, by decide +kernel, by decide +kernel⟩
theorem ok_can_be_written {k : Nat} (T : Txt K mg) {g_is_integer : GL} {g_is_word : GL} {g_can_be_written : GL} (H_is_integer : FnOk P w K mg base CX0 k T.a_is_integer T.f_is_integer ["value"] (spF K 1 g_is_integer)) (H_is_word : FnOk P w K mg base CX0 k T.a_is_word T.f_is_word ["value"] (spF K 1 g_is_word)) (H_can_be_written : FnOk P w K mg base CX0 k T.a_can_be_written T.f_can_be_written ["value", "depth"] (spF K 2 g_can_be_written)) : FnOk P w K mg base CX0 (k + 1) T.a_can_be_written T.f_can_be_written ["value", "depth"] (spF K 2 (runK 3 (G_can_be_written g_is_integer g_is_word g_can_be_written))) :=
  def_ok (G := G_can_be_written g_is_integer g_is_word g_can_be_written) T.F_can_be_written sc_can_be_written rfl (fun cdv A outer s H E hr => (ds_cons (d_if (dt_not (dt_tru (de_callB call_isi ad_isi (by rfl) T.n_isinstance (by decide +kernel) (da_cons (de_var (pv 0)) (da_cons (de_ty (pe_bltn (by rfl) T.n_tuple (by decide +kernel) rfl)) da_nil))))) (ds_one (d_ret (de_or (de_cmp op_isN ad_isN (de_var (pv 0)) de_non) (de_or (de_call H_is_integer hr (by rfl) T.m_is_integer T.k_is_integer T.b_is_integer pass0 (da_cons (de_var (pv 0)) da_nil) (len_cons len_nil)) (de_one (de_call H_is_word hr (by rfl) T.m_is_word T.k_is_word T.b_is_word pass0 (da_cons (de_var (pv 0)) da_nil) (len_cons len_nil))))))) ds_nil) (ds_one (d_ret (de_and (de_cmp op_gt (ad_cmp _) (de_var (pv 1)) de_int) (de_one (de_callB (cr_all rfl) ad_all (by rfl) T.n_all (by decide +kernel) (da_cons (de_comp rfl sc_can_be_written.nd (pi_tup (de_var (pv 0))) ai_tup (own := [("item", 2)]) (blkOk_by (own := [("item", 2)]) (N := ["value", "depth", "item"]) (sc := defScope s_can_be_written) (by decide +kernel)) (fun _ _ _ _ _ => (pg_name (i := 2) sc_can_be_written.nd rfl (by first | exact Or.inl rfl | exact Or.inr rfl))) (adW_name (by decide)) (fun _ _ _ _ _ => dts_nil) (fun _ _ _ _ _ => (de_call H_can_be_written hr (by rfl) T.m_can_be_written T.k_can_be_written T.b_can_be_written pass0 (da_cons (de_var (pv 2)) (da_cons (de_op op_sub ad_sub (de_var (pv 1)) de_int) da_nil)) (len_cons (len_cons len_nil))))) da_nil)))))))) (fun ds μ _ => runK_exit ds μ) runK_noex
theorem sc_has_stand_form : FnScope ["value", "shapes", "classes", "bounds", "one"] ["value"] (defScope s_has_stand_form) := ⟨rfl, rfl, rfl, by decide +kernel, rfl, by decide +kernel, by decide +kernel⟩
theorem ok_has_stand_form {k : Nat} (T : Txt K mg) {g_can_be_written : GL} {g_is_integer : GL} {g_are_rows : GL} (H_can_be_written : FnOk P w K mg base CX0 k T.a_can_be_written T.f_can_be_written ["value", "depth"] (spF K 2 g_can_be_written)) (H_is_integer : FnOk P w K mg base CX0 k T.a_is_integer T.f_is_integer ["value"] (spF K 1 g_is_integer)) (H_are_rows : FnOk P w K mg base CX0 k T.a_are_rows T.f_are_rows ["value"] (spF K 1 g_are_rows)) : FnOk P w K mg base CX0 (k + 1) T.a_has_stand_form T.f_has_stand_form ["value"] (spF K 1 (runK 5 (G_has_stand_form g_can_be_written g_is_integer g_are_rows))) :=
  def_ok (G := G_has_stand_form g_can_be_written g_is_integer g_are_rows) T.F_has_stand_form sc_has_stand_form rfl (fun cdv A outer s H E hr => (ds_cons (d_if (dt_w (dw_or (dt_not (dt_tru (de_callB call_isi ad_isi (by rfl) T.n_isinstance (by decide +kernel) (da_cons (de_var (pv 0)) (da_cons (de_ty (pe_bltn (by rfl) T.n_tuple (by decide +kernel) rfl)) da_nil))))) (dw_or (dt_cmp (o_nee hr.units) ad_nee (de_callB call_len ad_len (by rfl) T.n_len PySem.boot_len (da_cons (de_var (pv 0)) da_nil)) de_int) (dw_or1 (dt_not (dt_tru (de_call H_can_be_written hr (by rfl) T.m_can_be_written T.k_can_be_written T.b_can_be_written pass0 (da_cons (de_var (pv 0)) (da_cons (de_gint (by rfl) T.m_MAX_DEPTH) da_nil)) (len_cons (len_cons len_nil))))))))) (ds_one (d_ret de_bl)) ds_nil) (ds_cons (d_star (de_var (pv 0)) (pg_tupS rfl (pgs_cons (pg_name (i := 1) sc_has_stand_form.nd rfl (by first | exact Or.inl rfl | exact Or.inr rfl)) (pgs_cons (pg_name (i := 2) sc_has_stand_form.nd rfl (by first | exact Or.inl rfl | exact Or.inr rfl)) (pgs_cons (pg_name (i := 3) sc_has_stand_form.nd rfl (by first | exact Or.inl rfl | exact Or.inr rfl)) pgs_nil)))) (adT_star (adT_cons (adT_name 1) (adT_cons (adT_name 2) (adT_cons (adT_name 3) adT_nil))))) (ds_one (d_ret (de_and (de_callB call_isi ad_isi (by rfl) T.n_isinstance (by decide +kernel) (da_cons (de_var (pv 2)) (da_cons (de_ty (pe_bltn (by rfl) T.n_tuple (by decide +kernel) rfl)) da_nil))) (de_and (de_callB (cr_all rfl) ad_all (by rfl) T.n_all (by decide +kernel) (da_cons (de_comp rfl sc_has_stand_form.nd (pi_tup (de_var (pv 2))) ai_tup (own := [("one", 4)]) (blkOk_by (own := [("one", 4)]) (N := ["value", "shapes", "classes", "bounds", "one"]) (sc := defScope s_has_stand_form) (by decide +kernel)) (fun _ _ _ _ _ => (pg_name (i := 4) sc_has_stand_form.nd rfl (by first | exact Or.inl rfl | exact Or.inr rfl))) (adW_name (by decide)) (fun _ _ _ _ _ => dts_nil) (fun _ _ _ _ _ => (de_call H_is_integer hr (by rfl) T.m_is_integer T.k_is_integer T.b_is_integer pass0 (da_cons (de_var (pv 4)) da_nil) (len_cons len_nil)))) da_nil)) (de_one (de_call H_are_rows hr (by rfl) T.m_are_rows T.k_are_rows T.b_are_rows pass0 (da_cons (de_var (pv 3)) da_nil) (len_cons len_nil)))))))))) (fun ds μ _ => runK_exit ds μ) runK_noex
theorem sc_are_stand_forms : FnScope ["value", "stand"] ["value"] (defScope s_are_stand_forms) := ⟨rfl, rfl, rfl, by decide +kernel, rfl, by decide +kernel, by decide +kernel⟩
theorem ok_are_stand_forms {k : Nat} (T : Txt K mg) {g_has_stand_form : GL} (H_has_stand_form : FnOk P w K mg base CX0 k T.a_has_stand_form T.f_has_stand_form ["value"] (spF K 1 g_has_stand_form)) : FnOk P w K mg base CX0 (k + 1) T.a_are_stand_forms T.f_are_stand_forms ["value"] (spF K 1 (runK 2 (G_are_stand_forms g_has_stand_form))) :=
  def_ok (G := G_are_stand_forms g_has_stand_form) T.F_are_stand_forms sc_are_stand_forms rfl (fun cdv A outer s H E hr => (ds_one (d_ret (de_and (de_callB call_isi ad_isi (by rfl) T.n_isinstance (by decide +kernel) (da_cons (de_var (pv 0)) (da_cons (de_ty (pe_bltn (by rfl) T.n_tuple (by decide +kernel) rfl)) da_nil))) (de_one (de_callB (cr_all rfl) ad_all (by rfl) T.n_all (by decide +kernel) (da_cons (de_comp rfl sc_are_stand_forms.nd (pi_tup (de_var (pv 0))) ai_tup (own := [("stand", 1)]) (blkOk_by (own := [("stand", 1)]) (N := ["value", "stand"]) (sc := defScope s_are_stand_forms) (by decide +kernel)) (fun _ _ _ _ _ => (pg_name (i := 1) sc_are_stand_forms.nd rfl (by first | exact Or.inl rfl | exact Or.inr rfl))) (adW_name (by decide)) (fun _ _ _ _ _ => dts_nil) (fun _ _ _ _ _ => (de_call H_has_stand_form hr (by rfl) T.m_has_stand_form T.k_has_stand_form T.b_has_stand_form pass0 (da_cons (de_var (pv 1)) da_nil) (len_cons len_nil)))) da_nil))))))) (fun ds μ _ => runK_exit ds μ) runK_noex
theorem sc_has_row_form : FnScope ["events", "last", "rounds", "stands"] ["events", "last", "rounds"] (defScope s_has_row_form) := ⟨rfl, rfl, rfl, by decide +kernel, rfl, by decide +kernel, by decide +kernel⟩
theorem ok_has_row_form {k : Nat} (T : Txt K mg) {g_are_events : GL} {g_is_integer : GL} {g_last_time : GL} {g_are_stand_forms : GL} (H_are_events : FnOk P w K mg base CX0 k T.a_are_events T.f_are_events ["value"] (spF K 1 g_are_events)) (H_is_integer : FnOk P w K mg base CX0 k T.a_is_integer T.f_is_integer ["value"] (spF K 1 g_is_integer)) (H_last_time : FnOk P w K mg base CX0 k T.a_last_time T.f_last_time ["events"] (spF K 1 g_last_time)) (H_are_stand_forms : FnOk P w K mg base CX0 k T.a_are_stand_forms T.f_are_stand_forms ["value"] (spF K 1 g_are_stand_forms)) : FnOk P w K mg base CX0 (k + 1) T.a_has_row_form T.f_has_row_form ["events", "last", "rounds"] (spF K 3 (runK 4 (G_has_row_form g_are_events g_is_integer g_last_time g_are_stand_forms))) :=
  def_ok (G := G_has_row_form g_are_events g_is_integer g_last_time g_are_stand_forms) T.F_has_row_form sc_has_row_form rfl (fun cdv A outer s H E hr => (ds_cons (d_if (dt_w (dw_or (dt_not (dt_tru (de_call H_are_events hr (by rfl) T.m_are_events T.k_are_events T.b_are_events pass0 (da_cons (de_var (pv 0)) da_nil) (len_cons len_nil)))) (dw_or (dt_not (dt_tru (de_call H_is_integer hr (by rfl) T.m_is_integer T.k_is_integer T.b_is_integer pass0 (da_cons (de_var (pv 1)) da_nil) (len_cons len_nil)))) (dw_or1 (dt_cmp op_lt (ad_cmp _) (de_var (pv 1)) (de_call H_last_time hr (by rfl) T.m_last_time T.k_last_time T.b_last_time pass0 (da_cons (de_var (pv 0)) da_nil) (len_cons len_nil))))))) (ds_one (d_ret de_bl)) ds_nil) (ds_cons (d_if (dt_w (dw_or (dt_not (dt_tru (de_callB call_isi ad_isi (by rfl) T.n_isinstance (by decide +kernel) (da_cons (de_var (pv 2)) (da_cons (de_ty (pe_bltn (by rfl) T.n_tuple (by decide +kernel) rfl)) da_nil))))) (dw_or1 (dt_cmp (o_nee hr.units) ad_nee (de_callB call_len ad_len (by rfl) T.n_len PySem.boot_len (da_cons (de_var (pv 2)) da_nil)) (de_callB call_len ad_len (by rfl) T.n_len PySem.boot_len (da_cons (de_var (pv 0)) da_nil)))))) (ds_one (d_ret de_bl)) ds_nil) (ds_one (d_ret (de_callB (cr_all rfl) ad_all (by rfl) T.n_all (by decide +kernel) (da_cons (de_comp rfl sc_has_row_form.nd (pi_tup (de_var (pv 2))) ai_tup (own := [("stands", 3)]) (blkOk_by (own := [("stands", 3)]) (N := ["events", "last", "rounds", "stands"]) (sc := defScope s_has_row_form) (by decide +kernel)) (fun _ _ _ _ _ => (pg_name (i := 3) sc_has_row_form.nd rfl (by first | exact Or.inl rfl | exact Or.inr rfl))) (adW_name (by decide)) (fun _ _ _ _ _ => dts_nil) (fun _ _ _ _ _ => (de_call H_are_stand_forms hr (by rfl) T.m_are_stand_forms T.k_are_stand_forms T.b_are_stand_forms pass0 (da_cons (de_var (pv 3)) da_nil) (len_cons len_nil)))) da_nil))))))) (fun ds μ _ => runK_exit ds μ) runK_noex
theorem sc_has_paper_form : FnScope ["value", "events", "last", "rounds"] ["value"] (defScope s_has_paper_form) := ⟨rfl, rfl, rfl, by decide +kernel, rfl, by decide +kernel, by decide +kernel⟩
theorem ok_has_paper_form {k : Nat} (T : Txt K mg) {g_are_stand_forms : GL} {g_has_row_form : GL} (H_are_stand_forms : FnOk P w K mg base CX0 k T.a_are_stand_forms T.f_are_stand_forms ["value"] (spF K 1 g_are_stand_forms)) (H_has_row_form : FnOk P w K mg base CX0 k T.a_has_row_form T.f_has_row_form ["events", "last", "rounds"] (spF K 3 g_has_row_form)) : FnOk P w K mg base CX0 (k + 1) T.a_has_paper_form T.f_has_paper_form ["value"] (spF K 1 (runK 4 (G_has_paper_form g_are_stand_forms g_has_row_form))) :=
  def_ok (G := G_has_paper_form g_are_stand_forms g_has_row_form) T.F_has_paper_form sc_has_paper_form rfl (fun cdv A outer s H E hr => (ds_cons (d_if (dt_w (dw_or (dt_not (dt_tru (de_callB call_isi ad_isi (by rfl) T.n_isinstance (by decide +kernel) (da_cons (de_var (pv 0)) (da_cons (de_ty (pe_bltn (by rfl) T.n_tuple (by decide +kernel) rfl)) da_nil))))) (dw_or (dt_cmp (o_eqq hr.units) ad_eqq (de_callB call_len ad_len (by rfl) T.n_len PySem.boot_len (da_cons (de_var (pv 0)) da_nil)) de_int) (dw_or1 (dt_not (dt_tru (de_callB call_isi ad_isi (by rfl) T.n_isinstance (by decide +kernel) (da_cons (de_ix (de_var (pv 0)) de_int) (da_cons (de_ty (pe_bltn (by rfl) T.n_str (by decide +kernel) rfl)) da_nil))))))))) (ds_one (d_ret de_bl)) ds_nil) (ds_cons (d_if (dt_cmp (o_eqq hr.units) ad_eqq (de_ix (de_var (pv 0)) de_int) (de_gstr (by rfl) T.m_LIST)) (ds_one (d_ret (de_and (de_cmp (o_eqq hr.units) ad_eqq (de_callB call_len ad_len (by rfl) T.n_len PySem.boot_len (da_cons (de_var (pv 0)) da_nil)) de_int) (de_one (de_call H_are_stand_forms hr (by rfl) T.m_are_stand_forms T.k_are_stand_forms T.b_are_stand_forms pass0 (da_cons (de_ix (de_var (pv 0)) de_int) da_nil) (len_cons len_nil)))))) ds_nil) (ds_cons (d_if (dt_w (dw_or (dt_cmp (o_nee hr.units) ad_nee (de_ix (de_var (pv 0)) de_int) (de_gstr (by rfl) T.m_ROW)) (dw_or1 (dt_cmp (o_nee hr.units) ad_nee (de_callB call_len ad_len (by rfl) T.n_len PySem.boot_len (da_cons (de_var (pv 0)) da_nil)) de_int)))) (ds_one (d_ret de_bl)) ds_nil) (ds_cons (d_asg (de_sl (de_var (pv 0)) (do_some de_int) do_none) (pg_tup rfl (pgs_cons (pg_name (i := 1) sc_has_paper_form.nd rfl (by first | exact Or.inl rfl | exact Or.inr rfl)) (pgs_cons (pg_name (i := 2) sc_has_paper_form.nd rfl (by first | exact Or.inl rfl | exact Or.inr rfl)) (pgs_cons (pg_name (i := 3) sc_has_paper_form.nd rfl (by first | exact Or.inl rfl | exact Or.inr rfl)) pgs_nil)))) (adT_tup (adT_cons (adT_name 1) (adT_cons (adT_name 2) (adT_cons (adT_name 3) adT_nil))))) (ds_one (d_ret (de_call H_has_row_form hr (by rfl) T.m_has_row_form T.k_has_row_form T.b_has_row_form pass0 (da_cons (de_var (pv 1)) (da_cons (de_var (pv 2)) (da_cons (de_var (pv 3)) da_nil))) (len_cons (len_cons (len_cons len_nil))))))))))) (fun ds μ _ => runK_exit ds μ) runK_noex
theorem sc_value_text : FnScope ["value", "item"] ["value"] (defScope s_value_text) := ⟨rfl, rfl, rfl, by decide +kernel, rfl, by decide +kernel, by decide +kernel⟩
theorem ok_value_text {k : Nat} (T : Txt K mg) {g_value_text : GL} (H_value_text : FnOk P w K mg base CX0 k T.a_value_text T.f_value_text ["value"] (spF K 1 g_value_text)) : FnOk P w K mg base CX0 (k + 1) T.a_value_text T.f_value_text ["value"] (spF K 1 (runK 2 (G_value_text g_value_text))) :=
  def_ok (G := G_value_text g_value_text) T.F_value_text sc_value_text rfl (fun cdv A outer s H E hr => (ds_cons (d_if (dt_tru (de_callB call_isi ad_isi (by rfl) T.n_isinstance (by decide +kernel) (da_cons (de_var (pv 0)) (da_cons (de_ty (pe_bltn (by rfl) T.n_tuple (by decide +kernel) rfl)) da_nil)))) (ds_one (d_ret (de_op o_add ad_add (de_op o_add ad_add de_str (de_bm PySem.F.plainAttrs_str PySem.F.slot_str_join PySem.F.type_str_join mt_join ad_join de_str (da_cons (de_comp rfl sc_value_text.nd (pi_tup (de_var (pv 0))) ai_tup (own := [("item", 1)]) (blkOk_by (own := [("item", 1)]) (N := ["value", "item"]) (sc := defScope s_value_text) (by decide +kernel)) (fun _ _ _ _ _ => (pg_name (i := 1) sc_value_text.nd rfl (by first | exact Or.inl rfl | exact Or.inr rfl))) (adW_name (by decide)) (fun _ _ _ _ _ => dts_nil) (fun _ _ _ _ _ => (de_call H_value_text hr (by rfl) T.m_value_text T.k_value_text T.b_value_text pass0 (da_cons (de_var (pv 1)) da_nil) (len_cons len_nil)))) da_nil))) de_str))) ds_nil) (ds_one (d_ret (de_ifExp (dt_cmp op_isN ad_isN (de_var (pv 0)) de_non) (de_gstr (by rfl) T.m_NOTHING) (de_callTy c_str ad_str (by rfl) T.n_str (by decide +kernel) (da_cons (de_var (pv 0)) da_nil))))))) (fun ds μ _ => runK_exit ds μ) runK_noex
theorem sc_event_text : FnScope ["event", "time", "source", "letter", "value"] ["event"] (defScope s_event_text) := ⟨rfl, rfl, rfl, by decide +kernel, rfl, by decide +kernel, by decide +kernel⟩
theorem ok_event_text {k : Nat} (T : Txt K mg) : FnOk P w K mg base CX0 (k + 1) T.a_event_text T.f_event_text ["event"] (spF K 1 (runK 5 (G_event_text))) :=
  def_ok (G := G_event_text) T.F_event_text sc_event_text rfl (fun cdv A outer s H E hr => (ds_cons (d_asg (de_var (pv 0)) (pg_tup rfl (pgs_cons (pg_name (i := 1) sc_event_text.nd rfl (by first | exact Or.inl rfl | exact Or.inr rfl)) (pgs_cons (pg_name (i := 2) sc_event_text.nd rfl (by first | exact Or.inl rfl | exact Or.inr rfl)) (pgs_cons (pg_name (i := 3) sc_event_text.nd rfl (by first | exact Or.inl rfl | exact Or.inr rfl)) (pgs_cons (pg_name (i := 4) sc_event_text.nd rfl (by first | exact Or.inl rfl | exact Or.inr rfl)) pgs_nil))))) (adT_tup (adT_cons (adT_name 1) (adT_cons (adT_name 2) (adT_cons (adT_name 3) (adT_cons (adT_name 4) adT_nil)))))) (ds_one (d_ret (de_joined (DJ.cons (de_fmt (de_var (pv 1))) (DJ.cons de_str (DJ.cons (de_fmt (de_var (pv 2))) (DJ.cons de_str (DJ.cons (de_fmt (de_var (pv 3))) (DJ.cons de_str (DJ.cons (de_fmt (de_var (pv 4))) DJ.nil)))))))))))) (fun ds μ _ => runK_exit ds μ) runK_noex
theorem sc_integer_of : FnScope ["word", "digits", "sign", "number"] ["word"] (defScope s_integer_of) := ⟨rfl, rfl, rfl, by decide +kernel, rfl, by decide +kernel, by decide +kernel⟩
theorem ok_integer_of {k : Nat} (T : Txt K mg) {g_is_integer : GL} (H_is_integer : FnOk P w K mg base CX0 k T.a_is_integer T.f_is_integer ["value"] (spF K 1 g_is_integer)) : FnOk P w K mg base CX0 (k + 1) T.a_integer_of T.f_integer_of ["word"] (spF K 1 (runK 4 (G_integer_of g_is_integer))) :=
  def_ok (G := G_integer_of g_is_integer) T.F_integer_of sc_integer_of rfl (fun cdv A outer s H E hr => (ds_cons (d_set (i := 1) sc_integer_of.nd rfl (by first | exact Or.inl rfl | exact Or.inr rfl) (de_ifExp (dt_cmp (o_eqq hr.units) ad_eqq (de_sl (de_var (pv 0)) do_none (do_some de_int)) (de_gstr (by rfl) T.m_NOTHING)) (de_sl (de_var (pv 0)) (do_some de_int) do_none) (de_var (pv 0)))) (ds_cons (d_if (dt_w (dw_or (dt_cmp (o_eqq hr.units) ad_eqq (de_var (pv 1)) de_str) (dw_or (dt_cmp op_gt (ad_cmp _) (de_callB call_len ad_len (by rfl) T.n_len PySem.boot_len (da_cons (de_var (pv 0)) da_nil)) (de_gint (by rfl) T.m_MAX_NUMBER_SIGNS)) (dw_or1 (dt_not (dt_tru (de_callB (cr_all rfl) ad_all (by rfl) T.n_all (by decide +kernel) (da_cons (de_comp rfl sc_integer_of.nd (pi_str (de_var (pv 1))) ai_str (own := [("sign", 2)]) (blkOk_by (own := [("sign", 2)]) (N := ["word", "digits", "sign", "number"]) (sc := defScope s_integer_of) (by decide +kernel)) (fun _ _ _ _ _ => (pg_name (i := 2) sc_integer_of.nd rfl (by first | exact Or.inl rfl | exact Or.inr rfl))) (adW_name (by decide)) (fun _ _ _ _ _ => dts_nil) (fun _ _ _ _ _ => (de_cmp o_in (ad_in false) (de_var (pv 2)) de_str))) da_nil)))))))) (ds_one (d_ret de_non)) ds_nil) (ds_cons (d_set (i := 3) sc_integer_of.nd rfl (by first | exact Or.inl rfl | exact Or.inr rfl) (de_callTy c_int ad_int (by rfl) T.n_int (by decide +kernel) (da_cons (de_var (pv 0)) da_nil))) (ds_one (d_ret (de_ifExp (dt_w (dw_and (dt_cmp (o_eqq hr.units) ad_eqq (de_callTy c_str ad_str (by rfl) T.n_str (by decide +kernel) (da_cons (de_var (pv 3)) da_nil)) (de_var (pv 0))) (dw_and1 (dt_tru (de_call H_is_integer hr (by rfl) T.m_is_integer T.k_is_integer T.b_is_integer pass0 (da_cons (de_var (pv 3)) da_nil) (len_cons len_nil)))))) (de_var (pv 3)) de_non))))))) (fun ds μ _ => runK_exit ds μ) runK_noex
theorem sc_tuple_of : FnScope ["line", "begun", "word", "done", "item"] ["line"] (defScope s_tuple_of) := ⟨rfl, rfl, rfl, by decide +kernel, rfl, by decide +kernel, by decide +kernel⟩
theorem ok_tuple_of {k : Nat} (T : Txt K mg) {g_words_in : GL} {g_is_word : GL} {g_integer_of : GL} (H_words_in : FnOk P w K mg base CX0 k T.a_words_in T.f_words_in ["text"] (spF K 1 g_words_in)) (H_is_word : FnOk P w K mg base CX0 k T.a_is_word T.f_is_word ["value"] (spF K 1 g_is_word)) (H_integer_of : FnOk P w K mg base CX0 k T.a_integer_of T.f_integer_of ["word"] (spF K 1 g_integer_of)) : FnOk P w K mg base CX0 (k + 1) T.a_tuple_of T.f_tuple_of ["line"] (spF K 1 (runG 5 (G_tuple_of g_words_in g_is_word g_integer_of))) :=
  def_ok (G := G_tuple_of g_words_in g_is_word g_integer_of) T.F_tuple_of sc_tuple_of rfl (fun cdv A outer s H E hr => (ds_cons (d_set (i := 1) sc_tuple_of.nd rfl (by first | exact Or.inl rfl | exact Or.inr rfl) (de_mut (da_cons (de_mut da_nil) da_nil))) (ds_cons (d_for PassesOwn.never rfl (pi_list (de_call H_words_in hr (by rfl) T.m_words_in T.k_words_in T.b_words_in pass0 (da_cons (de_var (pv 0)) da_nil) (len_cons len_nil))) ai_lst (pg_name (i := 2) sc_tuple_of.nd rfl (by first | exact Or.inl rfl | exact Or.inr rfl)) (adT_name 2) (ds_cons (d_if (dt_w (dw_and (dt_cmp (o_eqq hr.units) ad_eqq (de_callB call_len ad_len (by rfl) T.n_len PySem.boot_len (da_cons (de_var (pv 1)) da_nil)) de_int) (dw_and1 (dt_w (dw_or (dt_cmp (o_nee hr.units) ad_nee (de_var (pv 2)) de_str) (dw_or1 (dt_tru (de_ix (de_var (pv 1)) de_int)))))))) (ds_one (d_ret de_non)) ds_nil) (ds_cons (d_if (dt_cmp (o_eqq hr.units) ad_eqq (de_var (pv 2)) de_str) (ds_one (d_expr (de_bm PySem.F.plainAttrs_list PySem.F.slot_list_append PySem.F.type_list_append mt_append ad_append (de_var (pv 1)) (da_cons (de_mut da_nil) da_nil)))) (ds_one (d_if (dt_cmp (o_eqq hr.units) ad_eqq (de_var (pv 2)) de_str) (ds_cons (d_set (i := 3) sc_tuple_of.nd rfl (by first | exact Or.inl rfl | exact Or.inr rfl) (de_callTy (c_tuple rfl) ad_tuple (by rfl) T.n_tuple (by decide +kernel) (da_cons (de_bm0 PySem.F.plainAttrs_list PySem.F.slot_list_pop PySem.F.type_list_pop mt_pop ad_pop (de_var (pv 1))) da_nil))) (ds_one (d_expr (de_bm PySem.F.plainAttrs_list PySem.F.slot_list_append PySem.F.type_list_append mt_append ad_append (de_ix (de_var (pv 1)) (de_un un_neg ad_neg de_int)) (da_cons (de_var (pv 3)) da_nil))))) (ds_cons (d_set (i := 4) sc_tuple_of.nd rfl (by first | exact Or.inl rfl | exact Or.inr rfl) (de_ifExp (dt_tru (de_call H_is_word hr (by rfl) T.m_is_word T.k_is_word T.b_is_word pass0 (da_cons (de_var (pv 2)) da_nil) (len_cons len_nil))) (de_var (pv 2)) (de_call H_integer_of hr (by rfl) T.m_integer_of T.k_integer_of T.b_integer_of pass0 (da_cons (de_var (pv 2)) da_nil) (len_cons len_nil)))) (ds_cons (d_if (dt_w (dw_and (dt_cmp op_isN ad_isN (de_var (pv 4)) de_non) (dw_and1 (dt_cmp (o_nee hr.units) ad_nee (de_var (pv 2)) (de_gstr (by rfl) T.m_NOTHING))))) (ds_one (d_ret de_non)) ds_nil) (ds_one (d_expr (de_bm PySem.F.plainAttrs_list PySem.F.slot_list_append PySem.F.type_list_append mt_append ad_append (de_ix (de_var (pv 1)) (de_un un_neg ad_neg de_int)) (da_cons (de_var (pv 4)) da_nil))))))))) (ds_one (d_if (dt_cmp op_gt (ad_cmp _) (de_callB call_len ad_len (by rfl) T.n_len PySem.boot_len (da_cons (de_var (pv 1)) da_nil)) (de_op o_add ad_add (de_gint (by rfl) T.m_MAX_DEPTH) de_int)) (ds_one (d_ret de_non)) ds_nil))))) (ds_one (d_ret (de_ifExp (dt_w (dw_and (dt_cmp (o_eqq hr.units) ad_eqq (de_callB call_len ad_len (by rfl) T.n_len PySem.boot_len (da_cons (de_var (pv 1)) da_nil)) de_int) (dw_and1 (dt_tru (de_ix (de_var (pv 1)) de_int))))) (de_ix (de_ix (de_var (pv 1)) de_int) de_int) de_non)))))) (fun ds μ _ => runG_exit ds μ) runG_noex
theorem sc_stand_of : FnScope ["line", "index", "found"] ["line", "index"] (defScope s_stand_of) := ⟨rfl, rfl, rfl, by decide +kernel, rfl, by decide +kernel, by decide +kernel⟩
theorem ok_stand_of {k : Nat} (T : Txt K mg) {g_tuple_of : GL} {g_value_text : GL} {g_has_stand_form : GL} (H_tuple_of : FnOk P w K mg base CX0 k T.a_tuple_of T.f_tuple_of ["line"] (spF K 1 g_tuple_of)) (H_value_text : FnOk P w K mg base CX0 k T.a_value_text T.f_value_text ["value"] (spF K 1 g_value_text)) (H_has_stand_form : FnOk P w K mg base CX0 k T.a_has_stand_form T.f_has_stand_form ["value"] (spF K 1 g_has_stand_form)) : FnOk P w K mg base CX0 (k + 1) T.a_stand_of T.f_stand_of ["line", "index"] (spF K 2 (runK 3 (G_stand_of g_tuple_of g_value_text g_has_stand_form))) :=
  def_ok (G := G_stand_of g_tuple_of g_value_text g_has_stand_form) T.F_stand_of sc_stand_of rfl (fun cdv A outer s H E hr => (ds_cons (d_set (i := 2) sc_stand_of.nd rfl (by first | exact Or.inl rfl | exact Or.inr rfl) (de_call H_tuple_of hr (by rfl) T.m_tuple_of T.k_tuple_of T.b_tuple_of pass0 (da_cons (de_var (pv 0)) da_nil) (len_cons len_nil))) (ds_cons (d_if (dt_w (dw_or (dt_cmp op_isN ad_isN (de_var (pv 2)) de_non) (dw_or (dt_cmp (o_nee hr.units) ad_nee (de_call H_value_text hr (by rfl) T.m_value_text T.k_value_text T.b_value_text pass0 (da_cons (de_var (pv 2)) da_nil) (len_cons len_nil)) (de_var (pv 0))) (dw_or1 (dt_not (dt_tru (de_call H_has_stand_form hr (by rfl) T.m_has_stand_form T.k_has_stand_form T.b_has_stand_form pass0 (da_cons (de_var (pv 2)) da_nil) (len_cons len_nil)))))))) (ds_one d_never) ds_nil) (ds_one (d_ret (de_var (pv 2))))))) (fun ds μ _ => runK_exit ds μ) runK_noex
theorem sc_event_of : FnScope ["line", "now", "found", "time", "source", "letter", "value"] ["line", "now"] (defScope s_event_of) := ⟨rfl, rfl, rfl, by decide +kernel, rfl, by decide +kernel, by decide +kernel⟩
theorem ok_event_of {k : Nat} (T : Txt K mg) {g_integer_of : GL} {g_is_event : GL} (H_integer_of : FnOk P w K mg base CX0 k T.a_integer_of T.f_integer_of ["word"] (spF K 1 g_integer_of)) (H_is_event : FnOk P w K mg base CX0 k T.a_is_event T.f_is_event ["value"] (spF K 1 g_is_event)) : FnOk P w K mg base CX0 (k + 1) T.a_event_of T.f_event_of ["line", "now"] (spF K 2 (runK 7 (G_event_of g_integer_of g_is_event))) :=
  def_ok (G := G_event_of g_integer_of g_is_event) T.F_event_of sc_event_of rfl (fun cdv A outer s H E hr => (ds_one (d_matchL rfl sc_event_of.nd (Nms.cons (i := 3) rfl (by first | exact Or.inl rfl | exact Or.inr rfl) (by first | exact Or.inl rfl | exact Or.inr rfl) (Nms.cons (i := 4) rfl (by first | exact Or.inl rfl | exact Or.inr rfl) (by first | exact Or.inl rfl | exact Or.inr rfl) (Nms.cons (i := 5) rfl (by first | exact Or.inl rfl | exact Or.inr rfl) (by first | exact Or.inl rfl | exact Or.inr rfl) (Nms.cons (i := 6) rfl (by first | exact Or.inl rfl | exact Or.inr rfl) (by first | exact Or.inl rfl | exact Or.inr rfl) Nms.nil)))) rfl (de_bm PySem.F.plainAttrs_str PySem.F.slot_str_split PySem.F.type_str_split mt_split ad_split (de_var (pv 0)) (da_cons de_str da_nil)) (ds_cons (d_set (i := 2) sc_event_of.nd rfl (by first | exact Or.inl rfl | exact Or.inr rfl) (de_tup (da_cons (de_call H_integer_of hr (by rfl) T.m_integer_of T.k_integer_of T.b_integer_of pass0 (da_cons (de_var (pv 3)) da_nil) (len_cons len_nil)) (da_cons (de_var (pv 4)) (da_cons (de_var (pv 5)) (da_cons (de_call H_integer_of hr (by rfl) T.m_integer_of T.k_integer_of T.b_integer_of pass0 (da_cons (de_var (pv 6)) da_nil) (len_cons len_nil)) da_nil)))))) (ds_one (d_ret (de_ifExp (dt_w (dw_and (dt_tru (de_call H_is_event hr (by rfl) T.m_is_event T.k_is_event T.b_is_event pass0 (da_cons (de_var (pv 2)) da_nil) (len_cons len_nil))) (dw_and1 (dt_cmp op_ge (ad_cmp _) (de_ix (de_var (pv 2)) de_int) (de_var (pv 1)))))) (de_var (pv 2)) de_non)))) (ds_one (d_ret de_non))))) (fun ds μ _ => runK_exit ds μ) runK_noex
theorem sc_last_of : FnScope ["line", "now", "index", "word", "blank", "time", "last"] ["line", "now", "index"] (defScope s_last_of) := ⟨rfl, rfl, rfl, by decide +kernel, rfl, by decide +kernel, by decide +kernel⟩
theorem ok_last_of {k : Nat} (T : Txt K mg) {g_integer_of : GL} (H_integer_of : FnOk P w K mg base CX0 k T.a_integer_of T.f_integer_of ["word"] (spF K 1 g_integer_of)) : FnOk P w K mg base CX0 (k + 1) T.a_last_of T.f_last_of ["line", "now", "index"] (spF K 3 (runK 7 (G_last_of g_integer_of))) :=
  def_ok (G := G_last_of g_integer_of) T.F_last_of sc_last_of rfl (fun cdv A outer s H E hr => (ds_cons (d_asg (de_bm PySem.F.plainAttrs_str PySem.F.slot_str_partition PySem.F.type_str_partition mt_partition ad_partition (de_var (pv 0)) (da_cons de_str da_nil)) (pg_tup rfl (pgs_cons (pg_name (i := 3) sc_last_of.nd rfl (by first | exact Or.inl rfl | exact Or.inr rfl)) (pgs_cons (pg_name (i := 4) sc_last_of.nd rfl (by first | exact Or.inl rfl | exact Or.inr rfl)) (pgs_cons (pg_name (i := 5) sc_last_of.nd rfl (by first | exact Or.inl rfl | exact Or.inr rfl)) pgs_nil)))) (adT_tup (adT_cons (adT_name 3) (adT_cons (adT_name 4) (adT_cons (adT_name 5) adT_nil))))) (ds_cons (d_set (i := 6) sc_last_of.nd rfl (by first | exact Or.inl rfl | exact Or.inr rfl) (de_call H_integer_of hr (by rfl) T.m_integer_of T.k_integer_of T.b_integer_of pass0 (da_cons (de_var (pv 5)) da_nil) (len_cons len_nil))) (ds_cons (d_if (dt_w (dw_or (dt_cmp (o_nee hr.units) ad_nee (de_var (pv 3)) (de_gstr (by rfl) T.m_UNTIL)) (dw_or (dt_cmp op_isN ad_isN (de_var (pv 6)) de_non) (dw_or1 (dt_cmp op_lt (ad_cmp _) (de_var (pv 6)) (de_var (pv 1))))))) (ds_one d_never) ds_nil) (ds_one (d_ret (de_var (pv 6)))))))) (fun ds μ _ => runK_exit ds μ) runK_noex
theorem sc_rounds_of : FnScope ["lines", "index", "many", "rounds"] ["lines", "index", "many"] (defScope s_rounds_of) := ⟨rfl, rfl, rfl, by decide +kernel, rfl, by decide +kernel, by decide +kernel⟩
theorem ok_rounds_of {k : Nat} (T : Txt K mg) {g_stand_of : GL} (H_stand_of : FnOk P w K mg base CX0 k T.a_stand_of T.f_stand_of ["line", "index"] (spF K 2 g_stand_of)) : FnOk P w K mg base CX0 (k + 1) T.a_rounds_of T.f_rounds_of ["lines", "index", "many"] (spF K 3 (runG 4 (G_rounds_of g_stand_of))) :=
  def_ok (G := G_rounds_of g_stand_of) T.F_rounds_of sc_rounds_of rfl (fun cdv A outer s H E hr => (ds_cons (d_set (i := 3) sc_rounds_of.nd rfl (by first | exact Or.inl rfl | exact Or.inr rfl) (de_mut da_nil)) (ds_cons (d_while (fuelOf 0) PassesOwn.never (dt_cmp op_lt (ad_cmp _) (de_var (pv 1)) (de_callB call_len ad_len (by rfl) T.n_len PySem.boot_len (da_cons (de_var (pv 0)) da_nil))) (ds_cons (d_if (dt_w (dw_and (dt_cmp (o_eqq hr.units) ad_eqq (de_ix (de_var (pv 0)) (de_var (pv 1))) (de_gstr (by rfl) T.m_ROUND)) (dw_and1 (dt_cmp op_lt (ad_cmp _) (de_callB call_len ad_len (by rfl) T.n_len PySem.boot_len (da_cons (de_var (pv 3)) da_nil)) (de_var (pv 2)))))) (ds_one (d_expr (de_bm PySem.F.plainAttrs_list PySem.F.slot_list_append PySem.F.type_list_append mt_append ad_append (de_var (pv 3)) (da_cons (de_tup da_nil) da_nil)))) (ds_one (d_if (dt_w (dw_and (dt_cmp (o_nee hr.units) ad_nee (de_ix (de_var (pv 0)) (de_var (pv 1))) (de_gstr (by rfl) T.m_ROUND)) (dw_and1 (dt_tru (de_var (pv 3)))))) (ds_one (d_storeL (de_tup (da_star (de_ix (de_var (pv 3)) (de_un un_neg ad_neg de_int)) (da_cons (de_call H_stand_of hr (by rfl) T.m_stand_of T.k_stand_of T.b_stand_of pass0 (da_cons (de_ix (de_var (pv 0)) (de_var (pv 1))) (da_cons (de_var (pv 1)) da_nil)) (len_cons (len_cons len_nil))) da_nil))) (de_var (pv 3)) (de_un un_neg ad_neg de_int))) (ds_one d_never)))) (ds_one (d_aug (i := 1) sc_rounds_of.nd rfl (by first | exact Or.inl rfl | exact Or.inr rfl) de_int)))) (ds_cons (d_if (dt_cmp op_lt (ad_cmp _) (de_callB call_len ad_len (by rfl) T.n_len PySem.boot_len (da_cons (de_var (pv 3)) da_nil)) (de_var (pv 2))) (ds_one d_never) ds_nil) (ds_one (d_ret (de_callTy (c_tuple rfl) ad_tuple (by rfl) T.n_tuple (by decide +kernel) (da_cons (de_var (pv 3)) da_nil)))))))) (fun ds μ _ => runG_exit ds μ) runG_noex
theorem sc_read_paper : FnScope ["text", "lines", "at", "line", "events", "now", "event", "index", "last"] ["text"] (defScope s_read_paper) := ⟨rfl, rfl, rfl, by decide +kernel, rfl, by decide +kernel, by decide +kernel⟩
theorem ok_read_paper {k : Nat} (T : Txt K mg) {g_stand_of : GL} {g_event_of : GL} {g_last_of : GL} {g_rounds_of : GL} (H_stand_of : FnOk P w K mg base CX0 k T.a_stand_of T.f_stand_of ["line", "index"] (spF K 2 g_stand_of)) (H_event_of : FnOk P w K mg base CX0 k T.a_event_of T.f_event_of ["line", "now"] (spF K 2 g_event_of)) (H_last_of : FnOk P w K mg base CX0 k T.a_last_of T.f_last_of ["line", "now", "index"] (spF K 3 g_last_of)) (H_rounds_of : FnOk P w K mg base CX0 k T.a_rounds_of T.f_rounds_of ["lines", "index", "many"] (spF K 3 g_rounds_of)) : FnOk P w K mg base CX0 (k + 1) T.a_read_paper T.f_read_paper ["text"] (spF K 1 (runG 9 (G_read_paper g_stand_of g_event_of g_last_of g_rounds_of))) :=
  def_ok (G := G_read_paper g_stand_of g_event_of g_last_of g_rounds_of) T.F_read_paper sc_read_paper rfl (fun cdv A outer s H E hr => (ds_cons (d_if (dt_not (dt_tru (de_callB call_isi ad_isi (by rfl) T.n_isinstance (by decide +kernel) (da_cons (de_var (pv 0)) (da_cons (de_ty (pe_bltn (by rfl) T.n_str (by decide +kernel) rfl)) da_nil))))) (ds_one d_never) ds_nil) (ds_cons (d_set (i := 1) sc_read_paper.nd rfl (by first | exact Or.inl rfl | exact Or.inr rfl) (de_bm PySem.F.plainAttrs_str PySem.F.slot_str_split PySem.F.type_str_split mt_split ad_split (de_var (pv 0)) (da_cons de_str da_nil))) (ds_cons (d_if (dt_cmp (o_eqq hr.units) ad_eqq (de_ix (de_var (pv 1)) de_int) (de_gstr (by rfl) T.m_LIST)) (ds_one (d_ret (de_tup (da_cons (de_gstr (by rfl) T.m_LIST) (da_cons (de_callTy (c_tuple rfl) ad_tuple (by rfl) T.n_tuple (by decide +kernel) (da_cons (de_comp rfl sc_read_paper.nd (pi_enum (by rfl) T.n_enumerate (da_cons (de_sl (de_var (pv 1)) (do_some de_int) do_none) da_nil)) ai_enum (own := [("at", 2), ("line", 3)]) (blkOk_by (own := [("at", 2), ("line", 3)]) (N := ["text", "lines", "at", "line", "events", "now", "event", "index", "last"]) (sc := defScope s_read_paper) (by decide +kernel)) (fun _ _ _ _ _ => (pg_tup rfl (pgs_cons (pg_name (i := 2) sc_read_paper.nd rfl (by first | exact Or.inl rfl | exact Or.inr rfl)) (pgs_cons (pg_name (i := 3) sc_read_paper.nd rfl (by first | exact Or.inl rfl | exact Or.inr rfl)) pgs_nil)))) (adW_tup (adW_cons (adW_name (by decide)) (adW_cons (adW_name (by decide)) adW_nil))) (fun _ _ _ _ _ => dts_nil) (fun _ _ _ _ _ => (de_call H_stand_of hr (by rfl) T.m_stand_of T.k_stand_of T.b_stand_of pass0 (da_cons (de_var (pv 3)) (da_cons (de_op o_add ad_add (de_var (pv 2)) de_int) da_nil)) (len_cons (len_cons len_nil))))) da_nil)) da_nil))))) ds_nil) (ds_cons (d_if (dt_cmp (o_nee hr.units) ad_nee (de_ix (de_var (pv 1)) de_int) (de_gstr (by rfl) T.m_ROW)) (ds_one d_never) ds_nil) (ds_cons (d_set (i := 4) sc_read_paper.nd rfl (by first | exact Or.inl rfl | exact Or.inr rfl) (de_mut da_nil)) (ds_cons (d_set (i := 5) sc_read_paper.nd rfl (by first | exact Or.inl rfl | exact Or.inr rfl) de_int) (ds_cons (d_for PassesOwn.never rfl (pi_list (de_sl (de_var (pv 1)) (do_some de_int) do_none)) ai_lst (pg_name (i := 3) sc_read_paper.nd rfl (by first | exact Or.inl rfl | exact Or.inr rfl)) (adT_name 3) (ds_cons (d_ifN (i := 6) op_isN ad_isN sc_read_paper.nd rfl (by first | exact Or.inl rfl | exact Or.inr rfl) (de_call H_event_of hr (by rfl) T.m_event_of T.k_event_of T.b_event_of pass0 (da_cons (de_var (pv 3)) (da_cons (de_var (pv 5)) da_nil)) (len_cons (len_cons len_nil))) de_non (ds_one d_break) ds_nil) (ds_cons (d_expr (de_bm PySem.F.plainAttrs_list PySem.F.slot_list_append PySem.F.type_list_append mt_append ad_append (de_var (pv 4)) (da_cons (de_var (pv 6)) da_nil))) (ds_one (d_set (i := 5) sc_read_paper.nd rfl (by first | exact Or.inl rfl | exact Or.inr rfl) (de_ix (de_var (pv 6)) de_int)))))) (ds_cons (d_set (i := 7) sc_read_paper.nd rfl (by first | exact Or.inl rfl | exact Or.inr rfl) (de_op o_add ad_add (de_callB call_len ad_len (by rfl) T.n_len PySem.boot_len (da_cons (de_var (pv 4)) da_nil)) de_int)) (ds_cons (d_if (dt_cmp (o_eqq hr.units) ad_eqq (de_var (pv 7)) (de_callB call_len ad_len (by rfl) T.n_len PySem.boot_len (da_cons (de_var (pv 1)) da_nil))) (ds_one d_never) ds_nil) (ds_cons (d_set (i := 8) sc_read_paper.nd rfl (by first | exact Or.inl rfl | exact Or.inr rfl) (de_call H_last_of hr (by rfl) T.m_last_of T.k_last_of T.b_last_of pass0 (da_cons (de_ix (de_var (pv 1)) (de_var (pv 7))) (da_cons (de_var (pv 5)) (da_cons (de_var (pv 7)) da_nil))) (len_cons (len_cons (len_cons len_nil))))) (ds_one (d_ret (de_tup (da_cons (de_gstr (by rfl) T.m_ROW) (da_cons (de_callTy (c_tuple rfl) ad_tuple (by rfl) T.n_tuple (by decide +kernel) (da_cons (de_var (pv 4)) da_nil)) (da_cons (de_var (pv 8)) (da_cons (de_call H_rounds_of hr (by rfl) T.m_rounds_of T.k_rounds_of T.b_rounds_of pass0 (da_cons (de_var (pv 1)) (da_cons (de_op o_add ad_add (de_var (pv 7)) de_int) (da_cons (de_callB call_len ad_len (by rfl) T.n_len PySem.boot_len (da_cons (de_var (pv 4)) da_nil)) da_nil))) (len_cons (len_cons (len_cons len_nil)))) da_nil)))))))))))))))))) (fun ds μ _ => runG_exit ds μ) runG_noex
theorem sc__law_start : FnScope ["script", "at", "cell", "great", "mixed"] ["script", "at"] (defScope s__law_start) := ⟨rfl, rfl, rfl, by decide +kernel, rfl, by decide +kernel, by decide +kernel⟩
theorem ok__law_start {k : Nat} (T : Txt K mg) : FnOk P w K mg base CX0 (k + 1) T.a__law_start T.f__law_start ["script", "at"] (spF K 2 (runK 5 (G__law_start))) :=
  def_ok (G := G__law_start) T.F__law_start sc__law_start rfl (fun cdv A outer s H E hr => (ds_cons (d_set (i := 2) sc__law_start.nd rfl (by first | exact Or.inl rfl | exact Or.inr rfl) (de_ifExp (dt_cmp op_lt (ad_cmp _) (de_var (pv 1)) (de_callB call_len ad_len (by rfl) T.n_len PySem.boot_len (da_cons (de_var (pv 0)) da_nil))) (de_ix (de_var (pv 0)) (de_var (pv 1))) (de_op o_add ad_add (de_op op_mulW ad_mul de_int (de_var (pv 1))) de_int))) (ds_cons (d_set (i := 3) sc__law_start.nd rfl (by first | exact Or.inl rfl | exact Or.inr rfl) (de_op op_mod ad_mod (de_callTy c_int ad_int (by rfl) T.n_int (by decide +kernel) (da_cons (de_callB call_abs ad_abs (by rfl) T.n_abs (by decide +kernel) (da_cons (de_var (pv 2)) da_nil)) da_nil)) (de_op o_pow ad_pow (de_op o_pow ad_pow de_int de_int) de_int))) (ds_cons (d_set (i := 4) sc__law_start.nd rfl (by first | exact Or.inl rfl | exact Or.inr rfl) (de_op o_add ad_add (de_op op_mulW ad_mul (de_op op_mod ad_mod (de_callTy c_int ad_int (by rfl) T.n_int (by decide +kernel) (da_cons (de_var (pv 3)) da_nil)) de_int) de_int) (de_callTy c_int ad_int (by rfl) T.n_int (by decide +kernel) (da_cons (de_cmp op_lt (ad_cmp _) (de_var (pv 2)) de_int) da_nil)))) (ds_one (d_ret (de_mut (da_cons (de_callB (call_max2 rfl) ad_max2 (by rfl) T.n_max (by decide +kernel) (da_cons de_int (da_cons (de_op op_sub ad_sub (de_var (pv 3)) (de_op o_pow ad_pow de_int de_int)) da_nil))) (da_cons (de_op op_mod ad_mod (de_callTy c_int ad_int (by rfl) T.n_int (by decide +kernel) (da_cons (de_op o_add ad_add (de_op o_add ad_add (de_op op_mulW ad_mul (de_var (pv 4)) de_int) (de_op op_mulW ad_mul de_int (de_var (pv 1)))) de_int) da_nil)) de_int) (da_cons de_int da_nil)))))))))) (fun ds μ _ => runK_exit ds μ) runK_noex
theorem sc__law_throw : FnScope ["bag", "total", "found", "one", "two", "three"] ["bag", "total"] (defScope s__law_throw) := ⟨rfl, rfl, rfl, by decide +kernel, rfl, by decide +kernel, by decide +kernel⟩
theorem ok__law_throw {k : Nat} (T : Txt K mg) : FnOk P w K mg base CX0 (k + 1) T.a__law_throw T.f__law_throw ["bag", "total"] (spF K 2 (runK 6 (G__law_throw))) :=
  def_ok (G := G__law_throw) T.F__law_throw sc__law_throw rfl (fun cdv A outer s H E hr => (ds_cons (d_if (dt_cmp op_gt (ad_cmp _) (de_ix (de_var (pv 0)) de_int) de_int) (ds_cons (d_set (i := 2) sc__law_throw.nd rfl (by first | exact Or.inl rfl | exact Or.inr rfl) (de_op op_mod ad_mod (de_callTy c_int ad_int (by rfl) T.n_int (by decide +kernel) (da_cons (de_ix (de_var (pv 0)) de_int) da_nil)) (de_var (pv 1)))) (ds_cons (d_storeL (de_op op_fdivW ad_fdiv (de_ix (de_var (pv 0)) de_int) (de_var (pv 1))) (de_var (pv 0)) de_int) (ds_one (d_ret (de_var (pv 2)))))) ds_nil) (ds_cons (d_storeL (de_op o_add ad_add (de_ix (de_var (pv 0)) de_int) de_int) (de_var (pv 0)) de_int) (ds_cons (d_set (i := 3) sc__law_throw.nd rfl (by first | exact Or.inl rfl | exact Or.inr rfl) (de_op op_mod ad_mod (de_callTy c_int ad_int (by rfl) T.n_int (by decide +kernel) (da_cons (de_op o_add ad_add (de_ix (de_var (pv 0)) de_int) (de_op op_mulW ad_mul de_int (de_ix (de_var (pv 0)) de_int))) da_nil)) de_int)) (ds_cons (d_set (i := 4) sc__law_throw.nd rfl (by first | exact Or.inl rfl | exact Or.inr rfl) (de_op op_mod ad_mod (de_callTy c_int ad_int (by rfl) T.n_int (by decide +kernel) (da_cons (de_op o_add ad_add (de_op op_mulW ad_mul (de_var (pv 3)) (de_var (pv 3))) (de_op op_mulW ad_mul de_int (de_ix (de_var (pv 0)) de_int))) da_nil)) de_int)) (ds_cons (d_set (i := 5) sc__law_throw.nd rfl (by first | exact Or.inl rfl | exact Or.inr rfl) (de_op op_mod ad_mod (de_callTy c_int ad_int (by rfl) T.n_int (by decide +kernel) (da_cons (de_op o_add ad_add (de_op op_mulW ad_mul (de_var (pv 4)) (de_var (pv 3))) de_int) da_nil)) de_int)) (ds_one (d_ret (de_op op_mod ad_mod (de_callTy c_int ad_int (by rfl) T.n_int (by decide +kernel) (da_cons (de_op op_fdivW ad_fdiv (de_var (pv 5)) de_int) da_nil)) (de_var (pv 1))))))))))) (fun ds μ _ => runK_exit ds μ) runK_noex
theorem sc__law_pick : FnScope ["bag", "items"] ["bag", "items"] (defScope s__law_pick) := ⟨rfl, rfl, rfl, by decide +kernel, rfl, by decide +kernel, by decide +kernel⟩
theorem ok__law_pick {k : Nat} (T : Txt K mg) {g__law_throw : GL} (H__law_throw : FnOk P w K mg base CX0 k T.a__law_throw T.f__law_throw ["bag", "total"] (spF K 2 g__law_throw)) : FnOk P w K mg base CX0 (k + 1) T.a__law_pick T.f__law_pick ["bag", "items"] (spF K 2 (runK 2 (G__law_pick g__law_throw))) :=
  def_ok (G := G__law_pick g__law_throw) T.F__law_pick sc__law_pick rfl (fun cdv A outer s H E hr => (ds_one (d_ret (de_ix (de_var (pv 1)) (de_call H__law_throw hr (by rfl) T.m__law_throw T.k__law_throw T.b__law_throw pass0 (da_cons (de_var (pv 0)) (da_cons (de_callB call_len ad_len (by rfl) T.n_len PySem.boot_len (da_cons (de_var (pv 1)) da_nil)) da_nil)) (len_cons (len_cons len_nil))))))) (fun ds μ _ => runK_exit ds μ) runK_noex
theorem sc__law_letters : FnScope ["bag", "most", "signs", "size", "turn"] ["bag", "most"] (defScope s__law_letters) := ⟨rfl, rfl, rfl, by decide +kernel, rfl, by decide +kernel, by decide +kernel⟩
theorem ok__law_letters {k : Nat} (T : Txt K mg) {g__law_throw : GL} (H__law_throw : FnOk P w K mg base CX0 k T.a__law_throw T.f__law_throw ["bag", "total"] (spF K 2 g__law_throw)) : FnOk P w K mg base CX0 (k + 1) T.a__law_letters T.f__law_letters ["bag", "most"] (spF K 2 (runG 5 (G__law_letters g__law_throw))) :=
  def_ok (G := G__law_letters g__law_throw) T.F__law_letters sc__law_letters rfl (fun cdv A outer s H E hr => (ds_cons (d_set (i := 2) sc__law_letters.nd rfl (by first | exact Or.inl rfl | exact Or.inr rfl) (de_callTy (c_list rfl) ad_listM (by rfl) T.n_list (by decide +kernel) (da_cons de_str da_nil))) (ds_cons (d_if (dt_w (dw_and (dt_cmp op_le (ad_cmp _) (de_var (pv 1)) de_int) (dw_and1 (dt_cmp op_gt (ad_cmp _) (de_call H__law_throw hr (by rfl) T.m__law_throw T.k__law_throw T.b__law_throw pass0 (da_cons (de_var (pv 0)) (da_cons de_int da_nil)) (len_cons (len_cons len_nil))) de_int)))) (ds_one (d_set (i := 2) sc__law_letters.nd rfl (by first | exact Or.inl rfl | exact Or.inr rfl) (de_callTy (c_list rfl) ad_listM (by rfl) T.n_list (by decide +kernel) (da_cons de_str da_nil)))) ds_nil) (ds_cons (d_set (i := 3) sc__law_letters.nd rfl (by first | exact Or.inl rfl | exact Or.inr rfl) (de_op o_add ad_add de_int (de_call H__law_throw hr (by rfl) T.m__law_throw T.k__law_throw T.b__law_throw pass0 (da_cons (de_var (pv 0)) (da_cons (de_var (pv 1)) da_nil)) (len_cons (len_cons len_nil))))) (ds_one (d_ret (de_callTy (c_tuple rfl) ad_tuple (by rfl) T.n_tuple (by decide +kernel) (da_cons (de_callB (c_sorted rfl) ad_sorted (by rfl) T.n_sorted (by decide +kernel) (da_cons (de_comp rfl sc__law_letters.nd (pi_range1 rfl T.n_range (da_cons (de_var (pv 3)) da_nil)) ai_range1 (own := [("turn", 4)]) (blkOk_by (own := [("turn", 4)]) (N := ["bag", "most", "signs", "size", "turn"]) (sc := defScope s__law_letters) (by decide +kernel)) (fun _ _ _ _ _ => (pg_name (i := 4) sc__law_letters.nd rfl (by first | exact Or.inl rfl | exact Or.inr rfl))) (adW_name (by decide)) (fun _ _ _ _ _ => dts_nil) (fun _ _ _ _ _ => (de_bm PySem.F.plainAttrs_list PySem.F.slot_list_pop PySem.F.type_list_pop mt_popAt ad_popAt (de_var (pv 2)) (da_cons (de_call H__law_throw hr (by rfl) T.m__law_throw T.k__law_throw T.b__law_throw pass0 (da_cons (de_var (pv 0)) (da_cons (de_callB call_len ad_len (by rfl) T.n_len PySem.boot_len (da_cons (de_var (pv 2)) da_nil)) da_nil)) (len_cons (len_cons len_nil))) da_nil)))) da_nil)) da_nil)))))))) (fun ds μ _ => runG_exit ds μ) runG_noex
theorem sc__law_words : FnScope ["words"] [] (defScope s__law_words) := ⟨rfl, rfl, rfl, by decide +kernel, rfl, by decide +kernel, by decide +kernel⟩
theorem ok__law_words {k : Nat} (T : Txt K mg) : FnOk P w K mg base CX0 (k + 1) T.a__law_words T.f__law_words [] (spF K 0 (runK 1 (G__law_words))) :=
  def_ok (G := G__law_words) T.F__law_words sc__law_words rfl (fun cdv A outer s H E hr => (ds_cons (d_set (i := 0) sc__law_words.nd rfl (by first | exact Or.inl rfl | exact Or.inr rfl) (de_lst (da_cons de_str (da_cons de_str (da_cons de_str (da_cons de_str (da_cons de_str (da_cons de_str (da_cons de_str (da_cons de_str (da_cons de_str (da_cons de_str (da_cons de_str (da_cons de_str (da_cons de_str da_nil))))))))))))))) (ds_one (d_ret (de_op o_add ad_add (de_var (pv 0)) (de_lst (da_cons de_str (da_cons de_str (da_cons de_str (da_cons de_str (da_cons de_str (da_cons de_str (da_cons de_str (da_cons de_str (da_cons de_str (da_cons de_str da_nil)))))))))))))))) (fun ds μ _ => runK_exit ds μ) runK_noex
theorem sc__law_name : FnScope ["bag", "known", "alphabet", "signs", "text", "turn", "name", "sign"] ["bag", "known"] (defScope s__law_name) := ⟨rfl, rfl, rfl, by decide +kernel, rfl, by decide +kernel, by decide +kernel⟩
theorem ok__law_name {k : Nat} (T : Txt K mg) {g__law_pick : GL} {g__law_throw : GL} {g__law_words : GL} (H__law_pick : FnOk P w K mg base CX0 k T.a__law_pick T.f__law_pick ["bag", "items"] (spF K 2 g__law_pick)) (H__law_throw : FnOk P w K mg base CX0 k T.a__law_throw T.f__law_throw ["bag", "total"] (spF K 2 g__law_throw)) (H__law_words : FnOk P w K mg base CX0 k T.a__law_words T.f__law_words [] (spF K 0 g__law_words)) : FnOk P w K mg base CX0 (k + 1) T.a__law_name T.f__law_name ["bag", "known"] (spF K 2 (runK 8 (G__law_name g__law_pick g__law_throw g__law_words))) :=
  def_ok (G := G__law_name g__law_pick g__law_throw g__law_words) T.F__law_name sc__law_name rfl (fun cdv A outer s H E hr => (ds_cons (d_set (i := 2) sc__law_name.nd rfl (by first | exact Or.inl rfl | exact Or.inr rfl) de_str) (ds_cons (d_set (i := 3) sc__law_name.nd rfl (by first | exact Or.inl rfl | exact Or.inr rfl) (de_call H__law_pick hr (by rfl) T.m__law_pick T.k__law_pick T.b__law_pick pass0 (da_cons (de_var (pv 0)) (da_cons (de_lst (da_cons (de_var (pv 2)) (da_cons de_str (da_cons de_str da_nil)))) da_nil)) (len_cons (len_cons len_nil)))) (ds_cons (d_set (i := 4) sc__law_name.nd rfl (by first | exact Or.inl rfl | exact Or.inr rfl) (de_bm PySem.F.plainAttrs_str PySem.F.slot_str_join PySem.F.type_str_join mt_join ad_join de_str (da_cons (de_comp rfl sc__law_name.nd (pi_range1 rfl T.n_range (da_cons (de_op o_add ad_add de_int (de_call H__law_throw hr (by rfl) T.m__law_throw T.k__law_throw T.b__law_throw pass0 (da_cons (de_var (pv 0)) (da_cons de_int da_nil)) (len_cons (len_cons len_nil)))) da_nil)) ai_range1 (own := [("turn", 5)]) (blkOk_by (own := [("turn", 5)]) (N := ["bag", "known", "alphabet", "signs", "text", "turn", "name", "sign"]) (sc := defScope s__law_name) (by decide +kernel)) (fun _ _ _ _ _ => (pg_name (i := 5) sc__law_name.nd rfl (by first | exact Or.inl rfl | exact Or.inr rfl))) (adW_name (by decide)) (fun _ _ _ _ _ => dts_nil) (fun _ _ _ _ _ => (de_call H__law_pick hr (by rfl) T.m__law_pick T.k__law_pick T.b__law_pick pass0 (da_cons (de_var (pv 0)) (da_cons (de_var (pv 3)) da_nil)) (len_cons (len_cons len_nil))))) da_nil))) (ds_cons (d_for PassesOwn.never rfl (pi_list (de_op o_add ad_add (de_lst (da_cons (de_var (pv 4)) da_nil)) (de_comp rfl sc__law_name.nd (pi_str (de_var (pv 2))) ai_str (own := [("sign", 7)]) (blkOk_by (own := [("sign", 7)]) (N := ["bag", "known", "alphabet", "signs", "text", "turn", "name", "sign"]) (sc := defScope s__law_name) (by decide +kernel)) (fun _ _ _ _ _ => (pg_name (i := 7) sc__law_name.nd rfl (by first | exact Or.inl rfl | exact Or.inr rfl))) (adW_name (by decide)) (fun _ _ _ _ _ => dts_nil) (fun _ _ _ _ _ => (de_op o_add ad_add (de_sl (de_var (pv 4)) do_none (do_some de_int)) (de_var (pv 7))))))) ai_lst (pg_name (i := 6) sc__law_name.nd rfl (by first | exact Or.inl rfl | exact Or.inr rfl)) (adT_name 6) (ds_one (d_if (dt_w (dw_and (dt_cmp o_notin (ad_in true) (de_var (pv 6)) (de_var (pv 1))) (dw_and1 (dt_cmp o_notin (ad_in true) (de_var (pv 6)) (de_call0 H__law_words hr (by rfl) T.m__law_words T.k__law_words T.b__law_words pass0))))) (ds_one (d_ret (de_var (pv 6)))) ds_nil))) (ds_one (d_ret de_str))))))) (fun ds μ _ => runK_exit ds μ) runK_noex
theorem sc__law_layout : FnScope ["bag", "sources", "letters", "found", "turn", "name"] ["bag", "sources", "letters"] (defScope s__law_layout) := ⟨rfl, rfl, rfl, by decide +kernel, rfl, by decide +kernel, by decide +kernel⟩
theorem ok__law_layout {k : Nat} (T : Txt K mg) {g__law_throw : GL} {g__law_name : GL} {g__law_letters : GL} (H__law_throw : FnOk P w K mg base CX0 k T.a__law_throw T.f__law_throw ["bag", "total"] (spF K 2 g__law_throw)) (H__law_name : FnOk P w K mg base CX0 k T.a__law_name T.f__law_name ["bag", "known"] (spF K 2 g__law_name)) (H__law_letters : FnOk P w K mg base CX0 k T.a__law_letters T.f__law_letters ["bag", "most"] (spF K 2 g__law_letters)) : FnOk P w K mg base CX0 (k + 1) T.a__law_layout T.f__law_layout ["bag", "sources", "letters"] (spF K 3 (runG 6 (G__law_layout g__law_throw g__law_name g__law_letters))) :=
  def_ok (G := G__law_layout g__law_throw g__law_name g__law_letters) T.F__law_layout sc__law_layout rfl (fun cdv A outer s H E hr => (ds_cons (d_set (i := 3) sc__law_layout.nd rfl (by first | exact Or.inl rfl | exact Or.inr rfl) de_dnewM) (ds_cons (d_for PassesOwn.never rfl (pi_range1 rfl T.n_range (da_cons (de_op o_add ad_add de_int (de_call H__law_throw hr (by rfl) T.m__law_throw T.k__law_throw T.b__law_throw pass0 (da_cons (de_var (pv 0)) (da_cons (de_var (pv 1)) da_nil)) (len_cons (len_cons len_nil)))) da_nil)) ai_range1 (pg_name (i := 4) sc__law_layout.nd rfl (by first | exact Or.inl rfl | exact Or.inr rfl)) (adT_name 4) (ds_cons (d_set (i := 5) sc__law_layout.nd rfl (by first | exact Or.inl rfl | exact Or.inr rfl) (de_call H__law_name hr (by rfl) T.m__law_name T.k__law_name T.b__law_name pass0 (da_cons (de_var (pv 0)) (da_cons (de_callB (c_sorted rfl) ad_sorted (by rfl) T.n_sorted (by decide +kernel) (da_cons (de_var (pv 3)) da_nil)) da_nil)) (len_cons (len_cons len_nil)))) (ds_one (d_storeD (hu_of hr) (de_call H__law_letters hr (by rfl) T.m__law_letters T.k__law_letters T.b__law_letters pass0 (da_cons (de_var (pv 0)) (da_cons (de_var (pv 2)) da_nil)) (len_cons (len_cons len_nil))) (de_var (pv 3)) (de_var (pv 5)))))) (ds_one (d_ret (de_var (pv 3))))))) (fun ds μ _ => runG_exit ds μ) runG_noex
theorem sc__law_value : FnScope ["bag", "way"] ["bag"] (defScope s__law_value) := ⟨rfl, rfl, rfl, by decide +kernel, rfl, by decide +kernel, by decide +kernel⟩
theorem ok__law_value {k : Nat} (T : Txt K mg) {g__law_throw : GL} (H__law_throw : FnOk P w K mg base CX0 k T.a__law_throw T.f__law_throw ["bag", "total"] (spF K 2 g__law_throw)) : FnOk P w K mg base CX0 (k + 1) T.a__law_value T.f__law_value ["bag"] (spF K 1 (runK 2 (G__law_value g__law_throw))) :=
  def_ok (G := G__law_value g__law_throw) T.F__law_value sc__law_value rfl (fun cdv A outer s H E hr => (ds_cons (d_set (i := 1) sc__law_value.nd rfl (by first | exact Or.inl rfl | exact Or.inr rfl) (de_call H__law_throw hr (by rfl) T.m__law_throw T.k__law_throw T.b__law_throw pass0 (da_cons (de_var (pv 0)) (da_cons de_int da_nil)) (len_cons (len_cons len_nil)))) (ds_cons (d_if (dt_cmp op_lt (ad_cmp _) (de_var (pv 1)) de_int) (ds_one (d_ret (de_call H__law_throw hr (by rfl) T.m__law_throw T.k__law_throw T.b__law_throw pass0 (da_cons (de_var (pv 0)) (da_cons de_int da_nil)) (len_cons (len_cons len_nil))))) ds_nil) (ds_cons (d_if (dt_cmp (o_eqq hr.units) ad_eqq (de_var (pv 1)) de_int) (ds_one (d_ret (de_op op_sub ad_sub (de_un un_neg ad_neg de_int) (de_call H__law_throw hr (by rfl) T.m__law_throw T.k__law_throw T.b__law_throw pass0 (da_cons (de_var (pv 0)) (da_cons de_int da_nil)) (len_cons (len_cons len_nil)))))) ds_nil) (ds_one (d_ret (de_op op_mulW ad_mul (de_call H__law_throw hr (by rfl) T.m__law_throw T.k__law_throw T.b__law_throw pass0 (da_cons (de_var (pv 0)) (da_cons (de_op o_pow ad_pow de_int de_int) da_nil)) (len_cons (len_cons len_nil))) (de_op op_sub ad_sub de_int (de_op op_mulW ad_mul de_int (de_var (pv 1))))))))))) (fun ds μ _ => runK_exit ds μ) runK_noex
theorem sc__law_events : FnScope ["bag", "layout", "most", "gap", "names", "events", "now", "turn", "name"] ["bag", "layout", "most", "gap"] (defScope s__law_events) := ⟨rfl, rfl, rfl, by decide +kernel, rfl, by decide +kernel, by decide +kernel⟩
theorem ok__law_events {k : Nat} (T : Txt K mg) {g__law_throw : GL} {g__law_pick : GL} {g__law_value : GL} (H__law_throw : FnOk P w K mg base CX0 k T.a__law_throw T.f__law_throw ["bag", "total"] (spF K 2 g__law_throw)) (H__law_pick : FnOk P w K mg base CX0 k T.a__law_pick T.f__law_pick ["bag", "items"] (spF K 2 g__law_pick)) (H__law_value : FnOk P w K mg base CX0 k T.a__law_value T.f__law_value ["bag"] (spF K 1 g__law_value)) : FnOk P w K mg base CX0 (k + 1) T.a__law_events T.f__law_events ["bag", "layout", "most", "gap"] (spF K 4 (runG 9 (G__law_events g__law_throw g__law_pick g__law_value))) :=
  def_ok (G := G__law_events g__law_throw g__law_pick g__law_value) T.F__law_events sc__law_events rfl (fun cdv A outer s H E hr => (ds_cons (d_set (i := 4) sc__law_events.nd rfl (by first | exact Or.inl rfl | exact Or.inr rfl) (de_callB (c_sorted rfl) ad_sorted (by rfl) T.n_sorted (by decide +kernel) (da_cons (de_var (pv 1)) da_nil))) (ds_cons (d_set (i := 5) sc__law_events.nd rfl (by first | exact Or.inl rfl | exact Or.inr rfl) (de_mut da_nil)) (ds_cons (d_set (i := 6) sc__law_events.nd rfl (by first | exact Or.inl rfl | exact Or.inr rfl) de_int) (ds_cons (d_for PassesOwn.never rfl (pi_range1 rfl T.n_range (da_cons (de_call H__law_throw hr (by rfl) T.m__law_throw T.k__law_throw T.b__law_throw pass0 (da_cons (de_var (pv 0)) (da_cons (de_op o_add ad_add (de_var (pv 2)) de_int) da_nil)) (len_cons (len_cons len_nil))) da_nil)) ai_range1 (pg_name (i := 7) sc__law_events.nd rfl (by first | exact Or.inl rfl | exact Or.inr rfl)) (adT_name 7) (ds_cons (d_set (i := 6) sc__law_events.nd rfl (by first | exact Or.inl rfl | exact Or.inr rfl) (de_op o_add ad_add (de_var (pv 6)) (de_op op_mulW ad_mul (de_call H__law_throw hr (by rfl) T.m__law_throw T.k__law_throw T.b__law_throw pass0 (da_cons (de_var (pv 0)) (da_cons (de_var (pv 3)) da_nil)) (len_cons (len_cons len_nil))) (de_callTy c_int ad_int (by rfl) T.n_int (by decide +kernel) (da_cons (de_cmp op_gt (ad_cmp _) (de_call H__law_throw hr (by rfl) T.m__law_throw T.k__law_throw T.b__law_throw pass0 (da_cons (de_var (pv 0)) (da_cons de_int da_nil)) (len_cons (len_cons len_nil))) de_int) da_nil))))) (ds_cons (d_set (i := 8) sc__law_events.nd rfl (by first | exact Or.inl rfl | exact Or.inr rfl) (de_call H__law_pick hr (by rfl) T.m__law_pick T.k__law_pick T.b__law_pick pass0 (da_cons (de_var (pv 0)) (da_cons (de_var (pv 4)) da_nil)) (len_cons (len_cons len_nil)))) (ds_one (d_expr (de_bm PySem.F.plainAttrs_list PySem.F.slot_list_append PySem.F.type_list_append mt_append ad_append (de_var (pv 5)) (da_cons (de_tup (da_cons (de_var (pv 6)) (da_cons (de_var (pv 8)) (da_cons (de_call H__law_pick hr (by rfl) T.m__law_pick T.k__law_pick T.b__law_pick pass0 (da_cons (de_var (pv 0)) (da_cons (de_dget (hu_of hr) (de_var (pv 1)) (de_var (pv 8))) da_nil)) (len_cons (len_cons len_nil))) (da_cons (de_call H__law_value hr (by rfl) T.m__law_value T.k__law_value T.b__law_value pass0 (da_cons (de_var (pv 0)) da_nil) (len_cons len_nil)) da_nil))))) da_nil))))))) (ds_one (d_ret (de_callTy (c_tuple rfl) ad_tuple (by rfl) T.n_tuple (by decide +kernel) (da_cons (de_var (pv 5)) da_nil))))))))) (fun ds μ _ => runG_exit ds μ) runG_noex
theorem sc__law_tape : FnScope ["bag", "layout", "most", "gap", "events", "reach"] ["bag", "layout", "most", "gap"] (defScope s__law_tape) := ⟨rfl, rfl, rfl, by decide +kernel, rfl, by decide +kernel, by decide +kernel⟩
theorem ok__law_tape {k : Nat} (T : Txt K mg) {g__law_events : GL} {g__law_throw : GL} (H__law_events : FnOk P w K mg base CX0 k T.a__law_events T.f__law_events ["bag", "layout", "most", "gap"] (spF K 4 g__law_events)) (H__law_throw : FnOk P w K mg base CX0 k T.a__law_throw T.f__law_throw ["bag", "total"] (spF K 2 g__law_throw)) : FnOk P w K mg base CX0 (k + 1) T.a__law_tape T.f__law_tape ["bag", "layout", "most", "gap"] (spF K 4 (runK 6 (G__law_tape g__law_events g__law_throw))) :=
  def_ok (G := G__law_tape g__law_events g__law_throw) T.F__law_tape sc__law_tape rfl (fun cdv A outer s H E hr => (ds_cons (d_set (i := 4) sc__law_tape.nd rfl (by first | exact Or.inl rfl | exact Or.inr rfl) (de_call H__law_events hr (by rfl) T.m__law_events T.k__law_events T.b__law_events pass0 (da_cons (de_var (pv 0)) (da_cons (de_var (pv 1)) (da_cons (de_var (pv 2)) (da_cons (de_var (pv 3)) da_nil)))) (len_cons (len_cons (len_cons (len_cons len_nil)))))) (ds_cons (d_set (i := 5) sc__law_tape.nd rfl (by first | exact Or.inl rfl | exact Or.inr rfl) (de_ifExp (dt_tru (de_var (pv 4))) (de_ix (de_ix (de_var (pv 4)) (de_un un_neg ad_neg de_int)) de_int) de_int)) (ds_one (d_ret (de_tup (da_cons (de_var (pv 4)) (da_cons (de_op o_add ad_add (de_var (pv 5)) (de_call H__law_throw hr (by rfl) T.m__law_throw T.k__law_throw T.b__law_throw pass0 (da_cons (de_var (pv 0)) (da_cons (de_var (pv 3)) da_nil)) (len_cons (len_cons len_nil)))) da_nil)))))))) (fun ds μ _ => runK_exit ds μ) runK_noex
theorem sc__law_atom : FnScope ["bag", "way", "rows", "letters", "turn"] ["bag"] (defScope s__law_atom) := ⟨rfl, rfl, rfl, by decide +kernel, rfl, by decide +kernel, by decide +kernel⟩
theorem ok__law_atom {k : Nat} (T : Txt K mg) {g__law_throw : GL} {g__law_pick : GL} (H__law_throw : FnOk P w K mg base CX0 k T.a__law_throw T.f__law_throw ["bag", "total"] (spF K 2 g__law_throw)) (H__law_pick : FnOk P w K mg base CX0 k T.a__law_pick T.f__law_pick ["bag", "items"] (spF K 2 g__law_pick)) : FnOk P w K mg base CX0 (k + 1) T.a__law_atom T.f__law_atom ["bag"] (spF K 1 (runK 5 (G__law_atom g__law_throw g__law_pick))) :=
  def_ok (G := G__law_atom g__law_throw g__law_pick) T.F__law_atom sc__law_atom rfl (fun cdv A outer s H E hr => (ds_cons (d_set (i := 1) sc__law_atom.nd rfl (by first | exact Or.inl rfl | exact Or.inr rfl) (de_call H__law_throw hr (by rfl) T.m__law_throw T.k__law_throw T.b__law_throw pass0 (da_cons (de_var (pv 0)) (da_cons de_int da_nil)) (len_cons (len_cons len_nil)))) (ds_cons (d_if (dt_cmp (o_eqq hr.units) ad_eqq (de_var (pv 1)) de_int) (ds_one (d_ret de_non)) ds_nil) (ds_cons (d_if (dt_cmp op_lt (ad_cmp _) (de_var (pv 1)) de_int) (ds_cons (d_set (i := 2) sc__law_atom.nd rfl (by first | exact Or.inl rfl | exact Or.inr rfl) (de_lst (da_cons de_int (da_cons de_int (da_cons (de_un un_neg ad_neg de_int) (da_cons (de_op op_sub ad_sub (de_op o_pow ad_pow de_int de_int) de_int) (da_cons (de_op op_sub ad_sub de_int (de_op o_pow ad_pow de_int de_int)) (da_cons (de_call H__law_throw hr (by rfl) T.m__law_throw T.k__law_throw T.b__law_throw pass0 (da_cons (de_var (pv 0)) (da_cons (de_op o_pow ad_pow de_int de_int) da_nil)) (len_cons (len_cons len_nil))) (da_cons (de_op o_add ad_add de_int (de_call H__law_throw hr (by rfl) T.m__law_throw T.k__law_throw T.b__law_throw pass0 (da_cons (de_var (pv 0)) (da_cons de_int da_nil)) (len_cons (len_cons len_nil)))) da_nil))))))))) (ds_one (d_ret (de_call H__law_pick hr (by rfl) T.m__law_pick T.k__law_pick T.b__law_pick pass0 (da_cons (de_var (pv 0)) (da_cons (de_var (pv 2)) da_nil)) (len_cons (len_cons len_nil)))))) ds_nil) (ds_cons (d_set (i := 3) sc__law_atom.nd rfl (by first | exact Or.inl rfl | exact Or.inr rfl) (de_call H__law_pick hr (by rfl) T.m__law_pick T.k__law_pick T.b__law_pick pass0 (da_cons (de_var (pv 0)) (da_cons (de_lst (da_cons de_str (da_cons de_str (da_cons de_str da_nil)))) da_nil)) (len_cons (len_cons len_nil)))) (ds_one (d_ret (de_bm PySem.F.plainAttrs_str PySem.F.slot_str_join PySem.F.type_str_join mt_join ad_join de_str (da_cons (de_comp rfl sc__law_atom.nd (pi_range1 rfl T.n_range (da_cons (de_op o_add ad_add de_int (de_call H__law_throw hr (by rfl) T.m__law_throw T.k__law_throw T.b__law_throw pass0 (da_cons (de_var (pv 0)) (da_cons de_int da_nil)) (len_cons (len_cons len_nil)))) da_nil)) ai_range1 (own := [("turn", 4)]) (blkOk_by (own := [("turn", 4)]) (N := ["bag", "way", "rows", "letters", "turn"]) (sc := defScope s__law_atom) (by decide +kernel)) (fun _ _ _ _ _ => (pg_name (i := 4) sc__law_atom.nd rfl (by first | exact Or.inl rfl | exact Or.inr rfl))) (adW_name (by decide)) (fun _ _ _ _ _ => dts_nil) (fun _ _ _ _ _ => (de_call H__law_pick hr (by rfl) T.m__law_pick T.k__law_pick T.b__law_pick pass0 (da_cons (de_var (pv 0)) (da_cons (de_var (pv 3)) da_nil)) (len_cons (len_cons len_nil))))) da_nil))))))))) (fun ds μ _ => runK_exit ds μ) runK_noex
theorem sc__law_shape : FnScope ["bag", "depth", "left", "turn"] ["bag", "depth", "left"] (defScope s__law_shape) := ⟨rfl, rfl, rfl, by decide +kernel, rfl, by decide +kernel, by decide +kernel⟩
theorem ok__law_shape {k : Nat} (T : Txt K mg) {g__law_throw : GL} {g__law_atom : GL} {g__law_shape : GL} (H__law_throw : FnOk P w K mg base CX0 k T.a__law_throw T.f__law_throw ["bag", "total"] (spF K 2 g__law_throw)) (H__law_atom : FnOk P w K mg base CX0 k T.a__law_atom T.f__law_atom ["bag"] (spF K 1 g__law_atom)) (H__law_shape : FnOk P w K mg base CX0 k T.a__law_shape T.f__law_shape ["bag", "depth", "left"] (spF K 3 g__law_shape)) : FnOk P w K mg base CX0 (k + 1) T.a__law_shape T.f__law_shape ["bag", "depth", "left"] (spF K 3 (runK 4 (G__law_shape g__law_throw g__law_atom g__law_shape))) :=
  def_ok (G := G__law_shape g__law_throw g__law_atom g__law_shape) T.F__law_shape sc__law_shape rfl (fun cdv A outer s H E hr => (ds_cons (d_if (dt_w (dw_or (dt_cmp (o_eqq hr.units) ad_eqq (de_var (pv 1)) de_int) (dw_or (dt_cmp (o_eqq hr.units) ad_eqq (de_ix (de_var (pv 2)) de_int) de_int) (dw_or1 (dt_cmp (o_eqq hr.units) ad_eqq (de_call H__law_throw hr (by rfl) T.m__law_throw T.k__law_throw T.b__law_throw pass0 (da_cons (de_var (pv 0)) (da_cons de_int da_nil)) (len_cons (len_cons len_nil))) de_int))))) (ds_one (d_ret (de_call H__law_atom hr (by rfl) T.m__law_atom T.k__law_atom T.b__law_atom pass0 (da_cons (de_var (pv 0)) da_nil) (len_cons len_nil)))) ds_nil) (ds_cons (d_storeL (de_op op_sub ad_sub (de_ix (de_var (pv 2)) de_int) de_int) (de_var (pv 2)) de_int) (ds_one (d_ret (de_callTy (c_tuple rfl) ad_tuple (by rfl) T.n_tuple (by decide +kernel) (da_cons (de_comp rfl sc__law_shape.nd (pi_range1 rfl T.n_range (da_cons (de_call H__law_throw hr (by rfl) T.m__law_throw T.k__law_throw T.b__law_throw pass0 (da_cons (de_var (pv 0)) (da_cons de_int da_nil)) (len_cons (len_cons len_nil))) da_nil)) ai_range1 (own := [("turn", 3)]) (blkOk_by (own := [("turn", 3)]) (N := ["bag", "depth", "left", "turn"]) (sc := defScope s__law_shape) (by decide +kernel)) (fun _ _ _ _ _ => (pg_name (i := 3) sc__law_shape.nd rfl (by first | exact Or.inl rfl | exact Or.inr rfl))) (adW_name (by decide)) (fun _ _ _ _ _ => dts_nil) (fun _ _ _ _ _ => (de_call H__law_shape hr (by rfl) T.m__law_shape T.k__law_shape T.b__law_shape pass0 (da_cons (de_var (pv 0)) (da_cons (de_op op_sub ad_sub (de_var (pv 1)) de_int) (da_cons (de_var (pv 2)) da_nil))) (len_cons (len_cons (len_cons len_nil)))))) da_nil))))))) (fun ds μ _ => runK_exit ds μ) runK_noex
theorem sc__law_deep : FnScope ["bag", "depth", "found", "turn"] ["bag", "depth"] (defScope s__law_deep) := ⟨rfl, rfl, rfl, by decide +kernel, rfl, by decide +kernel, by decide +kernel⟩
theorem ok__law_deep {k : Nat} (T : Txt K mg) {g__law_atom : GL} {g__law_pick : GL} (H__law_atom : FnOk P w K mg base CX0 k T.a__law_atom T.f__law_atom ["bag"] (spF K 1 g__law_atom)) (H__law_pick : FnOk P w K mg base CX0 k T.a__law_pick T.f__law_pick ["bag", "items"] (spF K 2 g__law_pick)) : FnOk P w K mg base CX0 (k + 1) T.a__law_deep T.f__law_deep ["bag", "depth"] (spF K 2 (runK 4 (G__law_deep g__law_atom g__law_pick))) :=
  def_ok (G := G__law_deep g__law_atom g__law_pick) T.F__law_deep sc__law_deep rfl (fun cdv A outer s H E hr => (ds_cons (d_set (i := 2) sc__law_deep.nd rfl (by first | exact Or.inl rfl | exact Or.inr rfl) (de_tup da_nil)) (ds_cons (d_for PassesOwn.never rfl (pi_range1 rfl T.n_range (da_cons (de_op op_sub ad_sub (de_var (pv 1)) de_int) da_nil)) ai_range1 (pg_name (i := 3) sc__law_deep.nd rfl (by first | exact Or.inl rfl | exact Or.inr rfl)) (adT_name 3) (ds_one (d_set (i := 2) sc__law_deep.nd rfl (by first | exact Or.inl rfl | exact Or.inr rfl) (de_call H__law_pick hr (by rfl) T.m__law_pick T.k__law_pick T.b__law_pick pass0 (da_cons (de_var (pv 0)) (da_cons (de_lst (da_cons (de_tup (da_cons (de_var (pv 2)) da_nil)) (da_cons (de_tup (da_cons (de_var (pv 2)) (da_cons (de_call H__law_atom hr (by rfl) T.m__law_atom T.k__law_atom T.b__law_atom pass0 (da_cons (de_var (pv 0)) da_nil) (len_cons len_nil)) da_nil))) (da_cons (de_tup (da_cons (de_call H__law_atom hr (by rfl) T.m__law_atom T.k__law_atom T.b__law_atom pass0 (da_cons (de_var (pv 0)) da_nil) (len_cons len_nil)) (da_cons (de_var (pv 2)) da_nil))) (da_cons (de_tup (da_cons de_non (da_cons (de_var (pv 2)) (da_cons (de_tup da_nil) da_nil)))) da_nil))))) da_nil)) (len_cons (len_cons len_nil)))))) (ds_one (d_ret (de_var (pv 2))))))) (fun ds μ _ => runK_exit ds μ) runK_noex
theorem sc__law_number : FnScope ["bag"] ["bag"] (defScope s__law_number) := ⟨rfl, rfl, rfl, by decide +kernel, rfl, by decide +kernel, by decide +kernel⟩
theorem ok__law_number {k : Nat} (T : Txt K mg) {g__law_throw : GL} {g__law_pick : GL} (H__law_throw : FnOk P w K mg base CX0 k T.a__law_throw T.f__law_throw ["bag", "total"] (spF K 2 g__law_throw)) (H__law_pick : FnOk P w K mg base CX0 k T.a__law_pick T.f__law_pick ["bag", "items"] (spF K 2 g__law_pick)) : FnOk P w K mg base CX0 (k + 1) T.a__law_number T.f__law_number ["bag"] (spF K 1 (runK 1 (G__law_number g__law_throw g__law_pick))) :=
  def_ok (G := G__law_number g__law_throw g__law_pick) T.F__law_number sc__law_number rfl (fun cdv A outer s H E hr => (ds_one (d_ret (de_call H__law_pick hr (by rfl) T.m__law_pick T.k__law_pick T.b__law_pick pass0 (da_cons (de_var (pv 0)) (da_cons (de_lst (da_cons de_int (da_cons de_int (da_cons de_int (da_cons (de_un un_neg ad_neg de_int) (da_cons de_int (da_cons (de_call H__law_throw hr (by rfl) T.m__law_throw T.k__law_throw T.b__law_throw pass0 (da_cons (de_var (pv 0)) (da_cons de_int da_nil)) (len_cons (len_cons len_nil))) (da_cons (de_op op_sub ad_sub (de_op o_pow ad_pow de_int de_int) de_int) (da_cons (de_op op_sub ad_sub de_int (de_op o_pow ad_pow de_int de_int)) (da_cons (de_un un_neg ad_neg (de_call H__law_throw hr (by rfl) T.m__law_throw T.k__law_throw T.b__law_throw pass0 (da_cons (de_var (pv 0)) (da_cons (de_op o_pow ad_pow de_int de_int) da_nil)) (len_cons (len_cons len_nil)))) da_nil)))))))))) da_nil)) (len_cons (len_cons len_nil)))))) (fun ds μ _ => runK_exit ds μ) runK_noex
theorem sc__law_stand : FnScope ["bag", "size", "rows", "j", "i", "classes", "turn", "shapes"] ["bag"] (defScope s__law_stand) := ⟨rfl, rfl, rfl, by decide +kernel, rfl, by decide +kernel, by decide +kernel⟩
theorem ok__law_stand {k : Nat} (T : Txt K mg) {g__law_pick : GL} {g__law_number : GL} {g__law_throw : GL} {g__law_shape : GL} {g__law_deep : GL} (H__law_pick : FnOk P w K mg base CX0 k T.a__law_pick T.f__law_pick ["bag", "items"] (spF K 2 g__law_pick)) (H__law_number : FnOk P w K mg base CX0 k T.a__law_number T.f__law_number ["bag"] (spF K 1 g__law_number)) (H__law_throw : FnOk P w K mg base CX0 k T.a__law_throw T.f__law_throw ["bag", "total"] (spF K 2 g__law_throw)) (H__law_shape : FnOk P w K mg base CX0 k T.a__law_shape T.f__law_shape ["bag", "depth", "left"] (spF K 3 g__law_shape)) (H__law_deep : FnOk P w K mg base CX0 k T.a__law_deep T.f__law_deep ["bag", "depth"] (spF K 2 g__law_deep)) : FnOk P w K mg base CX0 (k + 1) T.a__law_stand T.f__law_stand ["bag"] (spF K 1 (runG 8 (G__law_stand g__law_pick g__law_number g__law_throw g__law_shape g__law_deep))) :=
  def_ok (G := G__law_stand g__law_pick g__law_number g__law_throw g__law_shape g__law_deep) T.F__law_stand sc__law_stand rfl (fun cdv A outer s H E hr => (ds_cons (d_set (i := 1) sc__law_stand.nd rfl (by first | exact Or.inl rfl | exact Or.inr rfl) (de_call H__law_pick hr (by rfl) T.m__law_pick T.k__law_pick T.b__law_pick pass0 (da_cons (de_var (pv 0)) (da_cons (de_lst (da_cons de_int (da_cons de_int (da_cons de_int (da_cons de_int (da_cons de_int (da_cons de_int (da_cons de_int (da_cons de_int (da_cons de_int da_nil)))))))))) da_nil)) (len_cons (len_cons len_nil)))) (ds_cons (d_setComp (i := 2) rfl sc__law_stand.nd rfl rfl (sw_true rfl rfl rfl (by decide +kernel)) (pi_range1 rfl T.n_range (da_cons (de_var (pv 1)) da_nil)) ai_range1 (own := [("i", 4)]) (blkOk_by (own := [("i", 4)]) (N := ["bag", "size", "rows", "j", "i", "classes", "turn", "shapes"]) (sc := defScope s__law_stand) (by decide +kernel)) (fun _ _ _ _ _ => (pg_name (i := 4) sc__law_stand.nd rfl (by first | exact Or.inl rfl | exact Or.inr rfl))) (adW_name (by decide)) (fun _ _ _ _ _ => dts_nil) (fun _ _ _ _ _ => (de_callTy (c_tuple rfl) ad_tuple (by rfl) T.n_tuple (by decide +kernel) (da_cons (de_comp rfl sc__law_stand.nd (pi_range1 rfl T.n_range (da_cons (de_var (pv 1)) da_nil)) ai_range1 (own := [("j", 3)]) (blkOk_by (own := [("j", 3)]) (N := ["bag", "size", "rows", "j", "i", "classes", "turn", "shapes"]) (by kernel_rfl)) (fun _ _ _ _ _ => (pg_name (i := 3) sc__law_stand.nd rfl (by first | exact Or.inl rfl | exact Or.inr rfl))) (adW_name (by decide)) (fun _ _ _ _ _ => dts_nil) (fun _ _ _ _ _ => (de_ifExp (dt_cmp op_lt (ad_cmp _) (de_var (pv 1)) de_int) (de_call H__law_number hr (by rfl) T.m__law_number T.k__law_number T.b__law_number pass0 (da_cons (de_var (pv 0)) da_nil) (len_cons len_nil)) (de_call H__law_throw hr (by rfl) T.m__law_throw T.k__law_throw T.b__law_throw pass0 (da_cons (de_var (pv 0)) (da_cons de_int da_nil)) (len_cons (len_cons len_nil)))))) da_nil)))) (ds_cons (d_set (i := 5) sc__law_stand.nd rfl (by first | exact Or.inl rfl | exact Or.inr rfl) (de_callTy (c_tuple rfl) ad_tuple (by rfl) T.n_tuple (by decide +kernel) (da_cons (de_comp rfl sc__law_stand.nd (pi_range1 rfl T.n_range (da_cons (de_call H__law_throw hr (by rfl) T.m__law_throw T.k__law_throw T.b__law_throw pass0 (da_cons (de_var (pv 0)) (da_cons de_int da_nil)) (len_cons (len_cons len_nil))) da_nil)) ai_range1 (own := [("turn", 6)]) (blkOk_by (own := [("turn", 6)]) (N := ["bag", "size", "rows", "j", "i", "classes", "turn", "shapes"]) (sc := defScope s__law_stand) (by decide +kernel)) (fun _ _ _ _ _ => (pg_name (i := 6) sc__law_stand.nd rfl (by first | exact Or.inl rfl | exact Or.inr rfl))) (adW_name (by decide)) (fun _ _ _ _ _ => dts_nil) (fun _ _ _ _ _ => (de_call H__law_number hr (by rfl) T.m__law_number T.k__law_number T.b__law_number pass0 (da_cons (de_var (pv 0)) da_nil) (len_cons len_nil)))) da_nil))) (ds_cons (d_setCompM (i := 7) rfl sc__law_stand.nd rfl rfl (sw_true rfl rfl rfl (by decide +kernel)) (pi_range1 rfl T.n_range (da_cons de_int da_nil)) ai_range1 (own := [("turn", 6)]) (blkOk_by (own := [("turn", 6)]) (N := ["bag", "size", "rows", "j", "i", "classes", "turn", "shapes"]) (sc := defScope s__law_stand) (by decide +kernel)) (fun _ _ _ _ _ => (pg_name (i := 6) sc__law_stand.nd rfl (by first | exact Or.inl rfl | exact Or.inr rfl))) (adW_name (by decide)) (fun _ _ _ _ _ => dts_nil) (fun _ _ _ _ _ => (de_call H__law_shape hr (by rfl) T.m__law_shape T.k__law_shape T.b__law_shape pass0 (da_cons (de_var (pv 0)) (da_cons (de_op o_add ad_add de_int (de_call H__law_throw hr (by rfl) T.m__law_throw T.k__law_throw T.b__law_throw pass0 (da_cons (de_var (pv 0)) (da_cons de_int da_nil)) (len_cons (len_cons len_nil)))) (da_cons (de_mut (da_cons de_int da_nil)) da_nil))) (len_cons (len_cons (len_cons len_nil)))))) (ds_cons (d_if (dt_cmp (o_eqq hr.units) ad_eqq (de_call H__law_throw hr (by rfl) T.m__law_throw T.k__law_throw T.b__law_throw pass0 (da_cons (de_var (pv 0)) (da_cons de_int da_nil)) (len_cons (len_cons len_nil))) de_int) (ds_one (d_storeL (de_call H__law_deep hr (by rfl) T.m__law_deep T.k__law_deep T.b__law_deep pass0 (da_cons (de_var (pv 0)) (da_cons de_int da_nil)) (len_cons (len_cons len_nil))) (de_var (pv 7)) (de_call H__law_throw hr (by rfl) T.m__law_throw T.k__law_throw T.b__law_throw pass0 (da_cons (de_var (pv 0)) (da_cons de_int da_nil)) (len_cons (len_cons len_nil))))) ds_nil) (ds_one (d_ret (de_tup (da_cons (de_ix (de_var (pv 7)) de_int) (da_cons (de_ix (de_var (pv 7)) de_int) (da_cons (de_var (pv 5)) (da_cons (de_callTy (c_tuple rfl) ad_tuple (by rfl) T.n_tuple (by decide +kernel) (da_cons (de_var (pv 2)) da_nil)) da_nil))))))))))))) (fun ds μ _ => runG_exit ds μ) runG_noex
theorem sc__law_stands : FnScope ["bag", "most", "turn"] ["bag", "most"] (defScope s__law_stands) := ⟨rfl, rfl, rfl, by decide +kernel, rfl, by decide +kernel, by decide +kernel⟩
theorem ok__law_stands {k : Nat} (T : Txt K mg) {g__law_throw : GL} {g__law_stand : GL} (H__law_throw : FnOk P w K mg base CX0 k T.a__law_throw T.f__law_throw ["bag", "total"] (spF K 2 g__law_throw)) (H__law_stand : FnOk P w K mg base CX0 k T.a__law_stand T.f__law_stand ["bag"] (spF K 1 g__law_stand)) : FnOk P w K mg base CX0 (k + 1) T.a__law_stands T.f__law_stands ["bag", "most"] (spF K 2 (runK 3 (G__law_stands g__law_throw g__law_stand))) :=
  def_ok (G := G__law_stands g__law_throw g__law_stand) T.F__law_stands sc__law_stands rfl (fun cdv A outer s H E hr => (ds_one (d_ret (de_callTy (c_tuple rfl) ad_tuple (by rfl) T.n_tuple (by decide +kernel) (da_cons (de_comp rfl sc__law_stands.nd (pi_range1 rfl T.n_range (da_cons (de_call H__law_throw hr (by rfl) T.m__law_throw T.k__law_throw T.b__law_throw pass0 (da_cons (de_var (pv 0)) (da_cons (de_op o_add ad_add (de_var (pv 1)) de_int) da_nil)) (len_cons (len_cons len_nil))) da_nil)) ai_range1 (own := [("turn", 2)]) (blkOk_by (own := [("turn", 2)]) (N := ["bag", "most", "turn"]) (sc := defScope s__law_stands) (by decide +kernel)) (fun _ _ _ _ _ => (pg_name (i := 2) sc__law_stands.nd rfl (by first | exact Or.inl rfl | exact Or.inr rfl))) (adW_name (by decide)) (fun _ _ _ _ _ => dts_nil) (fun _ _ _ _ _ => (de_call H__law_stand hr (by rfl) T.m__law_stand T.k__law_stand T.b__law_stand pass0 (da_cons (de_var (pv 0)) da_nil) (len_cons len_nil)))) da_nil))))) (fun ds μ _ => runK_exit ds μ) runK_noex
theorem sc__law_paper : FnScope ["bag", "events", "late", "turn"] ["bag"] (defScope s__law_paper) := ⟨rfl, rfl, rfl, by decide +kernel, rfl, by decide +kernel, by decide +kernel⟩
theorem ok__law_paper {k : Nat} (T : Txt K mg) {g__law_throw : GL} {g__law_stands : GL} {g__law_layout : GL} {g__law_pick : GL} {g__law_tape : GL} (H__law_throw : FnOk P w K mg base CX0 k T.a__law_throw T.f__law_throw ["bag", "total"] (spF K 2 g__law_throw)) (H__law_stands : FnOk P w K mg base CX0 k T.a__law_stands T.f__law_stands ["bag", "most"] (spF K 2 g__law_stands)) (H__law_layout : FnOk P w K mg base CX0 k T.a__law_layout T.f__law_layout ["bag", "sources", "letters"] (spF K 3 g__law_layout)) (H__law_pick : FnOk P w K mg base CX0 k T.a__law_pick T.f__law_pick ["bag", "items"] (spF K 2 g__law_pick)) (H__law_tape : FnOk P w K mg base CX0 k T.a__law_tape T.f__law_tape ["bag", "layout", "most", "gap"] (spF K 4 g__law_tape)) : FnOk P w K mg base CX0 (k + 1) T.a__law_paper T.f__law_paper ["bag"] (spF K 1 (runK 4 (G__law_paper g__law_throw g__law_stands g__law_layout g__law_pick g__law_tape))) :=
  def_ok (G := G__law_paper g__law_throw g__law_stands g__law_layout g__law_pick g__law_tape) T.F__law_paper sc__law_paper rfl (fun cdv A outer s H E hr => (ds_cons (d_if (dt_cmp (o_eqq hr.units) ad_eqq (de_call H__law_throw hr (by rfl) T.m__law_throw T.k__law_throw T.b__law_throw pass0 (da_cons (de_var (pv 0)) (da_cons de_int da_nil)) (len_cons (len_cons len_nil))) de_int) (ds_one (d_ret (de_tup (da_cons de_str (da_cons (de_call H__law_stands hr (by rfl) T.m__law_stands T.k__law_stands T.b__law_stands pass0 (da_cons (de_var (pv 0)) (da_cons de_int da_nil)) (len_cons (len_cons len_nil))) da_nil))))) ds_nil) (ds_cons (d_asg (de_call H__law_tape hr (by rfl) T.m__law_tape T.k__law_tape T.b__law_tape pass0 (da_cons (de_var (pv 0)) (da_cons (de_call H__law_layout hr (by rfl) T.m__law_layout T.k__law_layout T.b__law_layout pass0 (da_cons (de_var (pv 0)) (da_cons de_int (da_cons de_int da_nil))) (len_cons (len_cons (len_cons len_nil)))) (da_cons de_int (da_cons (de_call H__law_pick hr (by rfl) T.m__law_pick T.k__law_pick T.b__law_pick pass0 (da_cons (de_var (pv 0)) (da_cons (de_lst (da_cons de_int (da_cons de_int (da_cons (de_op o_pow ad_pow de_int de_int) da_nil)))) da_nil)) (len_cons (len_cons len_nil))) da_nil)))) (len_cons (len_cons (len_cons (len_cons len_nil))))) (pg_tup rfl (pgs_cons (pg_name (i := 1) sc__law_paper.nd rfl (by first | exact Or.inl rfl | exact Or.inr rfl)) (pgs_cons (pg_name (i := 2) sc__law_paper.nd rfl (by first | exact Or.inl rfl | exact Or.inr rfl)) pgs_nil))) (adT_tup (adT_cons (adT_name 1) (adT_cons (adT_name 2) adT_nil)))) (ds_one (d_ret (de_tup (da_cons de_str (da_cons (de_var (pv 1)) (da_cons (de_var (pv 2)) (da_cons (de_callTy (c_tuple rfl) ad_tuple (by rfl) T.n_tuple (by decide +kernel) (da_cons (de_comp rfl sc__law_paper.nd (pi_range1 rfl T.n_range (da_cons (de_callB call_len ad_len (by rfl) T.n_len PySem.boot_len (da_cons (de_var (pv 1)) da_nil)) da_nil)) ai_range1 (own := [("turn", 3)]) (blkOk_by (own := [("turn", 3)]) (N := ["bag", "events", "late", "turn"]) (sc := defScope s__law_paper) (by decide +kernel)) (fun _ _ _ _ _ => (pg_name (i := 3) sc__law_paper.nd rfl (by first | exact Or.inl rfl | exact Or.inr rfl))) (adW_name (by decide)) (fun _ _ _ _ _ => dts_nil) (fun _ _ _ _ _ => (de_call H__law_stands hr (by rfl) T.m__law_stands T.k__law_stands T.b__law_stands pass0 (da_cons (de_var (pv 0)) (da_cons de_int da_nil)) (len_cons (len_cons len_nil))))) da_nil)) da_nil)))))))))) (fun ds μ _ => runK_exit ds μ) runK_noex
theorem sc__law_text : FnScope ["value", "item"] ["value"] (defScope s__law_text) := ⟨rfl, rfl, rfl, by decide +kernel, rfl, by decide +kernel, by decide +kernel⟩
theorem ok__law_text {k : Nat} (T : Txt K mg) {g__law_text : GL} (H__law_text : FnOk P w K mg base CX0 k T.a__law_text T.f__law_text ["value"] (spF K 1 g__law_text)) : FnOk P w K mg base CX0 (k + 1) T.a__law_text T.f__law_text ["value"] (spF K 1 (runK 2 (G__law_text g__law_text))) :=
  def_ok (G := G__law_text g__law_text) T.F__law_text sc__law_text rfl (fun cdv A outer s H E hr => (ds_cons (d_if (dt_not (dt_tru (de_callB call_isi ad_isi (by rfl) T.n_isinstance (by decide +kernel) (da_cons (de_var (pv 0)) (da_cons (de_ty (pe_bltn (by rfl) T.n_tuple (by decide +kernel) rfl)) da_nil))))) (ds_one (d_ret (de_ifExp (dt_cmp op_isN ad_isN (de_var (pv 0)) de_non) de_str (de_callTy c_str ad_str (by rfl) T.n_str (by decide +kernel) (da_cons (de_var (pv 0)) da_nil))))) ds_nil) (ds_one (d_ret (de_op o_add ad_add (de_op o_add ad_add de_str (de_bm PySem.F.plainAttrs_str PySem.F.slot_str_join PySem.F.type_str_join mt_join ad_join de_str (da_cons (de_comp rfl sc__law_text.nd (pi_tup (de_var (pv 0))) ai_tup (own := [("item", 1)]) (blkOk_by (own := [("item", 1)]) (N := ["value", "item"]) (sc := defScope s__law_text) (by decide +kernel)) (fun _ _ _ _ _ => (pg_name (i := 1) sc__law_text.nd rfl (by first | exact Or.inl rfl | exact Or.inr rfl))) (adW_name (by decide)) (fun _ _ _ _ _ => dts_nil) (fun _ _ _ _ _ => (de_call H__law_text hr (by rfl) T.m__law_text T.k__law_text T.b__law_text pass0 (da_cons (de_var (pv 1)) da_nil) (len_cons len_nil)))) da_nil))) de_str))))) (fun ds μ _ => runK_exit ds μ) runK_noex
theorem sc__law_lines : FnScope ["paper", "stand", "found", "time", "source", "letter", "value", "stands"] ["paper"] (defScope s__law_lines) := ⟨rfl, rfl, rfl, by decide +kernel, rfl, by decide +kernel, by decide +kernel⟩
theorem ok__law_lines {k : Nat} (T : Txt K mg) {g__law_text : GL} (H__law_text : FnOk P w K mg base CX0 k T.a__law_text T.f__law_text ["value"] (spF K 1 g__law_text)) : FnOk P w K mg base CX0 (k + 1) T.a__law_lines T.f__law_lines ["paper"] (spF K 1 (runG 8 (G__law_lines g__law_text))) :=
  def_ok (G := G__law_lines g__law_text) T.F__law_lines sc__law_lines rfl (fun cdv A outer s H E hr => (ds_cons (d_if (dt_cmp (o_eqq hr.units) ad_eqq (de_ix (de_var (pv 0)) de_int) de_str) (ds_one (d_ret (de_op o_add ad_add (de_lst (da_cons de_str da_nil)) (de_comp rfl sc__law_lines.nd (pi_tup (de_ix (de_var (pv 0)) de_int)) ai_tup (own := [("stand", 1)]) (blkOk_by (own := [("stand", 1)]) (N := ["paper", "stand", "found", "time", "source", "letter", "value", "stands"]) (sc := defScope s__law_lines) (by decide +kernel)) (fun _ _ _ _ _ => (pg_name (i := 1) sc__law_lines.nd rfl (by first | exact Or.inl rfl | exact Or.inr rfl))) (adW_name (by decide)) (fun _ _ _ _ _ => dts_nil) (fun _ _ _ _ _ => (de_call H__law_text hr (by rfl) T.m__law_text T.k__law_text T.b__law_text pass0 (da_cons (de_var (pv 1)) da_nil) (len_cons len_nil))))))) ds_nil) (ds_cons (d_set (i := 2) sc__law_lines.nd rfl (by first | exact Or.inl rfl | exact Or.inr rfl) (de_mut (da_cons de_str da_nil))) (ds_cons (d_for PassesOwn.never rfl (pi_tup (de_ix (de_var (pv 0)) de_int)) ai_tup (pg_tup rfl (pgs_cons (pg_name (i := 3) sc__law_lines.nd rfl (by first | exact Or.inl rfl | exact Or.inr rfl)) (pgs_cons (pg_name (i := 4) sc__law_lines.nd rfl (by first | exact Or.inl rfl | exact Or.inr rfl)) (pgs_cons (pg_name (i := 5) sc__law_lines.nd rfl (by first | exact Or.inl rfl | exact Or.inr rfl)) (pgs_cons (pg_name (i := 6) sc__law_lines.nd rfl (by first | exact Or.inl rfl | exact Or.inr rfl)) pgs_nil))))) (adT_tup (adT_cons (adT_name 3) (adT_cons (adT_name 4) (adT_cons (adT_name 5) (adT_cons (adT_name 6) adT_nil))))) (ds_one (d_expr (de_bm PySem.F.plainAttrs_list PySem.F.slot_list_append PySem.F.type_list_append mt_append ad_append (de_var (pv 2)) (da_cons (de_op o_add ad_add (de_op o_add ad_add (de_op o_add ad_add (de_op o_add ad_add (de_op o_add ad_add (de_op o_add ad_add (de_callTy c_str ad_str (by rfl) T.n_str (by decide +kernel) (da_cons (de_var (pv 3)) da_nil)) de_str) (de_var (pv 4))) de_str) (de_var (pv 5))) de_str) (de_callTy c_str ad_str (by rfl) T.n_str (by decide +kernel) (da_cons (de_var (pv 6)) da_nil))) da_nil))))) (ds_cons (d_expr (de_bm PySem.F.plainAttrs_list PySem.F.slot_list_append PySem.F.type_list_append mt_append ad_append (de_var (pv 2)) (da_cons (de_op o_add ad_add de_str (de_callTy c_str ad_str (by rfl) T.n_str (by decide +kernel) (da_cons (de_ix (de_var (pv 0)) de_int) da_nil))) da_nil))) (ds_cons (d_for PassesOwn.never rfl (pi_tup (de_ix (de_var (pv 0)) de_int)) ai_tup (pg_name (i := 7) sc__law_lines.nd rfl (by first | exact Or.inl rfl | exact Or.inr rfl)) (adT_name 7) (ds_cons (d_expr (de_bm PySem.F.plainAttrs_list PySem.F.slot_list_append PySem.F.type_list_append mt_append ad_append (de_var (pv 2)) (da_cons de_str da_nil))) (ds_one (d_expr (de_bm PySem.F.plainAttrs_list PySem.F.slot_list_extend PySem.F.type_list_extend mt_extend ad_extend (de_var (pv 2)) (da_cons (de_comp rfl sc__law_lines.nd (pi_tup (de_var (pv 7))) ai_tup (own := [("stand", 1)]) (blkOk_by (own := [("stand", 1)]) (N := ["paper", "stand", "found", "time", "source", "letter", "value", "stands"]) (sc := defScope s__law_lines) (by decide +kernel)) (fun _ _ _ _ _ => (pg_name (i := 1) sc__law_lines.nd rfl (by first | exact Or.inl rfl | exact Or.inr rfl))) (adW_name (by decide)) (fun _ _ _ _ _ => dts_nil) (fun _ _ _ _ _ => (de_call H__law_text hr (by rfl) T.m__law_text T.k__law_text T.b__law_text pass0 (da_cons (de_var (pv 1)) da_nil) (len_cons len_nil)))) da_nil)))))) (ds_one (d_ret (de_var (pv 2)))))))))) (fun ds μ _ => runG_exit ds μ) runG_noex
theorem sc__law_integer : FnScope ["value"] ["value"] (defScope s__law_integer) := ⟨rfl, rfl, rfl, by decide +kernel, rfl, by decide +kernel, by decide +kernel⟩
theorem ok__law_integer {k : Nat} (T : Txt K mg) : FnOk P w K mg base CX0 (k + 1) T.a__law_integer T.f__law_integer ["value"] (spF K 1 (runK 1 (G__law_integer))) :=
  def_ok (G := G__law_integer) T.F__law_integer sc__law_integer rfl (fun cdv A outer s H E hr => (ds_one (d_ret (de_and (de_callB call_isi ad_isi (by rfl) T.n_isinstance (by decide +kernel) (da_cons (de_var (pv 0)) (da_cons (de_ty (pe_bltn (by rfl) T.n_int (by decide +kernel) rfl)) da_nil))) (de_and (de_not (de_callB call_isi ad_isi (by rfl) T.n_isinstance (by decide +kernel) (da_cons (de_var (pv 0)) (da_cons (de_ty (pe_bltn (by rfl) T.n_bool (by decide +kernel) rfl)) da_nil)))) (de_one (de_cmp op_lt (ad_cmp _) (de_callB call_abs ad_abs (by rfl) T.n_abs (by decide +kernel) (da_cons (de_var (pv 0)) da_nil)) (de_op o_pow ad_pow de_int de_int)))))))) (fun ds μ _ => runK_exit ds μ) runK_noex
theorem sc__law_letters_alone : FnScope ["value", "most", "sign"] ["value", "most"] (defScope s__law_letters_alone) := ⟨rfl, rfl, rfl, by decide +kernel, rfl, by decide +kernel, by decide +kernel⟩
theorem ok__law_letters_alone {k : Nat} (T : Txt K mg) : FnOk P w K mg base CX0 (k + 1) T.a__law_letters_alone T.f__law_letters_alone ["value", "most"] (spF K 2 (runK 3 (G__law_letters_alone))) :=
  def_ok (G := G__law_letters_alone) T.F__law_letters_alone sc__law_letters_alone rfl (fun cdv A outer s H E hr => (ds_cons (d_if (dt_w (dw_or (dt_not (dt_tru (de_callB call_isi ad_isi (by rfl) T.n_isinstance (by decide +kernel) (da_cons (de_var (pv 0)) (da_cons (de_ty (pe_bltn (by rfl) T.n_str (by decide +kernel) rfl)) da_nil))))) (dw_or1 (dt_not (dt_chain op_le op_le (ad_cmp _) (ad_cmp _) de_int (de_callB call_len ad_len (by rfl) T.n_len PySem.boot_len (da_cons (de_var (pv 0)) da_nil)) (de_var (pv 1))))))) (ds_one (d_ret de_bl)) ds_nil) (ds_one (d_ret (de_cmp (o_eqq hr.units) ad_eqq (de_comp rfl sc__law_letters_alone.nd (pi_str (de_var (pv 0))) ai_str (own := [("sign", 2)]) (blkOk_by (own := [("sign", 2)]) (N := ["value", "most", "sign"]) (sc := defScope s__law_letters_alone) (by decide +kernel)) (fun _ _ _ _ _ => (pg_name (i := 2) sc__law_letters_alone.nd rfl (by first | exact Or.inl rfl | exact Or.inr rfl))) (adW_name (by decide)) (fun _ _ _ _ _ => (dts_one (dt_cmp o_notin (ad_in true) (de_var (pv 2)) de_str))) (fun _ _ _ _ _ => (de_var (pv 2)))) (de_lst da_nil)))))) (fun ds μ _ => runK_exit ds μ) runK_noex
theorem sc__law_has_text : FnScope ["value", "depth", "item"] ["value", "depth"] (defScope s__law_has_text) := ⟨rfl, rfl, rfl, by decide +kernel, rfl, by decide +kernel, by decide +kernel⟩
theorem ok__law_has_text {k : Nat} (T : Txt K mg) {g__law_has_text : GL} {g__law_integer : GL} {g__law_letters_alone : GL} (H__law_has_text : FnOk P w K mg base CX0 k T.a__law_has_text T.f__law_has_text ["value", "depth"] (spF K 2 g__law_has_text)) (H__law_integer : FnOk P w K mg base CX0 k T.a__law_integer T.f__law_integer ["value"] (spF K 1 g__law_integer)) (H__law_letters_alone : FnOk P w K mg base CX0 k T.a__law_letters_alone T.f__law_letters_alone ["value", "most"] (spF K 2 g__law_letters_alone)) : FnOk P w K mg base CX0 (k + 1) T.a__law_has_text T.f__law_has_text ["value", "depth"] (spF K 2 (runK 3 (G__law_has_text g__law_has_text g__law_integer g__law_letters_alone))) :=
  def_ok (G := G__law_has_text g__law_has_text g__law_integer g__law_letters_alone) T.F__law_has_text sc__law_has_text rfl (fun cdv A outer s H E hr => (ds_cons (d_if (dt_tru (de_callB call_isi ad_isi (by rfl) T.n_isinstance (by decide +kernel) (da_cons (de_var (pv 0)) (da_cons (de_ty (pe_bltn (by rfl) T.n_tuple (by decide +kernel) rfl)) da_nil)))) (ds_one (d_ret (de_and (de_cmp op_gt (ad_cmp _) (de_var (pv 1)) de_int) (de_one (de_cmp (o_eqq hr.units) ad_eqq (de_comp rfl sc__law_has_text.nd (pi_tup (de_var (pv 0))) ai_tup (own := [("item", 2)]) (blkOk_by (own := [("item", 2)]) (N := ["value", "depth", "item"]) (sc := defScope s__law_has_text) (by decide +kernel)) (fun _ _ _ _ _ => (pg_name (i := 2) sc__law_has_text.nd rfl (by first | exact Or.inl rfl | exact Or.inr rfl))) (adW_name (by decide)) (fun _ _ _ _ _ => (dts_one (dt_not (dt_tru (de_call H__law_has_text hr (by rfl) T.m__law_has_text T.k__law_has_text T.b__law_has_text pass0 (da_cons (de_var (pv 2)) (da_cons (de_op op_sub ad_sub (de_var (pv 1)) de_int) da_nil)) (len_cons (len_cons len_nil))))))) (fun _ _ _ _ _ => (de_var (pv 2)))) (de_lst da_nil)))))) ds_nil) (ds_one (d_ret (de_or (de_cmp op_isN ad_isN (de_var (pv 0)) de_non) (de_or (de_call H__law_integer hr (by rfl) T.m__law_integer T.k__law_integer T.b__law_integer pass0 (da_cons (de_var (pv 0)) da_nil) (len_cons len_nil)) (de_one (de_call H__law_letters_alone hr (by rfl) T.m__law_letters_alone T.k__law_letters_alone T.b__law_letters_alone pass0 (da_cons (de_var (pv 0)) (da_cons (de_op o_pow ad_pow de_int de_int) da_nil)) (len_cons (len_cons len_nil)))))))))) (fun ds μ _ => runK_exit ds μ) runK_noex
theorem sc__law_is_stand : FnScope ["value", "one", "rows", "row"] ["value"] (defScope s__law_is_stand) := ⟨rfl, rfl, rfl, by decide +kernel, rfl, by decide +kernel, by decide +kernel⟩
theorem ok__law_is_stand {k : Nat} (T : Txt K mg) {g__law_has_text : GL} {g__law_integer : GL} (H__law_has_text : FnOk P w K mg base CX0 k T.a__law_has_text T.f__law_has_text ["value", "depth"] (spF K 2 g__law_has_text)) (H__law_integer : FnOk P w K mg base CX0 k T.a__law_integer T.f__law_integer ["value"] (spF K 1 g__law_integer)) : FnOk P w K mg base CX0 (k + 1) T.a__law_is_stand T.f__law_is_stand ["value"] (spF K 1 (runK 4 (G__law_is_stand g__law_has_text g__law_integer))) :=
  def_ok (G := G__law_is_stand g__law_has_text g__law_integer) T.F__law_is_stand sc__law_is_stand rfl (fun cdv A outer s H E hr => (ds_cons (d_if (dt_w (dw_or (dt_not (dt_tru (de_callB call_isi ad_isi (by rfl) T.n_isinstance (by decide +kernel) (da_cons (de_var (pv 0)) (da_cons (de_ty (pe_bltn (by rfl) T.n_tuple (by decide +kernel) rfl)) da_nil))))) (dw_or (dt_cmp (o_nee hr.units) ad_nee (de_callB call_len ad_len (by rfl) T.n_len PySem.boot_len (da_cons (de_var (pv 0)) da_nil)) de_int) (dw_or1 (dt_not (dt_tru (de_call H__law_has_text hr (by rfl) T.m__law_has_text T.k__law_has_text T.b__law_has_text pass0 (da_cons (de_var (pv 0)) (da_cons de_int da_nil)) (len_cons (len_cons len_nil))))))))) (ds_one (d_ret de_bl)) ds_nil) (ds_cons (d_if (dt_w (dw_or (dt_not (dt_tru (de_callB call_isi ad_isi (by rfl) T.n_isinstance (by decide +kernel) (da_cons (de_ix (de_var (pv 0)) de_int) (da_cons (de_ty (pe_bltn (by rfl) T.n_tuple (by decide +kernel) rfl)) da_nil))))) (dw_or1 (dt_cmp (o_nee hr.units) ad_nee (de_comp rfl sc__law_is_stand.nd (pi_tup (de_ix (de_var (pv 0)) de_int)) ai_tup (own := [("one", 1)]) (blkOk_by (own := [("one", 1)]) (N := ["value", "one", "rows", "row"]) (sc := defScope s__law_is_stand) (by decide +kernel)) (fun _ _ _ _ _ => (pg_name (i := 1) sc__law_is_stand.nd rfl (by first | exact Or.inl rfl | exact Or.inr rfl))) (adW_name (by decide)) (fun _ _ _ _ _ => (dts_one (dt_not (dt_tru (de_call H__law_integer hr (by rfl) T.m__law_integer T.k__law_integer T.b__law_integer pass0 (da_cons (de_var (pv 1)) da_nil) (len_cons len_nil)))))) (fun _ _ _ _ _ => (de_var (pv 1)))) (de_lst da_nil))))) (ds_one (d_ret de_bl)) ds_nil) (ds_cons (d_set (i := 2) sc__law_is_stand.nd rfl (by first | exact Or.inl rfl | exact Or.inr rfl) (de_ix (de_var (pv 0)) de_int)) (ds_cons (d_if (dt_w (dw_or (dt_not (dt_tru (de_callB call_isi ad_isi (by rfl) T.n_isinstance (by decide +kernel) (da_cons (de_var (pv 2)) (da_cons (de_ty (pe_bltn (by rfl) T.n_tuple (by decide +kernel) rfl)) da_nil))))) (dw_or1 (dt_not (dt_chain op_le op_le (ad_cmp _) (ad_cmp _) de_int (de_callB call_len ad_len (by rfl) T.n_len PySem.boot_len (da_cons (de_var (pv 2)) da_nil)) de_int))))) (ds_one (d_ret de_bl)) ds_nil) (ds_cons (d_for PassesOwn.never rfl (pi_tup (de_var (pv 2))) ai_tup (pg_name (i := 3) sc__law_is_stand.nd rfl (by first | exact Or.inl rfl | exact Or.inr rfl)) (adT_name 3) (ds_one (d_if (dt_w (dw_or (dt_not (dt_tru (de_callB call_isi ad_isi (by rfl) T.n_isinstance (by decide +kernel) (da_cons (de_var (pv 3)) (da_cons (de_ty (pe_bltn (by rfl) T.n_tuple (by decide +kernel) rfl)) da_nil))))) (dw_or (dt_cmp (o_nee hr.units) ad_nee (de_callB call_len ad_len (by rfl) T.n_len PySem.boot_len (da_cons (de_var (pv 3)) da_nil)) (de_callB call_len ad_len (by rfl) T.n_len PySem.boot_len (da_cons (de_var (pv 2)) da_nil))) (dw_or1 (dt_cmp (o_nee hr.units) ad_nee (de_comp rfl sc__law_is_stand.nd (pi_tup (de_var (pv 3))) ai_tup (own := [("one", 1)]) (blkOk_by (own := [("one", 1)]) (N := ["value", "one", "rows", "row"]) (sc := defScope s__law_is_stand) (by decide +kernel)) (fun _ _ _ _ _ => (pg_name (i := 1) sc__law_is_stand.nd rfl (by first | exact Or.inl rfl | exact Or.inr rfl))) (adW_name (by decide)) (fun _ _ _ _ _ => (dts_one (dt_not (dt_tru (de_call H__law_integer hr (by rfl) T.m__law_integer T.k__law_integer T.b__law_integer pass0 (da_cons (de_var (pv 1)) da_nil) (len_cons len_nil)))))) (fun _ _ _ _ _ => (de_var (pv 1)))) (de_lst da_nil)))))) (ds_one (d_ret de_bl)) ds_nil))) (ds_one (d_ret de_bl)))))))) (fun ds μ _ => runK_exit ds μ) runK_noex
theorem sc__law_are_stands : FnScope ["value", "one"] ["value"] (defScope s__law_are_stands) := ⟨rfl, rfl, rfl, by decide +kernel, rfl, by decide +kernel, by decide +kernel⟩
theorem ok__law_are_stands {k : Nat} (T : Txt K mg) {g__law_is_stand : GL} (H__law_is_stand : FnOk P w K mg base CX0 k T.a__law_is_stand T.f__law_is_stand ["value"] (spF K 1 g__law_is_stand)) : FnOk P w K mg base CX0 (k + 1) T.a__law_are_stands T.f__law_are_stands ["value"] (spF K 1 (runK 2 (G__law_are_stands g__law_is_stand))) :=
  def_ok (G := G__law_are_stands g__law_is_stand) T.F__law_are_stands sc__law_are_stands rfl (fun cdv A outer s H E hr => (ds_one (d_ret (de_and (de_callB call_isi ad_isi (by rfl) T.n_isinstance (by decide +kernel) (da_cons (de_var (pv 0)) (da_cons (de_ty (pe_bltn (by rfl) T.n_tuple (by decide +kernel) rfl)) da_nil))) (de_one (de_cmp (o_eqq hr.units) ad_eqq (de_comp rfl sc__law_are_stands.nd (pi_tup (de_var (pv 0))) ai_tup (own := [("one", 1)]) (blkOk_by (own := [("one", 1)]) (N := ["value", "one"]) (sc := defScope s__law_are_stands) (by decide +kernel)) (fun _ _ _ _ _ => (pg_name (i := 1) sc__law_are_stands.nd rfl (by first | exact Or.inl rfl | exact Or.inr rfl))) (adW_name (by decide)) (fun _ _ _ _ _ => (dts_one (dt_not (dt_tru (de_call H__law_is_stand hr (by rfl) T.m__law_is_stand T.k__law_is_stand T.b__law_is_stand pass0 (da_cons (de_var (pv 1)) da_nil) (len_cons len_nil)))))) (fun _ _ _ _ _ => (de_var (pv 1)))) (de_lst da_nil))))))) (fun ds μ _ => runK_exit ds μ) runK_noex
theorem sc__law_is_event : FnScope ["value"] ["value"] (defScope s__law_is_event) := ⟨rfl, rfl, rfl, by decide +kernel, rfl, by decide +kernel, by decide +kernel⟩
theorem ok__law_is_event {k : Nat} (T : Txt K mg) {g__law_integer : GL} {g__law_letters_alone : GL} {g__law_words : GL} (H__law_integer : FnOk P w K mg base CX0 k T.a__law_integer T.f__law_integer ["value"] (spF K 1 g__law_integer)) (H__law_letters_alone : FnOk P w K mg base CX0 k T.a__law_letters_alone T.f__law_letters_alone ["value", "most"] (spF K 2 g__law_letters_alone)) (H__law_words : FnOk P w K mg base CX0 k T.a__law_words T.f__law_words [] (spF K 0 g__law_words)) : FnOk P w K mg base CX0 (k + 1) T.a__law_is_event T.f__law_is_event ["value"] (spF K 1 (runK 1 (G__law_is_event g__law_integer g__law_letters_alone g__law_words))) :=
  def_ok (G := G__law_is_event g__law_integer g__law_letters_alone g__law_words) T.F__law_is_event sc__law_is_event rfl (fun cdv A outer s H E hr => (ds_cons (d_if (dt_w (dw_or (dt_not (dt_tru (de_callB call_isi ad_isi (by rfl) T.n_isinstance (by decide +kernel) (da_cons (de_var (pv 0)) (da_cons (de_ty (pe_bltn (by rfl) T.n_tuple (by decide +kernel) rfl)) da_nil))))) (dw_or (dt_cmp (o_nee hr.units) ad_nee (de_callB call_len ad_len (by rfl) T.n_len PySem.boot_len (da_cons (de_var (pv 0)) da_nil)) de_int) (dw_or (dt_not (dt_tru (de_call H__law_integer hr (by rfl) T.m__law_integer T.k__law_integer T.b__law_integer pass0 (da_cons (de_ix (de_var (pv 0)) de_int) da_nil) (len_cons len_nil)))) (dw_or1 (dt_cmp op_lt (ad_cmp _) (de_ix (de_var (pv 0)) de_int) de_int)))))) (ds_one (d_ret de_bl)) ds_nil) (ds_cons (d_if (dt_w (dw_or (dt_not (dt_tru (de_call H__law_letters_alone hr (by rfl) T.m__law_letters_alone T.k__law_letters_alone T.b__law_letters_alone pass0 (da_cons (de_ix (de_var (pv 0)) de_int) (da_cons de_int da_nil)) (len_cons (len_cons len_nil))))) (dw_or1 (dt_cmp o_in (ad_in false) (de_ix (de_var (pv 0)) de_int) (de_call0 H__law_words hr (by rfl) T.m__law_words T.k__law_words T.b__law_words pass0))))) (ds_one (d_ret de_bl)) ds_nil) (ds_one (d_ret (de_and (de_call H__law_letters_alone hr (by rfl) T.m__law_letters_alone T.k__law_letters_alone T.b__law_letters_alone pass0 (da_cons (de_ix (de_var (pv 0)) de_int) (da_cons de_int da_nil)) (len_cons (len_cons len_nil))) (de_one (de_call H__law_integer hr (by rfl) T.m__law_integer T.k__law_integer T.b__law_integer pass0 (da_cons (de_ix (de_var (pv 0)) de_int) da_nil) (len_cons len_nil))))))))) (fun ds μ _ => runK_exit ds μ) runK_noex
theorem sc__law_is_paper : FnScope ["value", "events", "late", "rounds", "one", "times"] ["value"] (defScope s__law_is_paper) := ⟨rfl, rfl, rfl, by decide +kernel, rfl, by decide +kernel, by decide +kernel⟩
theorem ok__law_is_paper {k : Nat} (T : Txt K mg) {g__law_are_stands : GL} {g__law_is_event : GL} {g__law_integer : GL} (H__law_are_stands : FnOk P w K mg base CX0 k T.a__law_are_stands T.f__law_are_stands ["value"] (spF K 1 g__law_are_stands)) (H__law_is_event : FnOk P w K mg base CX0 k T.a__law_is_event T.f__law_is_event ["value"] (spF K 1 g__law_is_event)) (H__law_integer : FnOk P w K mg base CX0 k T.a__law_integer T.f__law_integer ["value"] (spF K 1 g__law_integer)) : FnOk P w K mg base CX0 (k + 1) T.a__law_is_paper T.f__law_is_paper ["value"] (spF K 1 (runK 6 (G__law_is_paper g__law_are_stands g__law_is_event g__law_integer))) :=
  def_ok (G := G__law_is_paper g__law_are_stands g__law_is_event g__law_integer) T.F__law_is_paper sc__law_is_paper rfl (fun cdv A outer s H E hr => (ds_cons (d_if (dt_w (dw_or (dt_not (dt_tru (de_callB call_isi ad_isi (by rfl) T.n_isinstance (by decide +kernel) (da_cons (de_var (pv 0)) (da_cons (de_ty (pe_bltn (by rfl) T.n_tuple (by decide +kernel) rfl)) da_nil))))) (dw_or (dt_cmp o_notin (ad_in true) (de_callB call_len ad_len (by rfl) T.n_len PySem.boot_len (da_cons (de_var (pv 0)) da_nil)) (de_tup (da_cons de_int (da_cons de_int da_nil)))) (dw_or1 (dt_cmp (o_nee hr.units) ad_nee (de_ix (de_var (pv 0)) de_int) (de_ix (de_lst (da_cons de_str (da_cons de_str (da_cons de_str (da_cons de_str da_nil))))) (de_op op_sub ad_sub (de_callB call_len ad_len (by rfl) T.n_len PySem.boot_len (da_cons (de_var (pv 0)) da_nil)) de_int))))))) (ds_one (d_ret de_bl)) ds_nil) (ds_cons (d_if (dt_cmp (o_eqq hr.units) ad_eqq (de_callB call_len ad_len (by rfl) T.n_len PySem.boot_len (da_cons (de_var (pv 0)) da_nil)) de_int) (ds_one (d_ret (de_call H__law_are_stands hr (by rfl) T.m__law_are_stands T.k__law_are_stands T.b__law_are_stands pass0 (da_cons (de_ix (de_var (pv 0)) de_int) da_nil) (len_cons len_nil)))) ds_nil) (ds_cons (d_asg (de_sl (de_var (pv 0)) (do_some de_int) do_none) (pg_tup rfl (pgs_cons (pg_name (i := 1) sc__law_is_paper.nd rfl (by first | exact Or.inl rfl | exact Or.inr rfl)) (pgs_cons (pg_name (i := 2) sc__law_is_paper.nd rfl (by first | exact Or.inl rfl | exact Or.inr rfl)) (pgs_cons (pg_name (i := 3) sc__law_is_paper.nd rfl (by first | exact Or.inl rfl | exact Or.inr rfl)) pgs_nil)))) (adT_tup (adT_cons (adT_name 1) (adT_cons (adT_name 2) (adT_cons (adT_name 3) adT_nil))))) (ds_cons (d_if (dt_w (dw_or (dt_not (dt_tru (de_callB call_isi ad_isi (by rfl) T.n_isinstance (by decide +kernel) (da_cons (de_var (pv 1)) (da_cons (de_ty (pe_bltn (by rfl) T.n_tuple (by decide +kernel) rfl)) da_nil))))) (dw_or1 (dt_cmp (o_nee hr.units) ad_nee (de_comp rfl sc__law_is_paper.nd (pi_tup (de_var (pv 1))) ai_tup (own := [("one", 4)]) (blkOk_by (own := [("one", 4)]) (N := ["value", "events", "late", "rounds", "one", "times"]) (sc := defScope s__law_is_paper) (by decide +kernel)) (fun _ _ _ _ _ => (pg_name (i := 4) sc__law_is_paper.nd rfl (by first | exact Or.inl rfl | exact Or.inr rfl))) (adW_name (by decide)) (fun _ _ _ _ _ => (dts_one (dt_not (dt_tru (de_call H__law_is_event hr (by rfl) T.m__law_is_event T.k__law_is_event T.b__law_is_event pass0 (da_cons (de_var (pv 4)) da_nil) (len_cons len_nil)))))) (fun _ _ _ _ _ => (de_var (pv 4)))) (de_lst da_nil))))) (ds_one (d_ret de_bl)) ds_nil) (ds_cons (d_set (i := 5) sc__law_is_paper.nd rfl (by first | exact Or.inl rfl | exact Or.inr rfl) (de_op o_add ad_add (de_lst (da_cons de_int da_nil)) (de_comp rfl sc__law_is_paper.nd (pi_tup (de_var (pv 1))) ai_tup (own := [("one", 4)]) (blkOk_by (own := [("one", 4)]) (N := ["value", "events", "late", "rounds", "one", "times"]) (sc := defScope s__law_is_paper) (by decide +kernel)) (fun _ _ _ _ _ => (pg_name (i := 4) sc__law_is_paper.nd rfl (by first | exact Or.inl rfl | exact Or.inr rfl))) (adW_name (by decide)) (fun _ _ _ _ _ => dts_nil) (fun _ _ _ _ _ => (de_ix (de_var (pv 4)) de_int))))) (ds_cons (d_if (dt_w (dw_or (dt_cmp (o_nee hr.units) ad_nee (de_var (pv 5)) (de_callB cr_sortedI ad_sortedI (by rfl) T.n_sorted (by decide +kernel) (da_cons (de_var (pv 5)) da_nil))) (dw_or (dt_not (dt_tru (de_call H__law_integer hr (by rfl) T.m__law_integer T.k__law_integer T.b__law_integer pass0 (da_cons (de_var (pv 2)) da_nil) (len_cons len_nil)))) (dw_or1 (dt_cmp op_lt (ad_cmp _) (de_var (pv 2)) (de_ix (de_var (pv 5)) (de_un un_neg ad_neg de_int))))))) (ds_one (d_ret de_bl)) ds_nil) (ds_cons (d_if (dt_w (dw_or (dt_not (dt_tru (de_callB call_isi ad_isi (by rfl) T.n_isinstance (by decide +kernel) (da_cons (de_var (pv 3)) (da_cons (de_ty (pe_bltn (by rfl) T.n_tuple (by decide +kernel) rfl)) da_nil))))) (dw_or1 (dt_cmp (o_nee hr.units) ad_nee (de_callB call_len ad_len (by rfl) T.n_len PySem.boot_len (da_cons (de_var (pv 3)) da_nil)) (de_callB call_len ad_len (by rfl) T.n_len PySem.boot_len (da_cons (de_var (pv 1)) da_nil)))))) (ds_one (d_ret de_bl)) ds_nil) (ds_one (d_ret (de_cmp (o_eqq hr.units) ad_eqq (de_comp rfl sc__law_is_paper.nd (pi_tup (de_var (pv 3))) ai_tup (own := [("one", 4)]) (blkOk_by (own := [("one", 4)]) (N := ["value", "events", "late", "rounds", "one", "times"]) (sc := defScope s__law_is_paper) (by decide +kernel)) (fun _ _ _ _ _ => (pg_name (i := 4) sc__law_is_paper.nd rfl (by first | exact Or.inl rfl | exact Or.inr rfl))) (adW_name (by decide)) (fun _ _ _ _ _ => (dts_one (dt_not (dt_tru (de_call H__law_are_stands hr (by rfl) T.m__law_are_stands T.k__law_are_stands T.b__law_are_stands pass0 (da_cons (de_var (pv 4)) da_nil) (len_cons len_nil)))))) (fun _ _ _ _ _ => (de_var (pv 4)))) (de_lst da_nil)))))))))))) (fun ds μ _ => runK_exit ds μ) runK_noex
theorem sc__law_spoilt : FnScope ["bag", "value", "odd", "spot", "rows"] ["bag", "value"] (defScope s__law_spoilt) := ⟨rfl, rfl, rfl, by decide +kernel, rfl, by decide +kernel, by decide +kernel⟩
theorem ok__law_spoilt {k : Nat} (T : Txt K mg) {g__law_pick : GL} {g__law_deep : GL} {g__law_throw : GL} {g__law_spoilt : GL} (H__law_pick : FnOk P w K mg base CX0 k T.a__law_pick T.f__law_pick ["bag", "items"] (spF K 2 g__law_pick)) (H__law_deep : FnOk P w K mg base CX0 k T.a__law_deep T.f__law_deep ["bag", "depth"] (spF K 2 g__law_deep)) (H__law_throw : FnOk P w K mg base CX0 k T.a__law_throw T.f__law_throw ["bag", "total"] (spF K 2 g__law_throw)) (H__law_spoilt : FnOk P w K mg base CX0 k T.a__law_spoilt T.f__law_spoilt ["bag", "value"] (spF K 2 g__law_spoilt)) : FnOk P w K mg base CX0 (k + 1) T.a__law_spoilt T.f__law_spoilt ["bag", "value"] (spF K 2 (runG 5 (G__law_spoilt g__law_pick g__law_deep g__law_throw g__law_spoilt))) :=
  def_ok (G := G__law_spoilt g__law_pick g__law_deep g__law_throw g__law_spoilt) T.F__law_spoilt sc__law_spoilt rfl (fun cdv A outer s H E hr => (ds_cons (d_set (i := 2) sc__law_spoilt.nd rfl (by first | exact Or.inl rfl | exact Or.inr rfl) (de_mut (da_cons de_non (da_cons de_bl (da_cons (de_un un_neg ad_neg de_int) (da_cons de_int (da_cons de_str (da_cons de_str (da_cons de_str (da_cons de_str (da_cons de_str (da_cons (de_op o_pow ad_pow de_int de_int) (da_cons (de_un un_neg ad_neg (de_op o_pow ad_pow de_int de_int)) (da_cons (de_tup da_nil) (da_cons (de_lst da_nil) (da_cons de_dnew (da_cons (de_tup (da_cons de_str da_nil)) (da_cons (de_tup (da_cons (de_tup (da_cons de_int da_nil)) da_nil)) da_nil)))))))))))))))))) (ds_cons (d_expr (de_bm PySem.F.plainAttrs_list PySem.F.slot_list_append PySem.F.type_list_append mt_append ad_append (de_var (pv 2)) (da_cons de_str da_nil))) (ds_cons (d_expr (de_bm PySem.F.plainAttrs_list PySem.F.slot_list_append PySem.F.type_list_append mt_append ad_append (de_var (pv 2)) (da_cons (de_call H__law_deep hr (by rfl) T.m__law_deep T.k__law_deep T.b__law_deep pass0 (da_cons (de_var (pv 0)) (da_cons (de_call H__law_pick hr (by rfl) T.m__law_pick T.k__law_pick T.b__law_pick pass0 (da_cons (de_var (pv 0)) (da_cons (de_lst (da_cons de_int (da_cons de_int (da_cons de_int da_nil)))) da_nil)) (len_cons (len_cons len_nil))) da_nil)) (len_cons (len_cons len_nil))) da_nil))) (ds_cons (d_if (dt_w (dw_and (dt_tru (de_callB call_isi ad_isi (by rfl) T.n_isinstance (by decide +kernel) (da_cons (de_var (pv 1)) (da_cons (de_ty (pe_bltn (by rfl) T.n_tuple (by decide +kernel) rfl)) da_nil)))) (dw_and (dt_cmp (o_nee hr.units) ad_nee (de_var (pv 1)) (de_tup da_nil)) (dw_and1 (dt_cmp op_gt (ad_cmp _) (de_call H__law_throw hr (by rfl) T.m__law_throw T.k__law_throw T.b__law_throw pass0 (da_cons (de_var (pv 0)) (da_cons de_int da_nil)) (len_cons (len_cons len_nil))) de_int))))) (ds_cons (d_set (i := 3) sc__law_spoilt.nd rfl (by first | exact Or.inl rfl | exact Or.inr rfl) (de_call H__law_throw hr (by rfl) T.m__law_throw T.k__law_throw T.b__law_throw pass0 (da_cons (de_var (pv 0)) (da_cons (de_callB call_len ad_len (by rfl) T.n_len PySem.boot_len (da_cons (de_var (pv 1)) da_nil)) da_nil)) (len_cons (len_cons len_nil)))) (ds_one (d_ret (de_op o_add ad_add (de_op o_add ad_add (de_sl (de_var (pv 1)) do_none (do_some (de_var (pv 3)))) (de_tup (da_cons (de_call H__law_spoilt hr (by rfl) T.m__law_spoilt T.k__law_spoilt T.b__law_spoilt pass0 (da_cons (de_var (pv 0)) (da_cons (de_ix (de_var (pv 1)) (de_var (pv 3))) da_nil)) (len_cons (len_cons len_nil))) da_nil))) (de_sl (de_var (pv 1)) (do_some (de_op o_add ad_add (de_var (pv 3)) de_int)) do_none))))) ds_nil) (ds_cons (d_if (dt_w (dw_and (dt_tru (de_callB call_isi ad_isi (by rfl) T.n_isinstance (by decide +kernel) (da_cons (de_var (pv 1)) (da_cons (de_ty (pe_bltn (by rfl) T.n_tuple (by decide +kernel) rfl)) da_nil)))) (dw_and1 (dt_cmp (o_eqq hr.units) ad_eqq (de_call H__law_throw hr (by rfl) T.m__law_throw T.k__law_throw T.b__law_throw pass0 (da_cons (de_var (pv 0)) (da_cons de_int da_nil)) (len_cons (len_cons len_nil))) de_int)))) (ds_cons (d_set (i := 4) sc__law_spoilt.nd rfl (by first | exact Or.inl rfl | exact Or.inr rfl) (de_lst (da_cons (de_callTy (c_list rfl) ad_list (by rfl) T.n_list (by decide +kernel) (da_cons (de_var (pv 1)) da_nil)) (da_cons (de_sl (de_var (pv 1)) (do_some de_int) do_none) (da_cons (de_sl (de_var (pv 1)) do_none (do_some (de_un un_neg ad_neg de_int))) (da_cons (de_op o_add ad_add (de_var (pv 1)) (de_sl (de_var (pv 1)) do_none (do_some de_int))) (da_cons (de_rev (de_var (pv 1))) (da_cons (de_op o_add ad_add (de_var (pv 1)) (de_tup (da_cons de_int da_nil))) (da_cons (de_tup (da_cons (de_var (pv 1)) da_nil)) da_nil))))))))) (ds_one (d_ret (de_call H__law_pick hr (by rfl) T.m__law_pick T.k__law_pick T.b__law_pick pass0 (da_cons (de_var (pv 0)) (da_cons (de_var (pv 4)) da_nil)) (len_cons (len_cons len_nil)))))) ds_nil) (ds_cons (d_if (dt_w (dw_and (dt_tru (de_callB call_isi ad_isi (by rfl) T.n_isinstance (by decide +kernel) (da_cons (de_var (pv 1)) (da_cons (de_ty (pe_bltn (by rfl) T.n_int (by decide +kernel) rfl)) da_nil)))) (dw_and1 (dt_cmp (o_eqq hr.units) ad_eqq (de_call H__law_throw hr (by rfl) T.m__law_throw T.k__law_throw T.b__law_throw pass0 (da_cons (de_var (pv 0)) (da_cons de_int da_nil)) (len_cons (len_cons len_nil))) de_int)))) (ds_one (d_ret (de_call H__law_pick hr (by rfl) T.m__law_pick T.k__law_pick T.b__law_pick pass0 (da_cons (de_var (pv 0)) (da_cons (de_lst (da_cons (de_op o_add ad_add (de_var (pv 1)) de_int) (da_cons (de_op op_sub ad_sub (de_var (pv 1)) de_int) (da_cons (de_un un_neg ad_neg (de_var (pv 1))) (da_cons (de_callTy c_str ad_str (by rfl) T.n_str (by decide +kernel) (da_cons (de_var (pv 1)) da_nil)) (da_cons (de_cmp (o_eqq hr.units) ad_eqq (de_var (pv 1)) de_int) (da_cons (de_lst (da_cons (de_var (pv 1)) da_nil)) da_nil))))))) da_nil)) (len_cons (len_cons len_nil))))) ds_nil) (ds_one (d_ret (de_call H__law_pick hr (by rfl) T.m__law_pick T.k__law_pick T.b__law_pick pass0 (da_cons (de_var (pv 0)) (da_cons (de_var (pv 2)) da_nil)) (len_cons (len_cons len_nil)))))))))))) (fun ds μ _ => runG_exit ds μ) runG_noex
theorem sc__law_case : FnScope ["bag", "paper"] ["bag"] (defScope s__law_case) := ⟨rfl, rfl, rfl, by decide +kernel, rfl, by decide +kernel, by decide +kernel⟩
theorem ok__law_case {k : Nat} (T : Txt K mg) {g__law_paper : GL} {g__law_is_paper : GL} {g__law_right : GL} {g__law_throw : GL} {g__law_spoilt : GL} (H__law_paper : FnOk P w K mg base CX0 k T.a__law_paper T.f__law_paper ["bag"] (spF K 1 g__law_paper)) (H__law_is_paper : FnOk P w K mg base CX0 k T.a__law_is_paper T.f__law_is_paper ["value"] (spF K 1 g__law_is_paper)) (H__law_right : FnG P w K mg base CX0 k T.a__law_right T.f__law_right ["value"] (spF K 1 g__law_right)) (H__law_throw : FnOk P w K mg base CX0 k T.a__law_throw T.f__law_throw ["bag", "total"] (spF K 2 g__law_throw)) (H__law_spoilt : FnOk P w K mg base CX0 k T.a__law_spoilt T.f__law_spoilt ["bag", "value"] (spF K 2 g__law_spoilt)) : FnG P w K mg base CX0 (k + 1) T.a__law_case T.f__law_case ["bag"] (spF K 1 (runK 2 (G__law_case g__law_paper g__law_is_paper g__law_right g__law_throw g__law_spoilt))) :=
  def_okG (G := G__law_case g__law_paper g__law_is_paper g__law_right g__law_throw g__law_spoilt) T.F__law_case sc__law_case rfl (fun cdv A outer s H E hr hgd => (ds_cons (d_set (i := 1) sc__law_case.nd rfl (by first | exact Or.inl rfl | exact Or.inr rfl) (de_call H__law_paper hr (by rfl) T.m__law_paper T.k__law_paper T.b__law_paper pass0 (da_cons (de_var (pv 0)) da_nil) (len_cons len_nil))) (ds_cons (d_if (dt_w (dw_or (dt_not (dt_tru (de_call H__law_is_paper hr (by rfl) T.m__law_is_paper T.k__law_is_paper T.b__law_is_paper pass0 (da_cons (de_var (pv 1)) da_nil) (len_cons len_nil)))) (dw_or1 (dt_not (dt_tru (de_callG H__law_right hr hgd (by rfl) T.m__law_right T.k__law_right T.b__law_right (da_cons (de_var (pv 1)) da_nil) (len_cons len_nil))))))) (ds_one (d_ret de_bl)) ds_nil) (ds_one (d_ret (de_or (de_cmp (o_eqq hr.units) ad_eqq (de_call H__law_throw hr (by rfl) T.m__law_throw T.k__law_throw T.b__law_throw pass0 (da_cons (de_var (pv 0)) (da_cons de_int da_nil)) (len_cons (len_cons len_nil))) de_int) (de_one (de_callG H__law_right hr hgd (by rfl) T.m__law_right T.k__law_right T.b__law_right (da_cons (de_call H__law_spoilt hr (by rfl) T.m__law_spoilt T.k__law_spoilt T.b__law_spoilt pass0 (da_cons (de_var (pv 0)) (da_cons (de_var (pv 1)) da_nil)) (len_cons (len_cons len_nil))) da_nil) (len_cons len_nil))))))))) (fun ds μ _ => runK_exit ds μ) runK_noex
theorem sc_law : FnScope ["script", "written", "wide", "row", "value", "at"] ["script"] (defScope s_law) := ⟨rfl, rfl, rfl, by decide +kernel, rfl, by decide +kernel, by decide +kernel⟩
theorem ok_law {k : Nat} (T : Txt K mg) {g__law_right : GL} {g__law_start : GL} {g__law_case : GL} (H__law_right : FnG P w K mg base CX0 k T.a__law_right T.f__law_right ["value"] (spF K 1 g__law_right)) (H__law_start : FnOk P w K mg base CX0 k T.a__law_start T.f__law_start ["script", "at"] (spF K 2 g__law_start)) (H__law_case : FnG P w K mg base CX0 k T.a__law_case T.f__law_case ["bag"] (spF K 1 g__law_case)) : FnG P w K mg base CX0 (k + 1) T.a_law T.f_law ["script"] (spF K 1 (runG 6 (G_law g__law_right g__law_start g__law_case))) :=
  def_okG (G := G_law g__law_right g__law_start g__law_case) T.F_law sc_law rfl (fun cdv A outer s H E hr hgd => (ds_cons (d_set (i := 1) sc_law.nd rfl (by first | exact Or.inl rfl | exact Or.inr rfl) (de_mut (da_cons de_non (da_cons (de_tup da_nil) (da_cons (de_lst da_nil) (da_cons de_str (da_cons (de_tup (da_cons de_str da_nil)) (da_cons (de_tup (da_cons de_str (da_cons (de_tup da_nil) da_nil))) (da_cons (de_tup (da_cons de_str (da_cons (de_tup da_nil) (da_cons de_int (da_cons (de_tup da_nil) da_nil))))) (da_cons (de_tup (da_cons de_str (da_cons (de_tup da_nil) (da_cons de_int da_nil)))) (da_cons (de_tup (da_cons de_str (da_cons (de_tup da_nil) (da_cons de_int (da_cons (de_tup (da_cons (de_tup da_nil) da_nil)) da_nil))))) da_nil))))))))))) (ds_cons (d_set (i := 2) sc_law.nd rfl (by first | exact Or.inl rfl | exact Or.inr rfl) (de_callTy (c_tuple rfl) ad_tuple (by rfl) T.n_tuple (by decide +kernel) (da_cons (de_op o_rep ad_rep (de_lst (da_cons (de_op o_rep ad_rep (de_tup (da_cons de_int da_nil)) de_int) da_nil)) de_int) da_nil))) (ds_cons (d_expr (de_bm PySem.F.plainAttrs_list PySem.F.slot_list_append PySem.F.type_list_append mt_append ad_append (de_var (pv 1)) (da_cons (de_tup (da_cons de_str (da_cons (de_tup (da_cons (de_tup (da_cons de_str (da_cons de_str (da_cons (de_tup da_nil) (da_cons (de_var (pv 2)) da_nil))))) (da_cons (de_tup (da_cons (de_callTy (c_tuple rfl) ad_tuple (by rfl) T.n_tuple (by decide +kernel) (da_cons de_str da_nil)) (da_cons de_str (da_cons (de_tup da_nil) (da_cons (de_tup (da_cons (de_tup (da_cons de_int da_nil)) da_nil)) da_nil))))) da_nil))) da_nil))) da_nil))) (ds_cons (d_expr (de_bm PySem.F.plainAttrs_list PySem.F.slot_list_append PySem.F.type_list_append mt_append ad_append (de_var (pv 1)) (da_cons (de_tup (da_cons de_str (da_cons (de_tup (da_cons (de_tup (da_cons (de_callTy (c_tuple rfl) ad_tuple (by rfl) T.n_tuple (by decide +kernel) (da_cons de_str da_nil)) (da_cons de_str (da_cons (de_tup da_nil) (da_cons (de_tup (da_cons (de_tup (da_cons de_int da_nil)) da_nil)) da_nil))))) da_nil)) da_nil))) da_nil))) (ds_cons (d_expr (de_bm PySem.F.plainAttrs_list PySem.F.slot_list_append PySem.F.type_list_append mt_append ad_append (de_var (pv 1)) (da_cons (de_tup (da_cons de_str (da_cons (de_tup (da_cons (de_tup (da_cons de_str (da_cons de_str (da_cons (de_tup da_nil) (da_cons (de_callTy (c_tuple rfl) ad_tuple (by rfl) T.n_tuple (by decide +kernel) (da_cons (de_comp rfl sc_law.nd (pi_tup (de_sl (de_var (pv 2)) do_none (do_some de_int))) ai_tup (own := [("row", 3)]) (blkOk_by (own := [("row", 3)]) (N := ["script", "written", "wide", "row", "value", "at"]) (sc := defScope s_law) (by decide +kernel)) (fun _ _ _ _ _ => (pg_name (i := 3) sc_law.nd rfl (by first | exact Or.inl rfl | exact Or.inr rfl))) (adW_name (by decide)) (fun _ _ _ _ _ => dts_nil) (fun _ _ _ _ _ => (de_sl (de_var (pv 3)) do_none (do_some de_int)))) da_nil)) da_nil))))) da_nil)) da_nil))) da_nil))) (ds_cons (d_for PassesOwn.never rfl (pi_list (de_op o_add ad_addM (de_var (pv 1)) (de_lst (da_cons (de_tup (da_cons de_str (da_cons (de_lst da_nil) (da_cons (de_tup da_nil) da_nil)))) (da_cons (de_tup (da_cons de_str (da_cons (de_tup da_nil) (da_cons de_int (da_cons (de_tup da_nil) (da_cons (de_tup da_nil) da_nil)))))) (da_cons (de_tup (da_cons de_str (da_cons de_non da_nil))) (da_cons de_dnew (da_cons (de_tup (da_cons de_str (da_cons (de_tup da_nil) (da_cons (de_un un_neg ad_neg de_int) (da_cons (de_tup da_nil) da_nil))))) da_nil)))))))) ai_lst (pg_name (i := 4) sc_law.nd rfl (by first | exact Or.inl rfl | exact Or.inr rfl)) (adT_name 4) (ds_one (d_if (dt_not (dt_tru (de_callG H__law_right hr hgd (by rfl) T.m__law_right T.k__law_right T.b__law_right (da_cons (de_var (pv 4)) da_nil) (len_cons len_nil)))) (ds_one (d_ret de_bl)) ds_nil))) (ds_cons (d_for PassesOwn.never rfl (pi_range1 rfl T.n_range (da_cons (de_callB (call_min2 rfl) ad_min2 (by rfl) T.n_min (by decide +kernel) (da_cons (de_callB (call_max2 rfl) ad_max2 (by rfl) T.n_max (by decide +kernel) (da_cons de_int (da_cons (de_callB call_len ad_len (by rfl) T.n_len PySem.boot_len (da_cons (de_var (pv 0)) da_nil)) da_nil))) (da_cons de_int da_nil))) da_nil)) ai_range1 (pg_name (i := 5) sc_law.nd rfl (by first | exact Or.inl rfl | exact Or.inr rfl)) (adT_name 5) (ds_one (d_if (dt_not (dt_tru (de_callG H__law_case hr hgd (by rfl) T.m__law_case T.k__law_case T.b__law_case (da_cons (de_call H__law_start hr (by rfl) T.m__law_start T.k__law_start T.b__law_start pass0 (da_cons (de_var (pv 0)) (da_cons (de_var (pv 5)) da_nil)) (len_cons (len_cons len_nil))) da_nil) (len_cons len_nil)))) (ds_one (d_ret de_bl)) ds_nil))) (ds_one (d_ret de_bl)))))))))) (fun ds μ _ => runG_exit ds μ) runG_noex
end K49
namespace K49
open PySem PySem.Spec PyProof.Rows L2 FL RZ L2H HotX
set_option autoImplicit false
variable {P : Program} {w : World} {K : PySem.W.Frag} {mg : Str → Option Value} {base : Heap}
theorem okH__law_words {k : Nat} (T : Txt K mg) : FnH P w K mg base CX0 (k + 1) T.a__law_words T.f__law_words [] (spF K 0 (runK 1 (G__law_words))) :=
  def_okH (G := G__law_words) T.F__law_words sc__law_words rfl (fun cdv A outer s H E p hot hr => (ds_cons (d_set (i := 0) sc__law_words.nd rfl (by first | exact Or.inl rfl | exact Or.inr rfl) (de_lst (da_cons de_str (da_cons de_str (da_cons de_str (da_cons de_str (da_cons de_str (da_cons de_str (da_cons de_str (da_cons de_str (da_cons de_str (da_cons de_str (da_cons de_str (da_cons de_str (da_cons de_str da_nil))))))))))))))) (ds_one (d_ret (de_op o_add ad_add (de_var (pv 0)) (de_lst (da_cons de_str (da_cons de_str (da_cons de_str (da_cons de_str (da_cons de_str (da_cons de_str (da_cons de_str (da_cons de_str (da_cons de_str (da_cons de_str da_nil)))))))))))))))) (fun ds μ _ => runK_exit ds μ) runK_noex
theorem okH__law_integer {k : Nat} (T : Txt K mg) : FnH P w K mg base CX0 (k + 1) T.a__law_integer T.f__law_integer ["value"] (spF K 1 (runK 1 (G__law_integer))) :=
  def_okH (G := G__law_integer) T.F__law_integer sc__law_integer rfl (fun cdv A outer s H E p hot hr => (ds_one (d_ret (de_and (de_callB call_isi ad_isi (by rfl) T.n_isinstance (by decide +kernel) (da_cons (de_var (pv 0)) (da_cons (de_ty (pe_bltn (by rfl) T.n_int (by decide +kernel) rfl)) da_nil))) (de_and (de_not (de_callB call_isi ad_isi (by rfl) T.n_isinstance (by decide +kernel) (da_cons (de_var (pv 0)) (da_cons (de_ty (pe_bltn (by rfl) T.n_bool (by decide +kernel) rfl)) da_nil)))) (de_one (de_cmp op_lt (ad_cmp _) (de_callB call_abs ad_abs (by rfl) T.n_abs (by decide +kernel) (da_cons (de_var (pv 0)) da_nil)) (de_op o_pow ad_pow de_int de_int)))))))) (fun ds μ _ => runK_exit ds μ) runK_noex
theorem okH__law_letters_alone {k : Nat} (T : Txt K mg) : FnH P w K mg base CX0 (k + 1) T.a__law_letters_alone T.f__law_letters_alone ["value", "most"] (spF K 2 (runK 3 (G__law_letters_alone))) :=
  def_okH (G := G__law_letters_alone) T.F__law_letters_alone sc__law_letters_alone rfl (fun cdv A outer s H E p hot hr => (ds_cons (d_if (dt_w (dw_or (dt_not (dt_tru (de_callB call_isi ad_isi (by rfl) T.n_isinstance (by decide +kernel) (da_cons (de_var (pv 0)) (da_cons (de_ty (pe_bltn (by rfl) T.n_str (by decide +kernel) rfl)) da_nil))))) (dw_or1 (dt_not (dt_chain op_le op_le (ad_cmp _) (ad_cmp _) de_int (de_callB call_len ad_len (by rfl) T.n_len PySem.boot_len (da_cons (de_var (pv 0)) da_nil)) (de_var (pv 1))))))) (ds_one (d_ret de_bl)) ds_nil) (ds_one (d_ret (de_cmp (o_eqq (unitsH hr)) ad_eqq (de_compH hot (List.mem_singleton.mpr rfl) sc__law_letters_alone.nd (pi_strH (de_var (pv 0))) ai_str (own := [("sign", 2)]) (blkOk_by (own := [("sign", 2)]) (N := ["value", "most", "sign"]) (sc := defScope s__law_letters_alone) (by decide +kernel)) (fun _ _ _ _ _ => (pg_name (i := 2) sc__law_letters_alone.nd rfl (by first | exact Or.inl rfl | exact Or.inr rfl))) (adW_name (by decide)) (fun _ _ _ _ _ => (dts_one (dt_cmp o_notin (ad_in true) (de_var (pv 2)) de_str))) (fun _ _ _ _ _ => (de_var (pv 2)))) (de_lst da_nil)))))) (fun ds μ _ => runK_exit ds μ) runK_noex
theorem okH__law_has_text {k : Nat} (T : Txt K mg) {g__law_has_text : GL} {g__law_integer : GL} {g__law_letters_alone : GL} (H__law_has_text : FnH P w K mg base CX0 k T.a__law_has_text T.f__law_has_text ["value", "depth"] (spF K 2 g__law_has_text)) (H__law_integer : FnH P w K mg base CX0 k T.a__law_integer T.f__law_integer ["value"] (spF K 1 g__law_integer)) (H__law_letters_alone : FnH P w K mg base CX0 k T.a__law_letters_alone T.f__law_letters_alone ["value", "most"] (spF K 2 g__law_letters_alone)) : FnH P w K mg base CX0 (k + 1) T.a__law_has_text T.f__law_has_text ["value", "depth"] (spF K 2 (runK 3 (G__law_has_text g__law_has_text g__law_integer g__law_letters_alone))) :=
  def_okH (G := G__law_has_text g__law_has_text g__law_integer g__law_letters_alone) T.F__law_has_text sc__law_has_text rfl (fun cdv A outer s H E p hot hr => (ds_cons (d_if (dt_tru (de_callB call_isi ad_isi (by rfl) T.n_isinstance (by decide +kernel) (da_cons (de_var (pv 0)) (da_cons (de_ty (pe_bltn (by rfl) T.n_tuple (by decide +kernel) rfl)) da_nil)))) (ds_one (d_ret (de_and (de_cmp op_gt (ad_cmp _) (de_var (pv 1)) de_int) (de_one (de_cmp (o_eqq (unitsH hr)) ad_eqq (de_compH hot (List.mem_singleton.mpr rfl) sc__law_has_text.nd (pi_tupH (de_var (pv 0))) ai_tup (own := [("item", 2)]) (blkOk_by (own := [("item", 2)]) (N := ["value", "depth", "item"]) (sc := defScope s__law_has_text) (by decide +kernel)) (fun _ _ _ _ _ => (pg_name (i := 2) sc__law_has_text.nd rfl (by first | exact Or.inl rfl | exact Or.inr rfl))) (adW_name (by decide)) (fun _ _ _ _ _ => (dts_one (dt_not (dt_tru (de_callH H__law_has_text hr ⟨p, hot, (List.mem_singleton.mpr rfl)⟩ (by rfl) T.m__law_has_text T.k__law_has_text T.b__law_has_text (da_cons (de_var (pv 2)) (da_cons (de_op op_sub ad_sub (de_var (pv 1)) de_int) da_nil)) (len_cons (len_cons len_nil))))))) (fun _ _ _ _ _ => (de_var (pv 2)))) (de_lst da_nil)))))) ds_nil) (ds_one (d_ret (de_or (de_cmp op_isN ad_isN (de_var (pv 0)) de_non) (de_or (de_callH H__law_integer hr ⟨p, hot, (List.mem_singleton.mpr rfl)⟩ (by rfl) T.m__law_integer T.k__law_integer T.b__law_integer (da_cons (de_var (pv 0)) da_nil) (len_cons len_nil)) (de_one (de_callH H__law_letters_alone hr ⟨p, hot, (List.mem_singleton.mpr rfl)⟩ (by rfl) T.m__law_letters_alone T.k__law_letters_alone T.b__law_letters_alone (da_cons (de_var (pv 0)) (da_cons (de_op o_pow ad_pow de_int de_int) da_nil)) (len_cons (len_cons len_nil)))))))))) (fun ds μ _ => runK_exit ds μ) runK_noex
theorem okH__law_is_stand {k : Nat} (T : Txt K mg) {g__law_has_text : GL} {g__law_integer : GL} (H__law_has_text : FnH P w K mg base CX0 k T.a__law_has_text T.f__law_has_text ["value", "depth"] (spF K 2 g__law_has_text)) (H__law_integer : FnH P w K mg base CX0 k T.a__law_integer T.f__law_integer ["value"] (spF K 1 g__law_integer)) : FnH P w K mg base CX0 (k + 1) T.a__law_is_stand T.f__law_is_stand ["value"] (spF K 1 (runK 4 (G__law_is_stand g__law_has_text g__law_integer))) :=
  def_okH (G := G__law_is_stand g__law_has_text g__law_integer) T.F__law_is_stand sc__law_is_stand rfl (fun cdv A outer s H E p hot hr => (ds_cons (d_if (dt_w (dw_or (dt_not (dt_tru (de_callB call_isi ad_isi (by rfl) T.n_isinstance (by decide +kernel) (da_cons (de_var (pv 0)) (da_cons (de_ty (pe_bltn (by rfl) T.n_tuple (by decide +kernel) rfl)) da_nil))))) (dw_or (dt_cmp (o_nee (unitsH hr)) ad_nee (de_callB call_len ad_len (by rfl) T.n_len PySem.boot_len (da_cons (de_var (pv 0)) da_nil)) de_int) (dw_or1 (dt_not (dt_tru (de_callH H__law_has_text hr ⟨p, hot, (List.mem_singleton.mpr rfl)⟩ (by rfl) T.m__law_has_text T.k__law_has_text T.b__law_has_text (da_cons (de_var (pv 0)) (da_cons de_int da_nil)) (len_cons (len_cons len_nil))))))))) (ds_one (d_ret de_bl)) ds_nil) (ds_cons (d_if (dt_w (dw_or (dt_not (dt_tru (de_callB call_isi ad_isi (by rfl) T.n_isinstance (by decide +kernel) (da_cons (de_ix (de_var (pv 0)) de_int) (da_cons (de_ty (pe_bltn (by rfl) T.n_tuple (by decide +kernel) rfl)) da_nil))))) (dw_or1 (dt_cmp (o_nee (unitsH hr)) ad_nee (de_compH hot (List.mem_singleton.mpr rfl) sc__law_is_stand.nd (pi_tupH (de_ix (de_var (pv 0)) de_int)) ai_tup (own := [("one", 1)]) (blkOk_by (own := [("one", 1)]) (N := ["value", "one", "rows", "row"]) (sc := defScope s__law_is_stand) (by decide +kernel)) (fun _ _ _ _ _ => (pg_name (i := 1) sc__law_is_stand.nd rfl (by first | exact Or.inl rfl | exact Or.inr rfl))) (adW_name (by decide)) (fun _ _ _ _ _ => (dts_one (dt_not (dt_tru (de_callH H__law_integer hr ⟨p, hot, (List.mem_singleton.mpr rfl)⟩ (by rfl) T.m__law_integer T.k__law_integer T.b__law_integer (da_cons (de_var (pv 1)) da_nil) (len_cons len_nil)))))) (fun _ _ _ _ _ => (de_var (pv 1)))) (de_lst da_nil))))) (ds_one (d_ret de_bl)) ds_nil) (ds_cons (d_set (i := 2) sc__law_is_stand.nd rfl (by first | exact Or.inl rfl | exact Or.inr rfl) (de_ix (de_var (pv 0)) de_int)) (ds_cons (d_if (dt_w (dw_or (dt_not (dt_tru (de_callB call_isi ad_isi (by rfl) T.n_isinstance (by decide +kernel) (da_cons (de_var (pv 2)) (da_cons (de_ty (pe_bltn (by rfl) T.n_tuple (by decide +kernel) rfl)) da_nil))))) (dw_or1 (dt_not (dt_chain op_le op_le (ad_cmp _) (ad_cmp _) de_int (de_callB call_len ad_len (by rfl) T.n_len PySem.boot_len (da_cons (de_var (pv 2)) da_nil)) de_int))))) (ds_one (d_ret de_bl)) ds_nil) (ds_cons (d_forH PassesOwn.never ⟨p, hot, (List.mem_singleton.mpr rfl)⟩ (pi_tupH (de_var (pv 2))) ai_tup (pg_name (i := 3) sc__law_is_stand.nd rfl (by first | exact Or.inl rfl | exact Or.inr rfl)) (adT_name 3) (ds_one (d_if (dt_w (dw_or (dt_not (dt_tru (de_callB call_isi ad_isi (by rfl) T.n_isinstance (by decide +kernel) (da_cons (de_var (pv 3)) (da_cons (de_ty (pe_bltn (by rfl) T.n_tuple (by decide +kernel) rfl)) da_nil))))) (dw_or (dt_cmp (o_nee (unitsH hr)) ad_nee (de_callB call_len ad_len (by rfl) T.n_len PySem.boot_len (da_cons (de_var (pv 3)) da_nil)) (de_callB call_len ad_len (by rfl) T.n_len PySem.boot_len (da_cons (de_var (pv 2)) da_nil))) (dw_or1 (dt_cmp (o_nee (unitsH hr)) ad_nee (de_compH hot (List.mem_singleton.mpr rfl) sc__law_is_stand.nd (pi_tupH (de_var (pv 3))) ai_tup (own := [("one", 1)]) (blkOk_by (own := [("one", 1)]) (N := ["value", "one", "rows", "row"]) (sc := defScope s__law_is_stand) (by decide +kernel)) (fun _ _ _ _ _ => (pg_name (i := 1) sc__law_is_stand.nd rfl (by first | exact Or.inl rfl | exact Or.inr rfl))) (adW_name (by decide)) (fun _ _ _ _ _ => (dts_one (dt_not (dt_tru (de_callH H__law_integer hr ⟨p, hot, (List.mem_singleton.mpr rfl)⟩ (by rfl) T.m__law_integer T.k__law_integer T.b__law_integer (da_cons (de_var (pv 1)) da_nil) (len_cons len_nil)))))) (fun _ _ _ _ _ => (de_var (pv 1)))) (de_lst da_nil)))))) (ds_one (d_ret de_bl)) ds_nil))) (ds_one (d_ret de_bl)))))))) (fun ds μ _ => runK_exit ds μ) runK_noex
theorem okH__law_are_stands {k : Nat} (T : Txt K mg) {g__law_is_stand : GL} (H__law_is_stand : FnH P w K mg base CX0 k T.a__law_is_stand T.f__law_is_stand ["value"] (spF K 1 g__law_is_stand)) : FnH P w K mg base CX0 (k + 1) T.a__law_are_stands T.f__law_are_stands ["value"] (spF K 1 (runK 2 (G__law_are_stands g__law_is_stand))) :=
  def_okH (G := G__law_are_stands g__law_is_stand) T.F__law_are_stands sc__law_are_stands rfl (fun cdv A outer s H E p hot hr => (ds_one (d_ret (de_and (de_callB call_isi ad_isi (by rfl) T.n_isinstance (by decide +kernel) (da_cons (de_var (pv 0)) (da_cons (de_ty (pe_bltn (by rfl) T.n_tuple (by decide +kernel) rfl)) da_nil))) (de_one (de_cmp (o_eqq (unitsH hr)) ad_eqq (de_compH hot (List.mem_singleton.mpr rfl) sc__law_are_stands.nd (pi_tupH (de_var (pv 0))) ai_tup (own := [("one", 1)]) (blkOk_by (own := [("one", 1)]) (N := ["value", "one"]) (sc := defScope s__law_are_stands) (by decide +kernel)) (fun _ _ _ _ _ => (pg_name (i := 1) sc__law_are_stands.nd rfl (by first | exact Or.inl rfl | exact Or.inr rfl))) (adW_name (by decide)) (fun _ _ _ _ _ => (dts_one (dt_not (dt_tru (de_callH H__law_is_stand hr ⟨p, hot, (List.mem_singleton.mpr rfl)⟩ (by rfl) T.m__law_is_stand T.k__law_is_stand T.b__law_is_stand (da_cons (de_var (pv 1)) da_nil) (len_cons len_nil)))))) (fun _ _ _ _ _ => (de_var (pv 1)))) (de_lst da_nil))))))) (fun ds μ _ => runK_exit ds μ) runK_noex
theorem okH__law_is_event {k : Nat} (T : Txt K mg) {g__law_integer : GL} {g__law_letters_alone : GL} {g__law_words : GL} (H__law_integer : FnH P w K mg base CX0 k T.a__law_integer T.f__law_integer ["value"] (spF K 1 g__law_integer)) (H__law_letters_alone : FnH P w K mg base CX0 k T.a__law_letters_alone T.f__law_letters_alone ["value", "most"] (spF K 2 g__law_letters_alone)) (H__law_words : FnH P w K mg base CX0 k T.a__law_words T.f__law_words [] (spF K 0 g__law_words)) : FnH P w K mg base CX0 (k + 1) T.a__law_is_event T.f__law_is_event ["value"] (spF K 1 (runK 1 (G__law_is_event g__law_integer g__law_letters_alone g__law_words))) :=
  def_okH (G := G__law_is_event g__law_integer g__law_letters_alone g__law_words) T.F__law_is_event sc__law_is_event rfl (fun cdv A outer s H E p hot hr => (ds_cons (d_if (dt_w (dw_or (dt_not (dt_tru (de_callB call_isi ad_isi (by rfl) T.n_isinstance (by decide +kernel) (da_cons (de_var (pv 0)) (da_cons (de_ty (pe_bltn (by rfl) T.n_tuple (by decide +kernel) rfl)) da_nil))))) (dw_or (dt_cmp (o_nee (unitsH hr)) ad_nee (de_callB call_len ad_len (by rfl) T.n_len PySem.boot_len (da_cons (de_var (pv 0)) da_nil)) de_int) (dw_or (dt_not (dt_tru (de_callH H__law_integer hr ⟨p, hot, (List.mem_singleton.mpr rfl)⟩ (by rfl) T.m__law_integer T.k__law_integer T.b__law_integer (da_cons (de_ix (de_var (pv 0)) de_int) da_nil) (len_cons len_nil)))) (dw_or1 (dt_cmp op_lt (ad_cmp _) (de_ix (de_var (pv 0)) de_int) de_int)))))) (ds_one (d_ret de_bl)) ds_nil) (ds_cons (d_if (dt_w (dw_or (dt_not (dt_tru (de_callH H__law_letters_alone hr ⟨p, hot, (List.mem_singleton.mpr rfl)⟩ (by rfl) T.m__law_letters_alone T.k__law_letters_alone T.b__law_letters_alone (da_cons (de_ix (de_var (pv 0)) de_int) (da_cons de_int da_nil)) (len_cons (len_cons len_nil))))) (dw_or1 (dt_cmp o_in (ad_in false) (de_ix (de_var (pv 0)) de_int) (de_callH0 H__law_words hr ⟨p, hot, (List.mem_singleton.mpr rfl)⟩ (by rfl) T.m__law_words T.k__law_words T.b__law_words))))) (ds_one (d_ret de_bl)) ds_nil) (ds_one (d_ret (de_and (de_callH H__law_letters_alone hr ⟨p, hot, (List.mem_singleton.mpr rfl)⟩ (by rfl) T.m__law_letters_alone T.k__law_letters_alone T.b__law_letters_alone (da_cons (de_ix (de_var (pv 0)) de_int) (da_cons de_int da_nil)) (len_cons (len_cons len_nil))) (de_one (de_callH H__law_integer hr ⟨p, hot, (List.mem_singleton.mpr rfl)⟩ (by rfl) T.m__law_integer T.k__law_integer T.b__law_integer (da_cons (de_ix (de_var (pv 0)) de_int) da_nil) (len_cons len_nil))))))))) (fun ds μ _ => runK_exit ds μ) runK_noex
theorem okH__law_is_paper {k : Nat} (T : Txt K mg) {g__law_are_stands : GL} {g__law_is_event : GL} {g__law_integer : GL} (H__law_are_stands : FnH P w K mg base CX0 k T.a__law_are_stands T.f__law_are_stands ["value"] (spF K 1 g__law_are_stands)) (H__law_is_event : FnH P w K mg base CX0 k T.a__law_is_event T.f__law_is_event ["value"] (spF K 1 g__law_is_event)) (H__law_integer : FnH P w K mg base CX0 k T.a__law_integer T.f__law_integer ["value"] (spF K 1 g__law_integer)) : FnH P w K mg base CX0 (k + 1) T.a__law_is_paper T.f__law_is_paper ["value"] (spF K 1 (runK 6 (G__law_is_paper g__law_are_stands g__law_is_event g__law_integer))) :=
  def_okH (G := G__law_is_paper g__law_are_stands g__law_is_event g__law_integer) T.F__law_is_paper sc__law_is_paper rfl (fun cdv A outer s H E p hot hr => (ds_cons (d_if (dt_w (dw_or (dt_not (dt_tru (de_callB call_isi ad_isi (by rfl) T.n_isinstance (by decide +kernel) (da_cons (de_var (pv 0)) (da_cons (de_ty (pe_bltn (by rfl) T.n_tuple (by decide +kernel) rfl)) da_nil))))) (dw_or (dt_cmp o_notin (ad_in true) (de_callB call_len ad_len (by rfl) T.n_len PySem.boot_len (da_cons (de_var (pv 0)) da_nil)) (de_tup (da_cons de_int (da_cons de_int da_nil)))) (dw_or1 (dt_cmp (o_nee (unitsH hr)) ad_nee (de_ix (de_var (pv 0)) de_int) (de_ix (de_lst (da_cons de_str (da_cons de_str (da_cons de_str (da_cons de_str da_nil))))) (de_op op_sub ad_sub (de_callB call_len ad_len (by rfl) T.n_len PySem.boot_len (da_cons (de_var (pv 0)) da_nil)) de_int))))))) (ds_one (d_ret de_bl)) ds_nil) (ds_cons (d_if (dt_cmp (o_eqq (unitsH hr)) ad_eqq (de_callB call_len ad_len (by rfl) T.n_len PySem.boot_len (da_cons (de_var (pv 0)) da_nil)) de_int) (ds_one (d_ret (de_callH H__law_are_stands hr ⟨p, hot, (List.mem_singleton.mpr rfl)⟩ (by rfl) T.m__law_are_stands T.k__law_are_stands T.b__law_are_stands (da_cons (de_ix (de_var (pv 0)) de_int) da_nil) (len_cons len_nil)))) ds_nil) (ds_cons (d_asg (de_sl (de_var (pv 0)) (do_some de_int) do_none) (pg_tupH ⟨p, hot, (List.mem_singleton.mpr rfl)⟩ (pgs_cons (pg_name (i := 1) sc__law_is_paper.nd rfl (by first | exact Or.inl rfl | exact Or.inr rfl)) (pgs_cons (pg_name (i := 2) sc__law_is_paper.nd rfl (by first | exact Or.inl rfl | exact Or.inr rfl)) (pgs_cons (pg_name (i := 3) sc__law_is_paper.nd rfl (by first | exact Or.inl rfl | exact Or.inr rfl)) pgs_nil)))) (adT_tup (adT_cons (adT_name 1) (adT_cons (adT_name 2) (adT_cons (adT_name 3) adT_nil))))) (ds_cons (d_if (dt_w (dw_or (dt_not (dt_tru (de_callB call_isi ad_isi (by rfl) T.n_isinstance (by decide +kernel) (da_cons (de_var (pv 1)) (da_cons (de_ty (pe_bltn (by rfl) T.n_tuple (by decide +kernel) rfl)) da_nil))))) (dw_or1 (dt_cmp (o_nee (unitsH hr)) ad_nee (de_compH hot (List.mem_singleton.mpr rfl) sc__law_is_paper.nd (pi_tupH (de_var (pv 1))) ai_tup (own := [("one", 4)]) (blkOk_by (own := [("one", 4)]) (N := ["value", "events", "late", "rounds", "one", "times"]) (sc := defScope s__law_is_paper) (by decide +kernel)) (fun _ _ _ _ _ => (pg_name (i := 4) sc__law_is_paper.nd rfl (by first | exact Or.inl rfl | exact Or.inr rfl))) (adW_name (by decide)) (fun _ _ _ _ _ => (dts_one (dt_not (dt_tru (de_callH H__law_is_event hr ⟨p, hot, (List.mem_singleton.mpr rfl)⟩ (by rfl) T.m__law_is_event T.k__law_is_event T.b__law_is_event (da_cons (de_var (pv 4)) da_nil) (len_cons len_nil)))))) (fun _ _ _ _ _ => (de_var (pv 4)))) (de_lst da_nil))))) (ds_one (d_ret de_bl)) ds_nil) (ds_cons (d_set (i := 5) sc__law_is_paper.nd rfl (by first | exact Or.inl rfl | exact Or.inr rfl) (de_op o_add ad_add (de_lst (da_cons de_int da_nil)) (de_compH hot (List.mem_singleton.mpr rfl) sc__law_is_paper.nd (pi_tupH (de_var (pv 1))) ai_tup (own := [("one", 4)]) (blkOk_by (own := [("one", 4)]) (N := ["value", "events", "late", "rounds", "one", "times"]) (sc := defScope s__law_is_paper) (by decide +kernel)) (fun _ _ _ _ _ => (pg_name (i := 4) sc__law_is_paper.nd rfl (by first | exact Or.inl rfl | exact Or.inr rfl))) (adW_name (by decide)) (fun _ _ _ _ _ => dts_nil) (fun _ _ _ _ _ => (de_ix (de_var (pv 4)) de_int))))) (ds_cons (d_if (dt_w (dw_or (dt_cmp (o_nee (unitsH hr)) ad_nee (de_var (pv 5)) (de_callB cr_sortedI ad_sortedI (by rfl) T.n_sorted (by decide +kernel) (da_cons (de_var (pv 5)) da_nil))) (dw_or (dt_not (dt_tru (de_callH H__law_integer hr ⟨p, hot, (List.mem_singleton.mpr rfl)⟩ (by rfl) T.m__law_integer T.k__law_integer T.b__law_integer (da_cons (de_var (pv 2)) da_nil) (len_cons len_nil)))) (dw_or1 (dt_cmp op_lt (ad_cmp _) (de_var (pv 2)) (de_ix (de_var (pv 5)) (de_un un_neg ad_neg de_int))))))) (ds_one (d_ret de_bl)) ds_nil) (ds_cons (d_if (dt_w (dw_or (dt_not (dt_tru (de_callB call_isi ad_isi (by rfl) T.n_isinstance (by decide +kernel) (da_cons (de_var (pv 3)) (da_cons (de_ty (pe_bltn (by rfl) T.n_tuple (by decide +kernel) rfl)) da_nil))))) (dw_or1 (dt_cmp (o_nee (unitsH hr)) ad_nee (de_callB call_len ad_len (by rfl) T.n_len PySem.boot_len (da_cons (de_var (pv 3)) da_nil)) (de_callB call_len ad_len (by rfl) T.n_len PySem.boot_len (da_cons (de_var (pv 1)) da_nil)))))) (ds_one (d_ret de_bl)) ds_nil) (ds_one (d_ret (de_cmp (o_eqq (unitsH hr)) ad_eqq (de_compH hot (List.mem_singleton.mpr rfl) sc__law_is_paper.nd (pi_tupH (de_var (pv 3))) ai_tup (own := [("one", 4)]) (blkOk_by (own := [("one", 4)]) (N := ["value", "events", "late", "rounds", "one", "times"]) (sc := defScope s__law_is_paper) (by decide +kernel)) (fun _ _ _ _ _ => (pg_name (i := 4) sc__law_is_paper.nd rfl (by first | exact Or.inl rfl | exact Or.inr rfl))) (adW_name (by decide)) (fun _ _ _ _ _ => (dts_one (dt_not (dt_tru (de_callH H__law_are_stands hr ⟨p, hot, (List.mem_singleton.mpr rfl)⟩ (by rfl) T.m__law_are_stands T.k__law_are_stands T.b__law_are_stands (da_cons (de_var (pv 4)) da_nil) (len_cons len_nil)))))) (fun _ _ _ _ _ => (de_var (pv 4)))) (de_lst da_nil)))))))))))) (fun ds μ _ => runK_exit ds μ) runK_noex
end K49
namespace K49
open PySem PySem.Spec PyProof.Rows L2 FL
set_option autoImplicit false
def G_paper_lines (g_value_text : GL) (g_event_text : GL) : FY := (ySeq (yY (fBin gIx (fVar 0) (fC (.int 0)))) (ySeq (yIf (fB (fBin gEqq (fBin gIx (fVar 0) (fC (.int 0))) (fC (.str "list")))) (ySeq (yFor (fItT (fBin gIx (fVar 0) (fC (.int 1)))) (tgN 1) (ySeq (yY (fCall g_value_text (fCons (fVar 1) fNil))) yNx)) (ySeq (yPl gNone) yNx)) yNx) (ySeq (yFor (fItT (fBin gIx (fVar 0) (fC (.int 1)))) (tgN 2) (ySeq (yY (fCall g_event_text (fCons (fVar 2) fNil))) yNx)) (ySeq (yPl (gSet (fBin gIx (fVar 0) (fC (.int 2))) (tgN 3))) (ySeq (yY (fJs [(fFmt (fC (.str "until"))), (fC (.str " ")), (fFmt (fVar 3))] Str.empty)) (ySeq (yFor (fItT (fBin gIx (fVar 0) (fC (.int 3)))) (tgN 4) (ySeq (yY (fC (.str "round"))) (ySeq (yFor (fItT (fVar 4)) (tgN 1) (ySeq (yY (fCall g_value_text (fCons (fVar 1) fNil))) yNx)) yNx))) yNx))))))
def G_write_paper (cI : Addr) (g_has_paper_form g_paper_lines : GL) : FS := (gSeq (gIf (fNot (fTru (fCall g_has_paper_form (fCons (fVar 0) fNil)))) (gRaise cI) gNx) (gRet (fJoinY (fC (.str "\n")) g_paper_lines (fCons (fVar 0) fNil))))
def H_right (cP cE : Addr) (g__law_is_paper : GL) (a : Addr) : FS := (gRet (fAndV (fNotV (fCall g__law_is_paper (fCons (fVar 0) fNil))) (fAndV (fCall (gIsE a cP true) (fCons (fVar 2) (fCons (fC (.cls cP)) fNil))) (fNotV (fCall (gIsE a cE false) (fCons (fVar 2) (fCons (fC (.cls cE)) fNil)))))))
def G__law_right (cI cP cE : Addr) (g_write_paper g__law_is_paper g__law_lines g_read_paper : GL) : FS := (gSeq (gTryCall 1 g_write_paper (fCons (fVar 0) fNil) cI 2 (H_right cP cE g__law_is_paper)) (gSeq (gIf (fOr (fNot (fTru (fCall g__law_is_paper (fCons (fVar 0) fNil)))) (fOr (fNot (fTru (fCall gIsi (fCons (fVar 1) (fCons (fC (.ty "str")) fNil))))) (fB (fBin gNee (fVar 1) (fMeth "str" gJoin (fC (.str "\n")) (fCons (fCall g__law_lines (fCons (fVar 0) fNil)) fNil)))))) (gRet (fC (.bl false))) gNx) (gRet (fAndV (fBin gEqq (fCall gRepr (fCons (fCall g_read_paper (fCons (fVar 1) fNil)) fNil)) (fCall gRepr (fCons (fVar 0) fNil))) (fBin gEqq (fCall gRepr (fCons (fCall g_read_paper (fCons (fVar 1) fNil)) fNil)) (fCall gRepr (fCons (fVar 0) fNil)))))))
noncomputable def stepS (cI cP cE : Addr) (S : Gs) : Gs where
  is_integer := runK 1 (G_is_integer)
  is_time := runK 1 (G_is_time S.is_integer)
  is_letter := runK 1 (G_is_letter)
  is_name := runK 2 (G_is_name)
  is_event := runK 1 (G_is_event S.is_time S.is_name S.is_letter S.is_integer)
  are_events := runK 3 (G_are_events S.is_event)
  last_time := runK 1 (G_last_time)
  are_rows := runK 3 (G_are_rows S.is_integer)
  words_in := runG 4 (G_words_in)
  is_word := runK 2 (G_is_word)
  can_be_written := runK 3 (G_can_be_written S.is_integer S.is_word S.can_be_written)
  has_stand_form := runK 5 (G_has_stand_form S.can_be_written S.is_integer S.are_rows)
  are_stand_forms := runK 2 (G_are_stand_forms S.has_stand_form)
  has_row_form := runK 4 (G_has_row_form S.are_events S.is_integer S.last_time S.are_stand_forms)
  has_paper_form := runK 4 (G_has_paper_form S.are_stand_forms S.has_row_form)
  value_text := runK 2 (G_value_text S.value_text)
  event_text := runK 5 (G_event_text)
  paper_lines := runY 5 (G_paper_lines S.value_text S.event_text)
  integer_of := runK 4 (G_integer_of S.is_integer)
  tuple_of := runG 5 (G_tuple_of S.words_in S.is_word S.integer_of)
  stand_of := runK 3 (G_stand_of S.tuple_of S.value_text S.has_stand_form)
  event_of := runK 7 (G_event_of S.integer_of S.is_event)
  last_of := runK 7 (G_last_of S.integer_of)
  rounds_of := runG 4 (G_rounds_of S.stand_of)
  write_paper := runX 1 (G_write_paper cI S.has_paper_form S.paper_lines)
  read_paper := runG 9 (G_read_paper S.stand_of S.event_of S.last_of S.rounds_of)
  _law_start := runK 5 (G__law_start)
  _law_throw := runK 6 (G__law_throw)
  _law_pick := runK 2 (G__law_pick S._law_throw)
  _law_letters := runG 5 (G__law_letters S._law_throw)
  _law_words := runK 1 (G__law_words)
  _law_name := runK 8 (G__law_name S._law_pick S._law_throw S._law_words)
  _law_layout := runG 6 (G__law_layout S._law_throw S._law_name S._law_letters)
  _law_value := runK 2 (G__law_value S._law_throw)
  _law_events := runG 9 (G__law_events S._law_throw S._law_pick S._law_value)
  _law_tape := runK 6 (G__law_tape S._law_events S._law_throw)
  _law_atom := runK 5 (G__law_atom S._law_throw S._law_pick)
  _law_shape := runK 4 (G__law_shape S._law_throw S._law_atom S._law_shape)
  _law_deep := runK 4 (G__law_deep S._law_atom S._law_pick)
  _law_number := runK 1 (G__law_number S._law_throw S._law_pick)
  _law_stand := runG 8 (G__law_stand S._law_pick S._law_number S._law_throw S._law_shape S._law_deep)
  _law_stands := runK 3 (G__law_stands S._law_throw S._law_stand)
  _law_paper := runK 4 (G__law_paper S._law_throw S._law_stands S._law_layout S._law_pick S._law_tape)
  _law_text := runK 2 (G__law_text S._law_text)
  _law_lines := runG 8 (G__law_lines S._law_text)
  _law_integer := runK 1 (G__law_integer)
  _law_letters_alone := runK 3 (G__law_letters_alone)
  _law_has_text := runK 3 (G__law_has_text S._law_has_text S._law_integer S._law_letters_alone)
  _law_is_stand := runK 4 (G__law_is_stand S._law_has_text S._law_integer)
  _law_are_stands := runK 2 (G__law_are_stands S._law_is_stand)
  _law_is_event := runK 1 (G__law_is_event S._law_integer S._law_letters_alone S._law_words)
  _law_is_paper := runK 6 (G__law_is_paper S._law_are_stands S._law_is_event S._law_integer)
  _law_spoilt := runG 5 (G__law_spoilt S._law_pick S._law_deep S._law_throw S._law_spoilt)
  _law_right := runK 3 (G__law_right cI cP cE S.write_paper S._law_is_paper S._law_lines S.read_paper)
  _law_case := runK 2 (G__law_case S._law_paper S._law_is_paper S._law_right S._law_throw S._law_spoilt)
  law := runG 6 (G_law S._law_right S._law_start S._law_case)
noncomputable def gs (cI cP cE : Addr) : Nat → Gs
  | 0 => gs0
  | k + 1 => stepS cI cP cE (gs cI cP cE k)
end K49
namespace K49
open PySem PySem.Spec PyProof.Rows L2 FL RZ L2H HotX GenW
set_option autoImplicit false
variable {P : Program} {w : World} {K : PySem.W.Frag} {mg : Str → Option Value} {base : Heap}
/-- what the written part says of the two classes of errors -/
structure TxtE (K : PySem.W.Frag) (mg : Str → Option Value) where
  cI : Addr
  cP : Addr
  cE : Addr
  mI : mg "InvalidPaper" = some (.ref cI)
  mP : mg "PushError" = some (.ref cP)
  mE : mg "ParseError" = some (.ref cE)
  xI : PySem.W.excIn K cI [.type "ValueError", .type "Exception", .type "BaseException", .type "object"] "ValueError.__new__" = true
  kI : PySem.W.keepIn K (.ref cI) = true
  bI : PySem.W.subIn K (.ref cI) (.type "BaseException") = some true
  tI : PySem.W.typeIn K (.ref cI) = some (.type "type")
  eI : PySem.W.exmOne K (.ref cI) (.ref cI) = some true
  oI : ExcC K cI
  iP : PySem.W.kitOne K (.ref cI) (.ref cP) = some true
  iE : PySem.W.kitOne K (.ref cI) (.ref cE) = some false
theorem sc_paper_lines : GScope ["paper", "stand", "event", "last", "stands"] ["paper"] (defScope s_paper_lines) := ⟨rfl, rfl, rfl, by decide +kernel, rfl, by decide +kernel, by decide +kernel⟩
theorem ok_paper_lines {k : Nat} (T : Txt K mg) {g_value_text g_event_text : GL} (H_value_text : FnOk P w K mg base CX0 k T.a_value_text T.f_value_text ["value"] (spF K 1 g_value_text)) (H_event_text : FnOk P w K mg base CX0 k T.a_event_text T.f_event_text ["event"] (spF K 1 g_event_text)) : GFn P w K mg base (k + 1) T.a_paper_lines T.f_paper_lines ["paper"] (spG K 1 (runY 5 (G_paper_lines g_value_text g_event_text))) :=
  gen_ok (G := G_paper_lines g_value_text g_event_text) T.F_paper_lines sc_paper_lines rfl (fun cdv A outer s H E pn hr => (ys_cons (y_yield (de_ix (de_var (pv 0)) de_int)) (ys_cons (y_if (dt_cmp (o_eqq hr.units) ad_eqq (de_ix (de_var (pv 0)) de_int) (de_gstr (by rfl) T.m_LIST)) (ys_cons (y_for rfl rfl (pi_tup (de_ix (de_var (pv 0)) de_int)) ai_tup (pg_name (i := 1) sc_paper_lines.nd rfl (by first | exact Or.inl rfl | exact Or.inr rfl)) (adT_name 1) (ys_one (y_yield (de_call H_value_text hr (by rfl) T.m_value_text T.k_value_text T.b_value_text pass0 (da_cons (de_var (pv 1)) da_nil) (len_cons len_nil))))) (ys_one (y_plain d_retN))) ys_nil) (ys_cons (y_for rfl rfl (pi_tup (de_ix (de_var (pv 0)) de_int)) ai_tup (pg_name (i := 2) sc_paper_lines.nd rfl (by first | exact Or.inl rfl | exact Or.inr rfl)) (adT_name 2) (ys_one (y_yield (de_call H_event_text hr (by rfl) T.m_event_text T.k_event_text T.b_event_text pass0 (da_cons (de_var (pv 2)) da_nil) (len_cons len_nil))))) (ys_cons (y_plain (d_set (i := 3) sc_paper_lines.nd rfl (by first | exact Or.inl rfl | exact Or.inr rfl) (de_ix (de_var (pv 0)) de_int))) (ys_cons (y_yield (de_joined (DJ.cons (de_fmt (de_gstr (by rfl) T.m_UNTIL)) (DJ.cons de_str (DJ.cons (de_fmt (de_var (pv 3))) DJ.nil))))) (ys_one (y_for rfl rfl (pi_tup (de_ix (de_var (pv 0)) de_int)) ai_tup (pg_name (i := 4) sc_paper_lines.nd rfl (by first | exact Or.inl rfl | exact Or.inr rfl)) (adT_name 4) (ys_cons (y_yield (de_gstr (by rfl) T.m_ROUND)) (ys_one (y_for rfl rfl (pi_tup (de_var (pv 4))) ai_tup (pg_name (i := 1) sc_paper_lines.nd rfl (by first | exact Or.inl rfl | exact Or.inr rfl)) (adT_name 1) (ys_one (y_yield (de_call H_value_text hr (by rfl) T.m_value_text T.k_value_text T.b_value_text pass0 (da_cons (de_var (pv 1)) da_nil) (len_cons len_nil)))))))))))))))
theorem sc_write_paper : FnScope ["paper"] ["paper"] (defScope s_write_paper) := ⟨rfl, rfl, rfl, by decide +kernel, rfl, by decide +kernel, by decide +kernel⟩
theorem runY_nx {n : Nat} {G : FY} (ds : List D) (μ : Mu) (C : Addr) (fs : List (Str × D)) (μ1 : Mu) : runY n G ds μ ≠ .ex C fs μ1 := by
  unfold runY
  split <;> (intro h; cases h)
theorem ok_write_paper {k : Nat} (T : Txt K mg) (TE : TxtE K mg) {g_has_paper_form g_paper_lines : GL} (hnx : ∀ (ds : List D) (μ : Mu) (C : Addr) (fs : List (Str × D)) (μ1 : Mu), g_paper_lines ds μ ≠ .ex C fs μ1) (H_has_paper_form : FnOk P w K mg base CX0 k T.a_has_paper_form T.f_has_paper_form ["value"] (spF K 1 g_has_paper_form)) (H_paper_lines : GFn P w K mg base k T.a_paper_lines T.f_paper_lines ["paper"] (spG K 1 g_paper_lines)) :
    FnOk P w K mg base (L2N.CX P w) (k + 2) T.a_write_paper T.f_write_paper ["paper"] (spF K 1 (runX 1 (G_write_paper TE.cI g_has_paper_form g_paper_lines))) :=
  def_okX (G := G_write_paper TE.cI g_has_paper_form g_paper_lines) T.F_write_paper sc_write_paper rfl (fun cdv A outer s H E hr tk => (ds_cons (d_if (dt_not (dt_tru (de_call H_has_paper_form (hr.mono (Nat.le_succ k)) (by rfl) T.m_has_paper_form T.k_has_paper_form T.b_has_paper_form pass0 (da_cons (de_var (pv 0)) da_nil) (len_cons len_nil))))
    (ds_one (d_raise rfl tk PySem.F.excBase_ValueError TE.xI TE.mI TE.kI (raises_own TE.bI TE.tI) (by rfl))) ds_nil) (ds_one (d_ret (de_joinY H_paper_lines hr de_str (by rfl) T.m_paper_lines T.k_paper_lines T.b_paper_lines (da_cons (de_var (pv 0)) da_nil) (len_cons len_nil) nx_var hnx))))) (fun ds μ _ => runX_exit ds μ)
theorem sc__law_right : FnScope ["value", "found", "e"] ["value"] (defScope s__law_right) := ⟨rfl, rfl, rfl, by decide +kernel, rfl, by decide +kernel, by decide +kernel⟩
theorem right_ind {cP cE : Addr} {g : GL} (a : Addr) (ρ : Rho) (μ : Mu) : H_right cP cE g a (ρ.set 2 (some (.cls a))) μ = H_right cP cE g 0 (ρ.set 2 (some (.cls 0))) μ := by
  have e0 : ∀ x : Option D, (ρ.set 2 x)[0]? = ρ[0]? := fun x => List.getElem?_set_ne (by decide)
  have e2 : ∀ b : Addr, (ρ.set 2 (some (D.cls b)))[2]? = if 2 < ρ.length then some (some (D.cls b)) else none := fun b => by
    by_cases h : 2 < ρ.length
    · rw [if_pos h, List.getElem?_set_self h]
    · rw [if_neg h, List.getElem?_eq_none (by rw [List.length_set]; omega)]
  unfold H_right gRet fAndV fNotV fB fCall fCons fNil fVar fC
  simp only [e0, e2]
  by_cases h : 2 < ρ.length
  · simp only [if_pos h, bind_ok, gIsE, and_self, if_true]
  · simp only [if_neg h]
    rfl
theorem ok__law_right {k : Nat} (T : Txt K mg) (TE : TxtE K mg) {g_write_paper g__law_is_paper g__law_lines g_read_paper : GL} (H_write_paper : FnOk P w K mg base (L2N.CX P w) k T.a_write_paper T.f_write_paper ["paper"] (spF K 1 g_write_paper)) (H__law_is_paper : FnOk P w K mg base CX0 k T.a__law_is_paper T.f__law_is_paper ["value"] (spF K 1 g__law_is_paper)) (H__law_lines : FnOk P w K mg base CX0 k T.a__law_lines T.f__law_lines ["paper"] (spF K 1 g__law_lines)) (H_read_paper : FnOk P w K mg base CX0 k T.a_read_paper T.f_read_paper ["text"] (spF K 1 g_read_paper)) (HH_law_is_paper : FnH P w K mg base CX0 k T.a__law_is_paper T.f__law_is_paper ["value"] (spF K 1 g__law_is_paper)) :
    FnG P w K mg base CX0 (k + 1) T.a__law_right T.f__law_right ["value"] (spF K 1 (runK 3 (G__law_right TE.cI TE.cP TE.cE g_write_paper g__law_is_paper g__law_lines g_read_paper))) :=
  def_okG (G := G__law_right TE.cI TE.cP TE.cE g_write_paper g__law_is_paper g__law_lines g_read_paper) T.F__law_right sc__law_right rfl (fun cdv A outer s H E hr hgd => (ds_cons (d_tryCall (C := TE.cI) (i := 2) (j := 1) H_write_paper hr sc__law_right.nd rfl rfl rfl rfl ⟨by rfl, by decide, .inl TE.mI⟩ takes0N rfl (by first | exact Or.inl rfl | exact Or.inr rfl) (by first | exact Or.inl rfl | exact Or.inr rfl) (by rfl) T.m_write_paper T.k_write_paper T.b_write_paper TE.eI
      (fun _ _ => da_cons (de_var (pv 0)) da_nil) (len_cons len_nil) nx_var right_ind (fun a oe pn hz hv => ds_one (d_ret (de_and (de_not (de_callH HH_law_is_paper ⟨hr.dp, hr.un⟩ ⟨_, suite_hot hz hv, List.mem_cons_self⟩ (by rfl) T.m__law_is_paper T.k__law_is_paper T.b__law_is_paper (da_cons (de_var (pv 0)) da_nil) (len_cons len_nil)))
        (de_and (de_callB (call_isE TE.oI hz.zc hv) (ad_isE TE.iP) (by rfl) T.n_isinstance (by decide +kernel) (da_cons (de_var (pv 2)) (da_cons (de_c (v := .ref TE.cP) (pe_glob (by rfl) TE.mP rfl) fun _ => .cls _) da_nil)))
          (de_one (de_not (de_callB (call_isE TE.oI hz.zc hv) (ad_isE TE.iE) (by rfl) T.n_isinstance (by decide +kernel) (da_cons (de_var (pv 2)) (da_cons (de_c (v := .ref TE.cE) (pe_glob (by rfl) TE.mE rfl) fun _ => .cls _) da_nil)))))))))) (ds_cons (d_if (dt_w (dw_or (dt_not (dt_tru (de_call H__law_is_paper hr (by rfl) T.m__law_is_paper T.k__law_is_paper T.b__law_is_paper pass0 (da_cons (de_var (pv 0)) da_nil) (len_cons len_nil)))) (dw_or (dt_not (dt_tru (de_callB call_isi ad_isi (by rfl) T.n_isinstance (by decide +kernel) (da_cons (de_var (pv 1)) (da_cons (de_ty (pe_bltn (by rfl) T.n_str (by decide +kernel) rfl)) da_nil))))) (dw_or1 (dt_cmp (o_nee hr.units) ad_nee (de_var (pv 1)) (de_bm PySem.F.plainAttrs_str PySem.F.slot_str_join PySem.F.type_str_join mt_join ad_join de_str (da_cons (de_call H__law_lines hr (by rfl) T.m__law_lines T.k__law_lines T.b__law_lines pass0 (da_cons (de_var (pv 0)) da_nil) (len_cons len_nil)) da_nil))))))) (ds_one (d_ret de_bl)) ds_nil) (ds_one (d_ret (de_and (de_cmp (o_eqq hr.units) ad_eqq (de_callB (call_repr hgd hr.units) ad_repr (by rfl) T.n_repr (by decide +kernel) (da_cons (de_call H_read_paper hr (by rfl) T.m_read_paper T.k_read_paper T.b_read_paper pass0 (da_cons (de_var (pv 1)) da_nil) (len_cons len_nil)) da_nil)) (de_callB (call_repr hgd hr.units) ad_repr (by rfl) T.n_repr (by decide +kernel) (da_cons (de_var (pv 0)) da_nil))) (de_one (de_cmp (o_eqq hr.units) ad_eqq (de_callB (call_repr hgd hr.units) ad_repr (by rfl) T.n_repr (by decide +kernel) (da_cons (de_call H_read_paper hr (by rfl) T.m_read_paper T.k_read_paper T.b_read_paper pass0 (da_cons (de_var (pv 1)) da_nil) (len_cons len_nil)) da_nil)) (de_callB (call_repr hgd hr.units) ad_repr (by rfl) T.n_repr (by decide +kernel) (da_cons (de_var (pv 0)) da_nil)))))))))) (fun ds μ _ => runK_exit ds μ) runK_noex
end K49
namespace K49
open PySem PySem.Spec PyProof.Rows L2 FL RZ L2H HotX GenW
set_option autoImplicit false
variable {P : Program} {w : World} {K : PySem.W.Frag} {mg : Str → Option Value} {base : Heap}
theorem monoH {P : Program} {w : World} {K : PySem.W.Frag} {mg : Str → Option Value} {base : Heap} {CX : CXT} {j k : Nat} {f : Addr} {fd : FuncData} {ps : List Str} {sp : Sp} (F : FnH P w K mg base CX j f fd ps sp) (h : j ≤ k) : FnH P w K mg base CX k f fd ps sp := ⟨F.len, fun A outer s H args us vs Q E p hr => F.run A outer s H args us vs Q E p (hr.mono h)⟩
theorem monoG {P : Program} {w : World} {K : PySem.W.Frag} {mg : Str → Option Value} {base : Heap} {CX : CXT} {j k : Nat} {f : Addr} {fd : FuncData} {ps : List Str} {sp : Sp} (F : FnG P w K mg base CX j f fd ps sp) (h : j ≤ k) : FnG P w K mg base CX k f fd ps sp := ⟨F.len, fun A outer s H args us vs Q E hr => F.run A outer s H args us vs Q E (hr.mono h)⟩
theorem monoY {P : Program} {w : World} {K : PySem.W.Frag} {mg : Str → Option Value} {base : Heap} {j k : Nat} {f : Addr} {fd : FuncData} {ps : List Str} {sp : SpG} (F : GFn P w K mg base j f fd ps sp) (h : j ≤ k) : GFn P w K mg base k f fd ps sp := by
  refine ⟨F.len, fun A outer s H args us vs Q E hr e0 hb r hsp => codeAny_mono (F.run A outer s H args us vs Q E (hr.mono h) e0 hb r hsp) fun r s' z => ?_⟩
  cases r with
  | error e => exact z
  | ok fl =>
    cases fl with
    | ret u =>
      obtain ⟨a, g, c, h1, h2, h3, h4, h5, h6, h7, h8, h9, wake⟩ := z
      exact ⟨a, g, c, h1, h2, h3, h4, h5, h6, h7, h8, h9, fun A S s2 hr' => wake A S s2 (hr'.mono h)⟩
    | next => exact z
    | brk => exact z
    | cont => exact z
structure All (P : Program) (w : World) (K : PySem.W.Frag) (mg : Str → Option Value) (base : Heap) (T : Txt K mg) (k : Nat) (S : Gs) : Prop where
  o_is_integer : FnOk P w K mg base CX0 k T.a_is_integer T.f_is_integer ["value"] (spF K 1 S.is_integer)
  o_is_time : FnOk P w K mg base CX0 k T.a_is_time T.f_is_time ["value"] (spF K 1 S.is_time)
  o_is_letter : FnOk P w K mg base CX0 k T.a_is_letter T.f_is_letter ["value"] (spF K 1 S.is_letter)
  o_is_name : FnOk P w K mg base CX0 k T.a_is_name T.f_is_name ["value"] (spF K 1 S.is_name)
  o_is_event : FnOk P w K mg base CX0 k T.a_is_event T.f_is_event ["value"] (spF K 1 S.is_event)
  o_are_events : FnOk P w K mg base CX0 k T.a_are_events T.f_are_events ["value"] (spF K 1 S.are_events)
  o_last_time : FnOk P w K mg base CX0 k T.a_last_time T.f_last_time ["events"] (spF K 1 S.last_time)
  o_are_rows : FnOk P w K mg base CX0 k T.a_are_rows T.f_are_rows ["value"] (spF K 1 S.are_rows)
  o_words_in : FnOk P w K mg base CX0 k T.a_words_in T.f_words_in ["text"] (spF K 1 S.words_in)
  o_is_word : FnOk P w K mg base CX0 k T.a_is_word T.f_is_word ["value"] (spF K 1 S.is_word)
  o_can_be_written : FnOk P w K mg base CX0 k T.a_can_be_written T.f_can_be_written ["value", "depth"] (spF K 2 S.can_be_written)
  o_has_stand_form : FnOk P w K mg base CX0 k T.a_has_stand_form T.f_has_stand_form ["value"] (spF K 1 S.has_stand_form)
  o_are_stand_forms : FnOk P w K mg base CX0 k T.a_are_stand_forms T.f_are_stand_forms ["value"] (spF K 1 S.are_stand_forms)
  o_has_row_form : FnOk P w K mg base CX0 k T.a_has_row_form T.f_has_row_form ["events", "last", "rounds"] (spF K 3 S.has_row_form)
  o_has_paper_form : FnOk P w K mg base CX0 k T.a_has_paper_form T.f_has_paper_form ["value"] (spF K 1 S.has_paper_form)
  o_value_text : FnOk P w K mg base CX0 k T.a_value_text T.f_value_text ["value"] (spF K 1 S.value_text)
  o_event_text : FnOk P w K mg base CX0 k T.a_event_text T.f_event_text ["event"] (spF K 1 S.event_text)
  o_paper_lines : GFn P w K mg base k T.a_paper_lines T.f_paper_lines ["paper"] (spG K 1 S.paper_lines)
  o_integer_of : FnOk P w K mg base CX0 k T.a_integer_of T.f_integer_of ["word"] (spF K 1 S.integer_of)
  o_tuple_of : FnOk P w K mg base CX0 k T.a_tuple_of T.f_tuple_of ["line"] (spF K 1 S.tuple_of)
  o_stand_of : FnOk P w K mg base CX0 k T.a_stand_of T.f_stand_of ["line", "index"] (spF K 2 S.stand_of)
  o_event_of : FnOk P w K mg base CX0 k T.a_event_of T.f_event_of ["line", "now"] (spF K 2 S.event_of)
  o_last_of : FnOk P w K mg base CX0 k T.a_last_of T.f_last_of ["line", "now", "index"] (spF K 3 S.last_of)
  o_rounds_of : FnOk P w K mg base CX0 k T.a_rounds_of T.f_rounds_of ["lines", "index", "many"] (spF K 3 S.rounds_of)
  o_write_paper : FnOk P w K mg base (L2N.CX P w) k T.a_write_paper T.f_write_paper ["paper"] (spF K 1 S.write_paper)
  o_read_paper : FnOk P w K mg base CX0 k T.a_read_paper T.f_read_paper ["text"] (spF K 1 S.read_paper)
  o__law_start : FnOk P w K mg base CX0 k T.a__law_start T.f__law_start ["script", "at"] (spF K 2 S._law_start)
  o__law_throw : FnOk P w K mg base CX0 k T.a__law_throw T.f__law_throw ["bag", "total"] (spF K 2 S._law_throw)
  o__law_pick : FnOk P w K mg base CX0 k T.a__law_pick T.f__law_pick ["bag", "items"] (spF K 2 S._law_pick)
  o__law_letters : FnOk P w K mg base CX0 k T.a__law_letters T.f__law_letters ["bag", "most"] (spF K 2 S._law_letters)
  o__law_words : FnOk P w K mg base CX0 k T.a__law_words T.f__law_words [] (spF K 0 S._law_words)
  o__law_name : FnOk P w K mg base CX0 k T.a__law_name T.f__law_name ["bag", "known"] (spF K 2 S._law_name)
  o__law_layout : FnOk P w K mg base CX0 k T.a__law_layout T.f__law_layout ["bag", "sources", "letters"] (spF K 3 S._law_layout)
  o__law_value : FnOk P w K mg base CX0 k T.a__law_value T.f__law_value ["bag"] (spF K 1 S._law_value)
  o__law_events : FnOk P w K mg base CX0 k T.a__law_events T.f__law_events ["bag", "layout", "most", "gap"] (spF K 4 S._law_events)
  o__law_tape : FnOk P w K mg base CX0 k T.a__law_tape T.f__law_tape ["bag", "layout", "most", "gap"] (spF K 4 S._law_tape)
  o__law_atom : FnOk P w K mg base CX0 k T.a__law_atom T.f__law_atom ["bag"] (spF K 1 S._law_atom)
  o__law_shape : FnOk P w K mg base CX0 k T.a__law_shape T.f__law_shape ["bag", "depth", "left"] (spF K 3 S._law_shape)
  o__law_deep : FnOk P w K mg base CX0 k T.a__law_deep T.f__law_deep ["bag", "depth"] (spF K 2 S._law_deep)
  o__law_number : FnOk P w K mg base CX0 k T.a__law_number T.f__law_number ["bag"] (spF K 1 S._law_number)
  o__law_stand : FnOk P w K mg base CX0 k T.a__law_stand T.f__law_stand ["bag"] (spF K 1 S._law_stand)
  o__law_stands : FnOk P w K mg base CX0 k T.a__law_stands T.f__law_stands ["bag", "most"] (spF K 2 S._law_stands)
  o__law_paper : FnOk P w K mg base CX0 k T.a__law_paper T.f__law_paper ["bag"] (spF K 1 S._law_paper)
  o__law_text : FnOk P w K mg base CX0 k T.a__law_text T.f__law_text ["value"] (spF K 1 S._law_text)
  o__law_lines : FnOk P w K mg base CX0 k T.a__law_lines T.f__law_lines ["paper"] (spF K 1 S._law_lines)
  o__law_integer : FnOk P w K mg base CX0 k T.a__law_integer T.f__law_integer ["value"] (spF K 1 S._law_integer)
  o__law_letters_alone : FnOk P w K mg base CX0 k T.a__law_letters_alone T.f__law_letters_alone ["value", "most"] (spF K 2 S._law_letters_alone)
  o__law_has_text : FnOk P w K mg base CX0 k T.a__law_has_text T.f__law_has_text ["value", "depth"] (spF K 2 S._law_has_text)
  o__law_is_stand : FnOk P w K mg base CX0 k T.a__law_is_stand T.f__law_is_stand ["value"] (spF K 1 S._law_is_stand)
  o__law_are_stands : FnOk P w K mg base CX0 k T.a__law_are_stands T.f__law_are_stands ["value"] (spF K 1 S._law_are_stands)
  o__law_is_event : FnOk P w K mg base CX0 k T.a__law_is_event T.f__law_is_event ["value"] (spF K 1 S._law_is_event)
  o__law_is_paper : FnOk P w K mg base CX0 k T.a__law_is_paper T.f__law_is_paper ["value"] (spF K 1 S._law_is_paper)
  o__law_spoilt : FnOk P w K mg base CX0 k T.a__law_spoilt T.f__law_spoilt ["bag", "value"] (spF K 2 S._law_spoilt)
  o__law_right : FnG P w K mg base CX0 k T.a__law_right T.f__law_right ["value"] (spF K 1 S._law_right)
  o__law_case : FnG P w K mg base CX0 k T.a__law_case T.f__law_case ["bag"] (spF K 1 S._law_case)
  o_law : FnG P w K mg base CX0 k T.a_law T.f_law ["script"] (spF K 1 S.law)
  nx : ∀ (ds : List D) (μ : Mu) (C : Addr) (fs : List (Str × D)) (μ1 : Mu), S.paper_lines ds μ ≠ .ex C fs μ1
  h__law_words : FnH P w K mg base CX0 k T.a__law_words T.f__law_words [] (spF K 0 S._law_words)
  h__law_integer : FnH P w K mg base CX0 k T.a__law_integer T.f__law_integer ["value"] (spF K 1 S._law_integer)
  h__law_letters_alone : FnH P w K mg base CX0 k T.a__law_letters_alone T.f__law_letters_alone ["value", "most"] (spF K 2 S._law_letters_alone)
  h__law_has_text : FnH P w K mg base CX0 k T.a__law_has_text T.f__law_has_text ["value", "depth"] (spF K 2 S._law_has_text)
  h__law_is_stand : FnH P w K mg base CX0 k T.a__law_is_stand T.f__law_is_stand ["value"] (spF K 1 S._law_is_stand)
  h__law_are_stands : FnH P w K mg base CX0 k T.a__law_are_stands T.f__law_are_stands ["value"] (spF K 1 S._law_are_stands)
  h__law_is_event : FnH P w K mg base CX0 k T.a__law_is_event T.f__law_is_event ["value"] (spF K 1 S._law_is_event)
  h__law_is_paper : FnH P w K mg base CX0 k T.a__law_is_paper T.f__law_is_paper ["value"] (spF K 1 S._law_is_paper)
theorem all_zero (T : Txt K mg) : All P w K mg base T 0 gs0 where
  o_is_integer := noG_ok
  o_is_time := noG_ok
  o_is_letter := noG_ok
  o_is_name := noG_ok
  o_is_event := noG_ok
  o_are_events := noG_ok
  o_last_time := noG_ok
  o_are_rows := noG_ok
  o_words_in := noG_ok
  o_is_word := noG_ok
  o_can_be_written := noG_ok
  o_has_stand_form := noG_ok
  o_are_stand_forms := noG_ok
  o_has_row_form := noG_ok
  o_has_paper_form := noG_ok
  o_value_text := noG_ok
  o_event_text := noG_ok
  o_paper_lines := noG_okY
  o_integer_of := noG_ok
  o_tuple_of := noG_ok
  o_stand_of := noG_ok
  o_event_of := noG_ok
  o_last_of := noG_ok
  o_rounds_of := noG_ok
  o_write_paper := noG_ok
  o_read_paper := noG_ok
  o__law_start := noG_ok
  o__law_throw := noG_ok
  o__law_pick := noG_ok
  o__law_letters := noG_ok
  o__law_words := noG_ok
  o__law_name := noG_ok
  o__law_layout := noG_ok
  o__law_value := noG_ok
  o__law_events := noG_ok
  o__law_tape := noG_ok
  o__law_atom := noG_ok
  o__law_shape := noG_ok
  o__law_deep := noG_ok
  o__law_number := noG_ok
  o__law_stand := noG_ok
  o__law_stands := noG_ok
  o__law_paper := noG_ok
  o__law_text := noG_ok
  o__law_lines := noG_ok
  o__law_integer := noG_ok
  o__law_letters_alone := noG_ok
  o__law_has_text := noG_ok
  o__law_is_stand := noG_ok
  o__law_are_stands := noG_ok
  o__law_is_event := noG_ok
  o__law_is_paper := noG_ok
  o__law_spoilt := noG_ok
  o__law_right := noG_okG
  o__law_case := noG_okG
  o_law := noG_okG
  nx := fun _ _ _ _ _ h => by cases h
  h__law_words := noG_okH
  h__law_integer := noG_okH
  h__law_letters_alone := noG_okH
  h__law_has_text := noG_okH
  h__law_is_stand := noG_okH
  h__law_are_stands := noG_okH
  h__law_is_event := noG_okH
  h__law_is_paper := noG_okH
theorem all_succ (T : Txt K mg) (TE : TxtE K mg) {k : Nat} {S : Gs} (h : All P w K mg base T k S) : All P w K mg base T (k + 2) (stepS TE.cI TE.cP TE.cE S) where
  o_is_integer := FnOk.mono (ok_is_integer T) (Nat.le_succ (k + 1))
  o_is_time := FnOk.mono (ok_is_time T h.o_is_integer) (Nat.le_succ (k + 1))
  o_is_letter := FnOk.mono (ok_is_letter T) (Nat.le_succ (k + 1))
  o_is_name := FnOk.mono (ok_is_name T) (Nat.le_succ (k + 1))
  o_is_event := FnOk.mono (ok_is_event T h.o_is_time h.o_is_name h.o_is_letter h.o_is_integer) (Nat.le_succ (k + 1))
  o_are_events := FnOk.mono (ok_are_events T h.o_is_event) (Nat.le_succ (k + 1))
  o_last_time := FnOk.mono (ok_last_time T) (Nat.le_succ (k + 1))
  o_are_rows := FnOk.mono (ok_are_rows T h.o_is_integer) (Nat.le_succ (k + 1))
  o_words_in := FnOk.mono (ok_words_in T) (Nat.le_succ (k + 1))
  o_is_word := FnOk.mono (ok_is_word T) (Nat.le_succ (k + 1))
  o_can_be_written := FnOk.mono (ok_can_be_written T h.o_is_integer h.o_is_word h.o_can_be_written) (Nat.le_succ (k + 1))
  o_has_stand_form := FnOk.mono (ok_has_stand_form T h.o_can_be_written h.o_is_integer h.o_are_rows) (Nat.le_succ (k + 1))
  o_are_stand_forms := FnOk.mono (ok_are_stand_forms T h.o_has_stand_form) (Nat.le_succ (k + 1))
  o_has_row_form := FnOk.mono (ok_has_row_form T h.o_are_events h.o_is_integer h.o_last_time h.o_are_stand_forms) (Nat.le_succ (k + 1))
  o_has_paper_form := FnOk.mono (ok_has_paper_form T h.o_are_stand_forms h.o_has_row_form) (Nat.le_succ (k + 1))
  o_value_text := FnOk.mono (ok_value_text T h.o_value_text) (Nat.le_succ (k + 1))
  o_event_text := FnOk.mono (ok_event_text T) (Nat.le_succ (k + 1))
  o_paper_lines := monoY (ok_paper_lines T h.o_value_text h.o_event_text) (Nat.le_succ (k + 1))
  o_integer_of := FnOk.mono (ok_integer_of T h.o_is_integer) (Nat.le_succ (k + 1))
  o_tuple_of := FnOk.mono (ok_tuple_of T h.o_words_in h.o_is_word h.o_integer_of) (Nat.le_succ (k + 1))
  o_stand_of := FnOk.mono (ok_stand_of T h.o_tuple_of h.o_value_text h.o_has_stand_form) (Nat.le_succ (k + 1))
  o_event_of := FnOk.mono (ok_event_of T h.o_integer_of h.o_is_event) (Nat.le_succ (k + 1))
  o_last_of := FnOk.mono (ok_last_of T h.o_integer_of) (Nat.le_succ (k + 1))
  o_rounds_of := FnOk.mono (ok_rounds_of T h.o_stand_of) (Nat.le_succ (k + 1))
  o_write_paper := ok_write_paper T TE h.nx h.o_has_paper_form h.o_paper_lines
  o_read_paper := FnOk.mono (ok_read_paper T h.o_stand_of h.o_event_of h.o_last_of h.o_rounds_of) (Nat.le_succ (k + 1))
  o__law_start := FnOk.mono (ok__law_start T) (Nat.le_succ (k + 1))
  o__law_throw := FnOk.mono (ok__law_throw T) (Nat.le_succ (k + 1))
  o__law_pick := FnOk.mono (ok__law_pick T h.o__law_throw) (Nat.le_succ (k + 1))
  o__law_letters := FnOk.mono (ok__law_letters T h.o__law_throw) (Nat.le_succ (k + 1))
  o__law_words := FnOk.mono (ok__law_words T) (Nat.le_succ (k + 1))
  o__law_name := FnOk.mono (ok__law_name T h.o__law_pick h.o__law_throw h.o__law_words) (Nat.le_succ (k + 1))
  o__law_layout := FnOk.mono (ok__law_layout T h.o__law_throw h.o__law_name h.o__law_letters) (Nat.le_succ (k + 1))
  o__law_value := FnOk.mono (ok__law_value T h.o__law_throw) (Nat.le_succ (k + 1))
  o__law_events := FnOk.mono (ok__law_events T h.o__law_throw h.o__law_pick h.o__law_value) (Nat.le_succ (k + 1))
  o__law_tape := FnOk.mono (ok__law_tape T h.o__law_events h.o__law_throw) (Nat.le_succ (k + 1))
  o__law_atom := FnOk.mono (ok__law_atom T h.o__law_throw h.o__law_pick) (Nat.le_succ (k + 1))
  o__law_shape := FnOk.mono (ok__law_shape T h.o__law_throw h.o__law_atom h.o__law_shape) (Nat.le_succ (k + 1))
  o__law_deep := FnOk.mono (ok__law_deep T h.o__law_atom h.o__law_pick) (Nat.le_succ (k + 1))
  o__law_number := FnOk.mono (ok__law_number T h.o__law_throw h.o__law_pick) (Nat.le_succ (k + 1))
  o__law_stand := FnOk.mono (ok__law_stand T h.o__law_pick h.o__law_number h.o__law_throw h.o__law_shape h.o__law_deep) (Nat.le_succ (k + 1))
  o__law_stands := FnOk.mono (ok__law_stands T h.o__law_throw h.o__law_stand) (Nat.le_succ (k + 1))
  o__law_paper := FnOk.mono (ok__law_paper T h.o__law_throw h.o__law_stands h.o__law_layout h.o__law_pick h.o__law_tape) (Nat.le_succ (k + 1))
  o__law_text := FnOk.mono (ok__law_text T h.o__law_text) (Nat.le_succ (k + 1))
  o__law_lines := FnOk.mono (ok__law_lines T h.o__law_text) (Nat.le_succ (k + 1))
  o__law_integer := FnOk.mono (ok__law_integer T) (Nat.le_succ (k + 1))
  o__law_letters_alone := FnOk.mono (ok__law_letters_alone T) (Nat.le_succ (k + 1))
  o__law_has_text := FnOk.mono (ok__law_has_text T h.o__law_has_text h.o__law_integer h.o__law_letters_alone) (Nat.le_succ (k + 1))
  o__law_is_stand := FnOk.mono (ok__law_is_stand T h.o__law_has_text h.o__law_integer) (Nat.le_succ (k + 1))
  o__law_are_stands := FnOk.mono (ok__law_are_stands T h.o__law_is_stand) (Nat.le_succ (k + 1))
  o__law_is_event := FnOk.mono (ok__law_is_event T h.o__law_integer h.o__law_letters_alone h.o__law_words) (Nat.le_succ (k + 1))
  o__law_is_paper := FnOk.mono (ok__law_is_paper T h.o__law_are_stands h.o__law_is_event h.o__law_integer) (Nat.le_succ (k + 1))
  o__law_spoilt := FnOk.mono (ok__law_spoilt T h.o__law_pick h.o__law_deep h.o__law_throw h.o__law_spoilt) (Nat.le_succ (k + 1))
  o__law_right := monoG (ok__law_right T TE h.o_write_paper h.o__law_is_paper h.o__law_lines h.o_read_paper h.h__law_is_paper) (Nat.le_succ (k + 1))
  o__law_case := monoG (ok__law_case T h.o__law_paper h.o__law_is_paper h.o__law_right h.o__law_throw h.o__law_spoilt) (Nat.le_succ (k + 1))
  o_law := monoG (ok_law T h.o__law_right h.o__law_start h.o__law_case) (Nat.le_succ (k + 1))
  nx := runY_nx
  h__law_words := monoH (okH__law_words T) (Nat.le_succ (k + 1))
  h__law_integer := monoH (okH__law_integer T) (Nat.le_succ (k + 1))
  h__law_letters_alone := monoH (okH__law_letters_alone T) (Nat.le_succ (k + 1))
  h__law_has_text := monoH (okH__law_has_text T h.h__law_has_text h.h__law_integer h.h__law_letters_alone) (Nat.le_succ (k + 1))
  h__law_is_stand := monoH (okH__law_is_stand T h.h__law_has_text h.h__law_integer) (Nat.le_succ (k + 1))
  h__law_are_stands := monoH (okH__law_are_stands T h.h__law_is_stand) (Nat.le_succ (k + 1))
  h__law_is_event := monoH (okH__law_is_event T h.h__law_integer h.h__law_letters_alone h.h__law_words) (Nat.le_succ (k + 1))
  h__law_is_paper := monoH (okH__law_is_paper T h.h__law_are_stands h.h__law_is_event h.h__law_integer) (Nat.le_succ (k + 1))
theorem all (T : Txt K mg) (TE : TxtE K mg) : ∀ k : Nat, All P w K mg base T (2 * k) (gs TE.cI TE.cP TE.cE k)
  | 0 => all_zero T
  | k + 1 => all_succ T TE (all T TE k)
end K49
namespace K49
open PySem PySem.Spec PyProof.Rows L2 FL RZ L2H HotX GenW
set_option autoImplicit false
def d_is_integer : He.DefD := ⟨("is_integer", none), "is_integer", "is_integer", defArgs s_is_integer, defBody s_is_integer, defScope s_is_integer, [], []⟩
def d_is_time : He.DefD := ⟨("is_time", none), "is_time", "is_time", defArgs s_is_time, defBody s_is_time, defScope s_is_time, [], []⟩
def d_is_letter : He.DefD := ⟨("is_letter", none), "is_letter", "is_letter", defArgs s_is_letter, defBody s_is_letter, defScope s_is_letter, [], []⟩
def d_is_name : He.DefD := ⟨("is_name", none), "is_name", "is_name", defArgs s_is_name, defBody s_is_name, defScope s_is_name, [], []⟩
def d_is_event : He.DefD := ⟨("is_event", none), "is_event", "is_event", defArgs s_is_event, defBody s_is_event, defScope s_is_event, [], []⟩
def d_are_events : He.DefD := ⟨("are_events", none), "are_events", "are_events", defArgs s_are_events, defBody s_are_events, defScope s_are_events, [], []⟩
def d_last_time : He.DefD := ⟨("last_time", none), "last_time", "last_time", defArgs s_last_time, defBody s_last_time, defScope s_last_time, [], []⟩
def d_are_rows : He.DefD := ⟨("are_rows", none), "are_rows", "are_rows", defArgs s_are_rows, defBody s_are_rows, defScope s_are_rows, [], []⟩
def d_words_in : He.DefD := ⟨("words_in", none), "words_in", "words_in", defArgs s_words_in, defBody s_words_in, defScope s_words_in, [], []⟩
def d_is_word : He.DefD := ⟨("is_word", none), "is_word", "is_word", defArgs s_is_word, defBody s_is_word, defScope s_is_word, [], []⟩
def d_can_be_written : He.DefD := ⟨("can_be_written", none), "can_be_written", "can_be_written", defArgs s_can_be_written, defBody s_can_be_written, defScope s_can_be_written, [], []⟩
def d_has_stand_form : He.DefD := ⟨("has_stand_form", none), "has_stand_form", "has_stand_form", defArgs s_has_stand_form, defBody s_has_stand_form, defScope s_has_stand_form, [], []⟩
def d_are_stand_forms : He.DefD := ⟨("are_stand_forms", none), "are_stand_forms", "are_stand_forms", defArgs s_are_stand_forms, defBody s_are_stand_forms, defScope s_are_stand_forms, [], []⟩
def d_has_row_form : He.DefD := ⟨("has_row_form", none), "has_row_form", "has_row_form", defArgs s_has_row_form, defBody s_has_row_form, defScope s_has_row_form, [], []⟩
def d_has_paper_form : He.DefD := ⟨("has_paper_form", none), "has_paper_form", "has_paper_form", defArgs s_has_paper_form, defBody s_has_paper_form, defScope s_has_paper_form, [], []⟩
def d_value_text : He.DefD := ⟨("value_text", none), "value_text", "value_text", defArgs s_value_text, defBody s_value_text, defScope s_value_text, [], []⟩
def d_event_text : He.DefD := ⟨("event_text", none), "event_text", "event_text", defArgs s_event_text, defBody s_event_text, defScope s_event_text, [], []⟩
def d_paper_lines : He.DefD := ⟨("paper_lines", none), "paper_lines", "paper_lines", defArgs s_paper_lines, defBody s_paper_lines, defScope s_paper_lines, [], []⟩
def d_integer_of : He.DefD := ⟨("integer_of", none), "integer_of", "integer_of", defArgs s_integer_of, defBody s_integer_of, defScope s_integer_of, [], []⟩
def d_tuple_of : He.DefD := ⟨("tuple_of", none), "tuple_of", "tuple_of", defArgs s_tuple_of, defBody s_tuple_of, defScope s_tuple_of, [], []⟩
def d_stand_of : He.DefD := ⟨("stand_of", none), "stand_of", "stand_of", defArgs s_stand_of, defBody s_stand_of, defScope s_stand_of, [], []⟩
def d_event_of : He.DefD := ⟨("event_of", none), "event_of", "event_of", defArgs s_event_of, defBody s_event_of, defScope s_event_of, [], []⟩
def d_last_of : He.DefD := ⟨("last_of", none), "last_of", "last_of", defArgs s_last_of, defBody s_last_of, defScope s_last_of, [], []⟩
def d_rounds_of : He.DefD := ⟨("rounds_of", none), "rounds_of", "rounds_of", defArgs s_rounds_of, defBody s_rounds_of, defScope s_rounds_of, [], []⟩
def d_write_paper : He.DefD := ⟨("write_paper", none), "write_paper", "write_paper", defArgs s_write_paper, defBody s_write_paper, defScope s_write_paper, [], []⟩
def d_read_paper : He.DefD := ⟨("read_paper", none), "read_paper", "read_paper", defArgs s_read_paper, defBody s_read_paper, defScope s_read_paper, [], []⟩
def d__law_start : He.DefD := ⟨("_law_start", none), "_law_start", "_law_start", defArgs s__law_start, defBody s__law_start, defScope s__law_start, [], []⟩
def d__law_throw : He.DefD := ⟨("_law_throw", none), "_law_throw", "_law_throw", defArgs s__law_throw, defBody s__law_throw, defScope s__law_throw, [], []⟩
def d__law_pick : He.DefD := ⟨("_law_pick", none), "_law_pick", "_law_pick", defArgs s__law_pick, defBody s__law_pick, defScope s__law_pick, [], []⟩
def d__law_letters : He.DefD := ⟨("_law_letters", none), "_law_letters", "_law_letters", defArgs s__law_letters, defBody s__law_letters, defScope s__law_letters, [], []⟩
def d__law_words : He.DefD := ⟨("_law_words", none), "_law_words", "_law_words", defArgs s__law_words, defBody s__law_words, defScope s__law_words, [], []⟩
def d__law_name : He.DefD := ⟨("_law_name", none), "_law_name", "_law_name", defArgs s__law_name, defBody s__law_name, defScope s__law_name, [], []⟩
def d__law_layout : He.DefD := ⟨("_law_layout", none), "_law_layout", "_law_layout", defArgs s__law_layout, defBody s__law_layout, defScope s__law_layout, [], []⟩
def d__law_value : He.DefD := ⟨("_law_value", none), "_law_value", "_law_value", defArgs s__law_value, defBody s__law_value, defScope s__law_value, [], []⟩
def d__law_events : He.DefD := ⟨("_law_events", none), "_law_events", "_law_events", defArgs s__law_events, defBody s__law_events, defScope s__law_events, [], []⟩
def d__law_tape : He.DefD := ⟨("_law_tape", none), "_law_tape", "_law_tape", defArgs s__law_tape, defBody s__law_tape, defScope s__law_tape, [], []⟩
def d__law_atom : He.DefD := ⟨("_law_atom", none), "_law_atom", "_law_atom", defArgs s__law_atom, defBody s__law_atom, defScope s__law_atom, [], []⟩
def d__law_shape : He.DefD := ⟨("_law_shape", none), "_law_shape", "_law_shape", defArgs s__law_shape, defBody s__law_shape, defScope s__law_shape, [], []⟩
def d__law_deep : He.DefD := ⟨("_law_deep", none), "_law_deep", "_law_deep", defArgs s__law_deep, defBody s__law_deep, defScope s__law_deep, [], []⟩
def d__law_number : He.DefD := ⟨("_law_number", none), "_law_number", "_law_number", defArgs s__law_number, defBody s__law_number, defScope s__law_number, [], []⟩
def d__law_stand : He.DefD := ⟨("_law_stand", none), "_law_stand", "_law_stand", defArgs s__law_stand, defBody s__law_stand, defScope s__law_stand, [], []⟩
def d__law_stands : He.DefD := ⟨("_law_stands", none), "_law_stands", "_law_stands", defArgs s__law_stands, defBody s__law_stands, defScope s__law_stands, [], []⟩
def d__law_paper : He.DefD := ⟨("_law_paper", none), "_law_paper", "_law_paper", defArgs s__law_paper, defBody s__law_paper, defScope s__law_paper, [], []⟩
def d__law_text : He.DefD := ⟨("_law_text", none), "_law_text", "_law_text", defArgs s__law_text, defBody s__law_text, defScope s__law_text, [], []⟩
def d__law_lines : He.DefD := ⟨("_law_lines", none), "_law_lines", "_law_lines", defArgs s__law_lines, defBody s__law_lines, defScope s__law_lines, [], []⟩
def d__law_integer : He.DefD := ⟨("_law_integer", none), "_law_integer", "_law_integer", defArgs s__law_integer, defBody s__law_integer, defScope s__law_integer, [], []⟩
def d__law_letters_alone : He.DefD := ⟨("_law_letters_alone", none), "_law_letters_alone", "_law_letters_alone", defArgs s__law_letters_alone, defBody s__law_letters_alone, defScope s__law_letters_alone, [], []⟩
def d__law_has_text : He.DefD := ⟨("_law_has_text", none), "_law_has_text", "_law_has_text", defArgs s__law_has_text, defBody s__law_has_text, defScope s__law_has_text, [], []⟩
def d__law_is_stand : He.DefD := ⟨("_law_is_stand", none), "_law_is_stand", "_law_is_stand", defArgs s__law_is_stand, defBody s__law_is_stand, defScope s__law_is_stand, [], []⟩
def d__law_are_stands : He.DefD := ⟨("_law_are_stands", none), "_law_are_stands", "_law_are_stands", defArgs s__law_are_stands, defBody s__law_are_stands, defScope s__law_are_stands, [], []⟩
def d__law_is_event : He.DefD := ⟨("_law_is_event", none), "_law_is_event", "_law_is_event", defArgs s__law_is_event, defBody s__law_is_event, defScope s__law_is_event, [], []⟩
def d__law_is_paper : He.DefD := ⟨("_law_is_paper", none), "_law_is_paper", "_law_is_paper", defArgs s__law_is_paper, defBody s__law_is_paper, defScope s__law_is_paper, [], []⟩
def d__law_spoilt : He.DefD := ⟨("_law_spoilt", none), "_law_spoilt", "_law_spoilt", defArgs s__law_spoilt, defBody s__law_spoilt, defScope s__law_spoilt, [], []⟩
def d__law_right : He.DefD := ⟨("_law_right", none), "_law_right", "_law_right", defArgs s__law_right, defBody s__law_right, defScope s__law_right, [], []⟩
def d__law_case : He.DefD := ⟨("_law_case", none), "_law_case", "_law_case", defArgs s__law_case, defBody s__law_case, defScope s__law_case, [], []⟩
def d_law : He.DefD := ⟨("law", none), "law", "law", defArgs s_law, defBody s_law, defScope s_law, [], []⟩
def fnL0 : List He.DefD := [d_is_integer, d_is_time, d_is_letter, d_is_name, d_is_event, d_are_events, d_last_time, d_are_rows, d_words_in, d_is_word, d_can_be_written, d_has_stand_form, d_are_stand_forms, d_has_row_form, d_has_paper_form, d_value_text, d_event_text, d_paper_lines, d_integer_of, d_tuple_of, d_stand_of, d_event_of, d_last_of, d_rounds_of, d_write_paper, d_read_paper, d__law_start, d__law_throw, d__law_pick, d__law_letters]
def fnL1 : List He.DefD := [d__law_words, d__law_name, d__law_layout, d__law_value, d__law_events, d__law_tape, d__law_atom, d__law_shape, d__law_deep, d__law_number, d__law_stand, d__law_stands, d__law_paper, d__law_text, d__law_lines, d__law_integer, d__law_letters_alone, d__law_has_text, d__law_is_stand, d__law_are_stands, d__law_is_event, d__law_is_paper, d__law_spoilt, d__law_right, d__law_case, d_law]
abbrev fnL : List He.DefD := fnL0 ++ fnL1
def faL0 : List He.Fa := [.glo "is_integer", .glo "is_time", .glo "is_letter", .glo "is_name", .glo "is_event", .glo "are_events", .glo "last_time", .glo "are_rows", .glo "words_in", .glo "is_word", .glo "can_be_written", .glo "has_stand_form", .glo "are_stand_forms", .glo "has_row_form", .glo "has_paper_form", .glo "value_text", .glo "event_text", .glo "paper_lines", .glo "integer_of", .glo "tuple_of", .glo "stand_of", .glo "event_of", .glo "last_of", .glo "rounds_of", .glo "write_paper", .glo "read_paper", .glo "_law_start", .glo "_law_throw", .glo "_law_pick", .glo "_law_letters"]
def faL1 : List He.Fa := [.glo "_law_words", .glo "_law_name", .glo "_law_layout", .glo "_law_value", .glo "_law_events", .glo "_law_tape", .glo "_law_atom", .glo "_law_shape", .glo "_law_deep", .glo "_law_number", .glo "_law_stand", .glo "_law_stands", .glo "_law_paper", .glo "_law_text", .glo "_law_lines", .glo "_law_integer", .glo "_law_letters_alone", .glo "_law_has_text", .glo "_law_is_stand", .glo "_law_are_stands", .glo "_law_is_event", .glo "_law_is_paper", .glo "_law_spoilt", .glo "_law_right", .glo "_law_case", .glo "law", .free "abs", .free "all", .free "bool", .free "enumerate"]
def faL2 : List He.Fa := [.free "int", .free "isinstance", .free "len", .free "list", .free "max", .free "min", .free "range", .free "repr", .free "sorted", .free "str", .free "tuple", .free "zip", .str "LETTERS" "abcdefghijklmnopqrstuvwxyz", .int "MAX_VALUE" 999999999999999999999999999999999999999999999999999999999999, .int "MAX_NAME" 8, .glo "WORDS", .int "MOST_CLOCKS" 12, .str "OPEN" "(", .str "CLOSE" ")", .int "MAX_DEPTH" 20, .int "MAX_NUMBER_SIGNS" 61, .str "LIST" "list", .str "ROW" "row", .str "UNTIL" "until", .str "ROUND" "round", .str "NOTHING" "-", .glo "InvalidPaper", .glo "PushError", .glo "ParseError", .exc "InvalidPaper"]
def faL3 : List He.Fa := [.exm "InvalidPaper" "InvalidPaper" true]
abbrev faL : List He.Fa := faL0 ++ faL1 ++ faL2 ++ faL3
def looseL0 : List PySem.Str := ["LETTERS", "MAX_VALUE", "MAX_NAME", "WORDS", "is_integer", "is_time", "is_letter", "is_name", "is_event", "PushError", "InvalidPaper", "ParseError", "are_events", "last_time", "MOST_CLOCKS", "are_rows", "OPEN", "CLOSE", "words_in", "MAX_DEPTH", "MAX_NUMBER_SIGNS", "LIST", "ROW", "UNTIL", "ROUND", "NOTHING", "is_word", "can_be_written", "has_stand_form", "are_stand_forms"]
def looseL1 : List PySem.Str := ["has_row_form", "has_paper_form", "value_text", "event_text", "paper_lines", "integer_of", "tuple_of", "stand_of", "event_of", "last_of", "rounds_of", "write_paper", "read_paper", "_law_start", "_law_throw", "_law_pick", "_law_letters", "_law_words", "_law_name", "_law_layout", "_law_value", "_law_events", "_law_tape", "_law_atom", "_law_shape", "_law_deep", "_law_number", "_law_stand", "_law_stands", "_law_paper"]
def looseL2 : List PySem.Str := ["_law_text", "_law_lines", "_law_integer", "_law_letters_alone", "_law_has_text", "_law_is_stand", "_law_are_stands", "_law_is_event", "_law_is_paper", "_law_spoilt", "_law_right", "_law_case"]
abbrev looseL : List PySem.Str := looseL0 ++ looseL1 ++ looseL2
open He in
def exB (K : PySem.W.Frag) : Bool := tupB K "WORDS" (wordsS.map Dv.str) && (eqO (PySem.W.findIn K (.ref (ga K "InvalidPaper")) "__getattribute__") (some (some (.builtin "BaseException.__getattribute__"))) &&
  (eqO (PySem.W.findIn K (.ref (ga K "InvalidPaper")) "__getattr__") (some none) && (PySem.W.hasDictIn K (ga K "InvalidPaper") && (eqO (PySem.W.findIn K (.ref (ga K "InvalidPaper")) "__class__") (some (some (.builtin "object.__class__"))) &&
  (eqO (PySem.W.specialIn K (.builtin "object.__class__") "__get__") (some (some (.builtin "getset_descriptor.__get__"))) && (decide (PySem.W.takesIn K (.builtin "object.__class__") = some true) && (decide (PySem.W.mroIn K (ga K "InvalidPaper") (.type "object") = some true) &&
  (decide (PySem.W.kitOne K (.ref (ga K "InvalidPaper")) (.ref (ga K "PushError")) = some true) && decide (PySem.W.kitOne K (.ref (ga K "InvalidPaper")) (.ref (ga K "ParseError")) = some false)))))))))
theorem fun_of {K : PySem.W.Frag} {x qual : Str} {st : Stmt} {f : Addr} {fd : FuncData} (F : FunD K x qual (defArgs st) (defBody st) (defScope st) [] [] f fd) : Fun K x qual st f fd := by
  obtain ⟨⟨oc, od, dV, kV, doc, pm, an, cdv, ct, osl, h1, h2, h3, h4, h5⟩, kp⟩ := F
  rcases h4 with ⟨_, rfl⟩ | ⟨h, _⟩
  · exact ⟨⟨oc, od, kV, doc, pm, an, cdv, ct, osl, h1, h2, h3⟩, kp⟩
  · exact absurd rfl h
theorem law_bind {K : PySem.W.Frag} {f : Addr} {fd : FuncData} (F : Fun K "law" "law" s_law f fd) (s : Shared) (u : Value) : BindsTo s fd ⟨[u], []⟩ [("script", u)] := by
  obtain ⟨oc, od, kV, doc, pm, an, cdv, ct, osl, rfl, lk, hcd⟩ := F.ex
  exact .of_eq rfl
theorem hv_words {K : PySem.W.Frag} {w : Wd} : ∀ l : List Str, HvL K w ((l.map He.Dv.str).map (He.Dv.v K)) (l.map D.str)
  | [] => .nil
  | x :: l => .cons (.str x) (hv_words l)
abbrev R : PySem.W.OpenRow := PySem.W.OpenLaw.row PySem.Challenge.rw_pushalike_k49_papers_written
abbrev hk : PySem.W.Hook := He.hookX 5 faL fnL [] [] exB
def ob (s : PySem.W.SharedT) : He.AlX := He.obsX 5 faL fnL [] [] exB (HandSHeadRun.getT s)
theorem ob_eq (s : PySem.W.SharedT) : ob s = hk.obs s.abs := He.obsX_eq (HandSHeadRun.getT_eq s)
theorem run (w : World) : HandSHeadRun.RunEq R (PySem.W.view R.prog [79]) hk ob 20000 looseL w := by
  intro os
  kernel_rfl
theorem txt_of {K : PySem.W.Frag} {mg : Str → Option Value} {h : Heap} {w : World} (X : K.In h) (G : h.Ns mainGlobals mg) (c : He.SaysX faL fnL [] [] exB w h K) : Nonempty (Txt K mg × TxtE K mg) := by
  obtain ⟨fd0, F0⟩ := c.t.d.def_ 0 (d := d_is_integer) rfl
  obtain ⟨fd1, F1⟩ := c.t.d.def_ 1 (d := d_is_time) rfl
  obtain ⟨fd2, F2⟩ := c.t.d.def_ 2 (d := d_is_letter) rfl
  obtain ⟨fd3, F3⟩ := c.t.d.def_ 3 (d := d_is_name) rfl
  obtain ⟨fd4, F4⟩ := c.t.d.def_ 4 (d := d_is_event) rfl
  obtain ⟨fd5, F5⟩ := c.t.d.def_ 5 (d := d_are_events) rfl
  obtain ⟨fd6, F6⟩ := c.t.d.def_ 6 (d := d_last_time) rfl
  obtain ⟨fd7, F7⟩ := c.t.d.def_ 7 (d := d_are_rows) rfl
  obtain ⟨fd8, F8⟩ := c.t.d.def_ 8 (d := d_words_in) rfl
  obtain ⟨fd9, F9⟩ := c.t.d.def_ 9 (d := d_is_word) rfl
  obtain ⟨fd10, F10⟩ := c.t.d.def_ 10 (d := d_can_be_written) rfl
  obtain ⟨fd11, F11⟩ := c.t.d.def_ 11 (d := d_has_stand_form) rfl
  obtain ⟨fd12, F12⟩ := c.t.d.def_ 12 (d := d_are_stand_forms) rfl
  obtain ⟨fd13, F13⟩ := c.t.d.def_ 13 (d := d_has_row_form) rfl
  obtain ⟨fd14, F14⟩ := c.t.d.def_ 14 (d := d_has_paper_form) rfl
  obtain ⟨fd15, F15⟩ := c.t.d.def_ 15 (d := d_value_text) rfl
  obtain ⟨fd16, F16⟩ := c.t.d.def_ 16 (d := d_event_text) rfl
  obtain ⟨fd17, F17⟩ := c.t.d.def_ 17 (d := d_paper_lines) rfl
  obtain ⟨fd18, F18⟩ := c.t.d.def_ 18 (d := d_integer_of) rfl
  obtain ⟨fd19, F19⟩ := c.t.d.def_ 19 (d := d_tuple_of) rfl
  obtain ⟨fd20, F20⟩ := c.t.d.def_ 20 (d := d_stand_of) rfl
  obtain ⟨fd21, F21⟩ := c.t.d.def_ 21 (d := d_event_of) rfl
  obtain ⟨fd22, F22⟩ := c.t.d.def_ 22 (d := d_last_of) rfl
  obtain ⟨fd23, F23⟩ := c.t.d.def_ 23 (d := d_rounds_of) rfl
  obtain ⟨fd24, F24⟩ := c.t.d.def_ 24 (d := d_write_paper) rfl
  obtain ⟨fd25, F25⟩ := c.t.d.def_ 25 (d := d_read_paper) rfl
  obtain ⟨fd26, F26⟩ := c.t.d.def_ 26 (d := d__law_start) rfl
  obtain ⟨fd27, F27⟩ := c.t.d.def_ 27 (d := d__law_throw) rfl
  obtain ⟨fd28, F28⟩ := c.t.d.def_ 28 (d := d__law_pick) rfl
  obtain ⟨fd29, F29⟩ := c.t.d.def_ 29 (d := d__law_letters) rfl
  obtain ⟨fd30, F30⟩ := c.t.d.def_ 30 (d := d__law_words) rfl
  obtain ⟨fd31, F31⟩ := c.t.d.def_ 31 (d := d__law_name) rfl
  obtain ⟨fd32, F32⟩ := c.t.d.def_ 32 (d := d__law_layout) rfl
  obtain ⟨fd33, F33⟩ := c.t.d.def_ 33 (d := d__law_value) rfl
  obtain ⟨fd34, F34⟩ := c.t.d.def_ 34 (d := d__law_events) rfl
  obtain ⟨fd35, F35⟩ := c.t.d.def_ 35 (d := d__law_tape) rfl
  obtain ⟨fd36, F36⟩ := c.t.d.def_ 36 (d := d__law_atom) rfl
  obtain ⟨fd37, F37⟩ := c.t.d.def_ 37 (d := d__law_shape) rfl
  obtain ⟨fd38, F38⟩ := c.t.d.def_ 38 (d := d__law_deep) rfl
  obtain ⟨fd39, F39⟩ := c.t.d.def_ 39 (d := d__law_number) rfl
  obtain ⟨fd40, F40⟩ := c.t.d.def_ 40 (d := d__law_stand) rfl
  obtain ⟨fd41, F41⟩ := c.t.d.def_ 41 (d := d__law_stands) rfl
  obtain ⟨fd42, F42⟩ := c.t.d.def_ 42 (d := d__law_paper) rfl
  obtain ⟨fd43, F43⟩ := c.t.d.def_ 43 (d := d__law_text) rfl
  obtain ⟨fd44, F44⟩ := c.t.d.def_ 44 (d := d__law_lines) rfl
  obtain ⟨fd45, F45⟩ := c.t.d.def_ 45 (d := d__law_integer) rfl
  obtain ⟨fd46, F46⟩ := c.t.d.def_ 46 (d := d__law_letters_alone) rfl
  obtain ⟨fd47, F47⟩ := c.t.d.def_ 47 (d := d__law_has_text) rfl
  obtain ⟨fd48, F48⟩ := c.t.d.def_ 48 (d := d__law_is_stand) rfl
  obtain ⟨fd49, F49⟩ := c.t.d.def_ 49 (d := d__law_are_stands) rfl
  obtain ⟨fd50, F50⟩ := c.t.d.def_ 50 (d := d__law_is_event) rfl
  obtain ⟨fd51, F51⟩ := c.t.d.def_ 51 (d := d__law_is_paper) rfl
  obtain ⟨fd52, F52⟩ := c.t.d.def_ 52 (d := d__law_spoilt) rfl
  obtain ⟨fd53, F53⟩ := c.t.d.def_ 53 (d := d__law_right) rfl
  obtain ⟨fd54, F54⟩ := c.t.d.def_ 54 (d := d__law_case) rfl
  obtain ⟨fd55, F55⟩ := c.t.d.def_ 55 (d := d_law) rfl
  have G0 := fun_of (x := "is_integer") (qual := "is_integer") (st := s_is_integer) F0
  have b0 := G0.binds (ps := ["value"]) fun _ _ _ _ _ _ us hl => match us, hl with | [_], _ => rfl
  have G1 := fun_of (x := "is_time") (qual := "is_time") (st := s_is_time) F1
  have b1 := G1.binds (ps := ["value"]) fun _ _ _ _ _ _ us hl => match us, hl with | [_], _ => rfl
  have G2 := fun_of (x := "is_letter") (qual := "is_letter") (st := s_is_letter) F2
  have b2 := G2.binds (ps := ["value"]) fun _ _ _ _ _ _ us hl => match us, hl with | [_], _ => rfl
  have G3 := fun_of (x := "is_name") (qual := "is_name") (st := s_is_name) F3
  have b3 := G3.binds (ps := ["value"]) fun _ _ _ _ _ _ us hl => match us, hl with | [_], _ => rfl
  have G4 := fun_of (x := "is_event") (qual := "is_event") (st := s_is_event) F4
  have b4 := G4.binds (ps := ["value"]) fun _ _ _ _ _ _ us hl => match us, hl with | [_], _ => rfl
  have G5 := fun_of (x := "are_events") (qual := "are_events") (st := s_are_events) F5
  have b5 := G5.binds (ps := ["value"]) fun _ _ _ _ _ _ us hl => match us, hl with | [_], _ => rfl
  have G6 := fun_of (x := "last_time") (qual := "last_time") (st := s_last_time) F6
  have b6 := G6.binds (ps := ["events"]) fun _ _ _ _ _ _ us hl => match us, hl with | [_], _ => rfl
  have G7 := fun_of (x := "are_rows") (qual := "are_rows") (st := s_are_rows) F7
  have b7 := G7.binds (ps := ["value"]) fun _ _ _ _ _ _ us hl => match us, hl with | [_], _ => rfl
  have G8 := fun_of (x := "words_in") (qual := "words_in") (st := s_words_in) F8
  have b8 := G8.binds (ps := ["text"]) fun _ _ _ _ _ _ us hl => match us, hl with | [_], _ => rfl
  have G9 := fun_of (x := "is_word") (qual := "is_word") (st := s_is_word) F9
  have b9 := G9.binds (ps := ["value"]) fun _ _ _ _ _ _ us hl => match us, hl with | [_], _ => rfl
  have G10 := fun_of (x := "can_be_written") (qual := "can_be_written") (st := s_can_be_written) F10
  have b10 := G10.binds (ps := ["value", "depth"]) fun _ _ _ _ _ _ us hl => match us, hl with | [_, _], _ => rfl
  have G11 := fun_of (x := "has_stand_form") (qual := "has_stand_form") (st := s_has_stand_form) F11
  have b11 := G11.binds (ps := ["value"]) fun _ _ _ _ _ _ us hl => match us, hl with | [_], _ => rfl
  have G12 := fun_of (x := "are_stand_forms") (qual := "are_stand_forms") (st := s_are_stand_forms) F12
  have b12 := G12.binds (ps := ["value"]) fun _ _ _ _ _ _ us hl => match us, hl with | [_], _ => rfl
  have G13 := fun_of (x := "has_row_form") (qual := "has_row_form") (st := s_has_row_form) F13
  have b13 := G13.binds (ps := ["events", "last", "rounds"]) fun _ _ _ _ _ _ us hl => match us, hl with | [_, _, _], _ => rfl
  have G14 := fun_of (x := "has_paper_form") (qual := "has_paper_form") (st := s_has_paper_form) F14
  have b14 := G14.binds (ps := ["value"]) fun _ _ _ _ _ _ us hl => match us, hl with | [_], _ => rfl
  have G15 := fun_of (x := "value_text") (qual := "value_text") (st := s_value_text) F15
  have b15 := G15.binds (ps := ["value"]) fun _ _ _ _ _ _ us hl => match us, hl with | [_], _ => rfl
  have G16 := fun_of (x := "event_text") (qual := "event_text") (st := s_event_text) F16
  have b16 := G16.binds (ps := ["event"]) fun _ _ _ _ _ _ us hl => match us, hl with | [_], _ => rfl
  have G17 := fun_of (x := "paper_lines") (qual := "paper_lines") (st := s_paper_lines) F17
  have b17 := G17.binds (ps := ["paper"]) fun _ _ _ _ _ _ us hl => match us, hl with | [_], _ => rfl
  have G18 := fun_of (x := "integer_of") (qual := "integer_of") (st := s_integer_of) F18
  have b18 := G18.binds (ps := ["word"]) fun _ _ _ _ _ _ us hl => match us, hl with | [_], _ => rfl
  have G19 := fun_of (x := "tuple_of") (qual := "tuple_of") (st := s_tuple_of) F19
  have b19 := G19.binds (ps := ["line"]) fun _ _ _ _ _ _ us hl => match us, hl with | [_], _ => rfl
  have G20 := fun_of (x := "stand_of") (qual := "stand_of") (st := s_stand_of) F20
  have b20 := G20.binds (ps := ["line", "index"]) fun _ _ _ _ _ _ us hl => match us, hl with | [_, _], _ => rfl
  have G21 := fun_of (x := "event_of") (qual := "event_of") (st := s_event_of) F21
  have b21 := G21.binds (ps := ["line", "now"]) fun _ _ _ _ _ _ us hl => match us, hl with | [_, _], _ => rfl
  have G22 := fun_of (x := "last_of") (qual := "last_of") (st := s_last_of) F22
  have b22 := G22.binds (ps := ["line", "now", "index"]) fun _ _ _ _ _ _ us hl => match us, hl with | [_, _, _], _ => rfl
  have G23 := fun_of (x := "rounds_of") (qual := "rounds_of") (st := s_rounds_of) F23
  have b23 := G23.binds (ps := ["lines", "index", "many"]) fun _ _ _ _ _ _ us hl => match us, hl with | [_, _, _], _ => rfl
  have G24 := fun_of (x := "write_paper") (qual := "write_paper") (st := s_write_paper) F24
  have b24 := G24.binds (ps := ["paper"]) fun _ _ _ _ _ _ us hl => match us, hl with | [_], _ => rfl
  have G25 := fun_of (x := "read_paper") (qual := "read_paper") (st := s_read_paper) F25
  have b25 := G25.binds (ps := ["text"]) fun _ _ _ _ _ _ us hl => match us, hl with | [_], _ => rfl
  have G26 := fun_of (x := "_law_start") (qual := "_law_start") (st := s__law_start) F26
  have b26 := G26.binds (ps := ["script", "at"]) fun _ _ _ _ _ _ us hl => match us, hl with | [_, _], _ => rfl
  have G27 := fun_of (x := "_law_throw") (qual := "_law_throw") (st := s__law_throw) F27
  have b27 := G27.binds (ps := ["bag", "total"]) fun _ _ _ _ _ _ us hl => match us, hl with | [_, _], _ => rfl
  have G28 := fun_of (x := "_law_pick") (qual := "_law_pick") (st := s__law_pick) F28
  have b28 := G28.binds (ps := ["bag", "items"]) fun _ _ _ _ _ _ us hl => match us, hl with | [_, _], _ => rfl
  have G29 := fun_of (x := "_law_letters") (qual := "_law_letters") (st := s__law_letters) F29
  have b29 := G29.binds (ps := ["bag", "most"]) fun _ _ _ _ _ _ us hl => match us, hl with | [_, _], _ => rfl
  have G30 := fun_of (x := "_law_words") (qual := "_law_words") (st := s__law_words) F30
  have b30 := G30.binds (ps := []) fun _ _ _ _ _ _ us hl => match us, hl with | [], _ => rfl
  have G31 := fun_of (x := "_law_name") (qual := "_law_name") (st := s__law_name) F31
  have b31 := G31.binds (ps := ["bag", "known"]) fun _ _ _ _ _ _ us hl => match us, hl with | [_, _], _ => rfl
  have G32 := fun_of (x := "_law_layout") (qual := "_law_layout") (st := s__law_layout) F32
  have b32 := G32.binds (ps := ["bag", "sources", "letters"]) fun _ _ _ _ _ _ us hl => match us, hl with | [_, _, _], _ => rfl
  have G33 := fun_of (x := "_law_value") (qual := "_law_value") (st := s__law_value) F33
  have b33 := G33.binds (ps := ["bag"]) fun _ _ _ _ _ _ us hl => match us, hl with | [_], _ => rfl
  have G34 := fun_of (x := "_law_events") (qual := "_law_events") (st := s__law_events) F34
  have b34 := G34.binds (ps := ["bag", "layout", "most", "gap"]) fun _ _ _ _ _ _ us hl => match us, hl with | [_, _, _, _], _ => rfl
  have G35 := fun_of (x := "_law_tape") (qual := "_law_tape") (st := s__law_tape) F35
  have b35 := G35.binds (ps := ["bag", "layout", "most", "gap"]) fun _ _ _ _ _ _ us hl => match us, hl with | [_, _, _, _], _ => rfl
  have G36 := fun_of (x := "_law_atom") (qual := "_law_atom") (st := s__law_atom) F36
  have b36 := G36.binds (ps := ["bag"]) fun _ _ _ _ _ _ us hl => match us, hl with | [_], _ => rfl
  have G37 := fun_of (x := "_law_shape") (qual := "_law_shape") (st := s__law_shape) F37
  have b37 := G37.binds (ps := ["bag", "depth", "left"]) fun _ _ _ _ _ _ us hl => match us, hl with | [_, _, _], _ => rfl
  have G38 := fun_of (x := "_law_deep") (qual := "_law_deep") (st := s__law_deep) F38
  have b38 := G38.binds (ps := ["bag", "depth"]) fun _ _ _ _ _ _ us hl => match us, hl with | [_, _], _ => rfl
  have G39 := fun_of (x := "_law_number") (qual := "_law_number") (st := s__law_number) F39
  have b39 := G39.binds (ps := ["bag"]) fun _ _ _ _ _ _ us hl => match us, hl with | [_], _ => rfl
  have G40 := fun_of (x := "_law_stand") (qual := "_law_stand") (st := s__law_stand) F40
  have b40 := G40.binds (ps := ["bag"]) fun _ _ _ _ _ _ us hl => match us, hl with | [_], _ => rfl
  have G41 := fun_of (x := "_law_stands") (qual := "_law_stands") (st := s__law_stands) F41
  have b41 := G41.binds (ps := ["bag", "most"]) fun _ _ _ _ _ _ us hl => match us, hl with | [_, _], _ => rfl
  have G42 := fun_of (x := "_law_paper") (qual := "_law_paper") (st := s__law_paper) F42
  have b42 := G42.binds (ps := ["bag"]) fun _ _ _ _ _ _ us hl => match us, hl with | [_], _ => rfl
  have G43 := fun_of (x := "_law_text") (qual := "_law_text") (st := s__law_text) F43
  have b43 := G43.binds (ps := ["value"]) fun _ _ _ _ _ _ us hl => match us, hl with | [_], _ => rfl
  have G44 := fun_of (x := "_law_lines") (qual := "_law_lines") (st := s__law_lines) F44
  have b44 := G44.binds (ps := ["paper"]) fun _ _ _ _ _ _ us hl => match us, hl with | [_], _ => rfl
  have G45 := fun_of (x := "_law_integer") (qual := "_law_integer") (st := s__law_integer) F45
  have b45 := G45.binds (ps := ["value"]) fun _ _ _ _ _ _ us hl => match us, hl with | [_], _ => rfl
  have G46 := fun_of (x := "_law_letters_alone") (qual := "_law_letters_alone") (st := s__law_letters_alone) F46
  have b46 := G46.binds (ps := ["value", "most"]) fun _ _ _ _ _ _ us hl => match us, hl with | [_, _], _ => rfl
  have G47 := fun_of (x := "_law_has_text") (qual := "_law_has_text") (st := s__law_has_text) F47
  have b47 := G47.binds (ps := ["value", "depth"]) fun _ _ _ _ _ _ us hl => match us, hl with | [_, _], _ => rfl
  have G48 := fun_of (x := "_law_is_stand") (qual := "_law_is_stand") (st := s__law_is_stand) F48
  have b48 := G48.binds (ps := ["value"]) fun _ _ _ _ _ _ us hl => match us, hl with | [_], _ => rfl
  have G49 := fun_of (x := "_law_are_stands") (qual := "_law_are_stands") (st := s__law_are_stands) F49
  have b49 := G49.binds (ps := ["value"]) fun _ _ _ _ _ _ us hl => match us, hl with | [_], _ => rfl
  have G50 := fun_of (x := "_law_is_event") (qual := "_law_is_event") (st := s__law_is_event) F50
  have b50 := G50.binds (ps := ["value"]) fun _ _ _ _ _ _ us hl => match us, hl with | [_], _ => rfl
  have G51 := fun_of (x := "_law_is_paper") (qual := "_law_is_paper") (st := s__law_is_paper) F51
  have b51 := G51.binds (ps := ["value"]) fun _ _ _ _ _ _ us hl => match us, hl with | [_], _ => rfl
  have G52 := fun_of (x := "_law_spoilt") (qual := "_law_spoilt") (st := s__law_spoilt) F52
  have b52 := G52.binds (ps := ["bag", "value"]) fun _ _ _ _ _ _ us hl => match us, hl with | [_, _], _ => rfl
  have G53 := fun_of (x := "_law_right") (qual := "_law_right") (st := s__law_right) F53
  have b53 := G53.binds (ps := ["value"]) fun _ _ _ _ _ _ us hl => match us, hl with | [_], _ => rfl
  have G54 := fun_of (x := "_law_case") (qual := "_law_case") (st := s__law_case) F54
  have b54 := G54.binds (ps := ["bag"]) fun _ _ _ _ _ _ us hl => match us, hl with | [_], _ => rfl
  have G55 := fun_of (x := "law") (qual := "law") (st := s_law) F55
  have b55 := G55.binds (ps := ["script"]) fun _ _ _ _ _ _ us hl => match us, hl with | [_], _ => rfl
  obtain ⟨t_LETTERS, m_LETTERS⟩ := He.str_ok X G (c.t.d.fact 72 (f := .str "LETTERS" "abcdefghijklmnopqrstuvwxyz") rfl)
  obtain ⟨t_MAX_VALUE, m_MAX_VALUE⟩ := He.int_ok X G (c.t.d.fact 73 (f := .int "MAX_VALUE" 999999999999999999999999999999999999999999999999999999999999) rfl)
  obtain ⟨t_MAX_NAME, m_MAX_NAME⟩ := He.int_ok X G (c.t.d.fact 74 (f := .int "MAX_NAME" 8) rfl)
  obtain ⟨t_MOST_CLOCKS, m_MOST_CLOCKS⟩ := He.int_ok X G (c.t.d.fact 76 (f := .int "MOST_CLOCKS" 12) rfl)
  obtain ⟨t_OPEN, m_OPEN⟩ := He.str_ok X G (c.t.d.fact 77 (f := .str "OPEN" "(") rfl)
  obtain ⟨t_CLOSE, m_CLOSE⟩ := He.str_ok X G (c.t.d.fact 78 (f := .str "CLOSE" ")") rfl)
  obtain ⟨t_MAX_DEPTH, m_MAX_DEPTH⟩ := He.int_ok X G (c.t.d.fact 79 (f := .int "MAX_DEPTH" 20) rfl)
  obtain ⟨t_MAX_NUMBER_SIGNS, m_MAX_NUMBER_SIGNS⟩ := He.int_ok X G (c.t.d.fact 80 (f := .int "MAX_NUMBER_SIGNS" 61) rfl)
  obtain ⟨t_LIST, m_LIST⟩ := He.str_ok X G (c.t.d.fact 81 (f := .str "LIST" "list") rfl)
  obtain ⟨t_ROW, m_ROW⟩ := He.str_ok X G (c.t.d.fact 82 (f := .str "ROW" "row") rfl)
  obtain ⟨t_UNTIL, m_UNTIL⟩ := He.str_ok X G (c.t.d.fact 83 (f := .str "UNTIL" "until") rfl)
  obtain ⟨t_ROUND, m_ROUND⟩ := He.str_ok X G (c.t.d.fact 84 (f := .str "ROUND" "round") rfl)
  obtain ⟨t_NOTHING, m_NOTHING⟩ := He.str_ok X G (c.t.d.fact 85 (f := .str "NOTHING" "-") rfl)
  have hex := c.more
  unfold exB at hex
  simp only [Bool.and_eq_true] at hex
  obtain ⟨x1, x2, x3, x4, x5, x6, x7, x8, x9, x10⟩ := hex
  obtain ⟨y1, y2, y3, y4⟩ := He.exc_ok (c.t.d.fact 89 (f := .exc "InvalidPaper") rfl)
  exact ⟨⟨{
    a_is_integer := _, f_is_integer := fd0, F_is_integer := G0, m_is_integer := He.glo_ok X G (c.t.d.fact 0 (f := .glo "is_integer") rfl), k_is_integer := G0.kp, b_is_integer := b0,
    a_is_time := _, f_is_time := fd1, F_is_time := G1, m_is_time := He.glo_ok X G (c.t.d.fact 1 (f := .glo "is_time") rfl), k_is_time := G1.kp, b_is_time := b1,
    a_is_letter := _, f_is_letter := fd2, F_is_letter := G2, m_is_letter := He.glo_ok X G (c.t.d.fact 2 (f := .glo "is_letter") rfl), k_is_letter := G2.kp, b_is_letter := b2,
    a_is_name := _, f_is_name := fd3, F_is_name := G3, m_is_name := He.glo_ok X G (c.t.d.fact 3 (f := .glo "is_name") rfl), k_is_name := G3.kp, b_is_name := b3,
    a_is_event := _, f_is_event := fd4, F_is_event := G4, m_is_event := He.glo_ok X G (c.t.d.fact 4 (f := .glo "is_event") rfl), k_is_event := G4.kp, b_is_event := b4,
    a_are_events := _, f_are_events := fd5, F_are_events := G5, m_are_events := He.glo_ok X G (c.t.d.fact 5 (f := .glo "are_events") rfl), k_are_events := G5.kp, b_are_events := b5,
    a_last_time := _, f_last_time := fd6, F_last_time := G6, m_last_time := He.glo_ok X G (c.t.d.fact 6 (f := .glo "last_time") rfl), k_last_time := G6.kp, b_last_time := b6,
    a_are_rows := _, f_are_rows := fd7, F_are_rows := G7, m_are_rows := He.glo_ok X G (c.t.d.fact 7 (f := .glo "are_rows") rfl), k_are_rows := G7.kp, b_are_rows := b7,
    a_words_in := _, f_words_in := fd8, F_words_in := G8, m_words_in := He.glo_ok X G (c.t.d.fact 8 (f := .glo "words_in") rfl), k_words_in := G8.kp, b_words_in := b8,
    a_is_word := _, f_is_word := fd9, F_is_word := G9, m_is_word := He.glo_ok X G (c.t.d.fact 9 (f := .glo "is_word") rfl), k_is_word := G9.kp, b_is_word := b9,
    a_can_be_written := _, f_can_be_written := fd10, F_can_be_written := G10, m_can_be_written := He.glo_ok X G (c.t.d.fact 10 (f := .glo "can_be_written") rfl), k_can_be_written := G10.kp, b_can_be_written := b10,
    a_has_stand_form := _, f_has_stand_form := fd11, F_has_stand_form := G11, m_has_stand_form := He.glo_ok X G (c.t.d.fact 11 (f := .glo "has_stand_form") rfl), k_has_stand_form := G11.kp, b_has_stand_form := b11,
    a_are_stand_forms := _, f_are_stand_forms := fd12, F_are_stand_forms := G12, m_are_stand_forms := He.glo_ok X G (c.t.d.fact 12 (f := .glo "are_stand_forms") rfl), k_are_stand_forms := G12.kp, b_are_stand_forms := b12,
    a_has_row_form := _, f_has_row_form := fd13, F_has_row_form := G13, m_has_row_form := He.glo_ok X G (c.t.d.fact 13 (f := .glo "has_row_form") rfl), k_has_row_form := G13.kp, b_has_row_form := b13,
    a_has_paper_form := _, f_has_paper_form := fd14, F_has_paper_form := G14, m_has_paper_form := He.glo_ok X G (c.t.d.fact 14 (f := .glo "has_paper_form") rfl), k_has_paper_form := G14.kp, b_has_paper_form := b14,
    a_value_text := _, f_value_text := fd15, F_value_text := G15, m_value_text := He.glo_ok X G (c.t.d.fact 15 (f := .glo "value_text") rfl), k_value_text := G15.kp, b_value_text := b15,
    a_event_text := _, f_event_text := fd16, F_event_text := G16, m_event_text := He.glo_ok X G (c.t.d.fact 16 (f := .glo "event_text") rfl), k_event_text := G16.kp, b_event_text := b16,
    a_paper_lines := _, f_paper_lines := fd17, F_paper_lines := G17, m_paper_lines := He.glo_ok X G (c.t.d.fact 17 (f := .glo "paper_lines") rfl), k_paper_lines := G17.kp, b_paper_lines := b17,
    a_integer_of := _, f_integer_of := fd18, F_integer_of := G18, m_integer_of := He.glo_ok X G (c.t.d.fact 18 (f := .glo "integer_of") rfl), k_integer_of := G18.kp, b_integer_of := b18,
    a_tuple_of := _, f_tuple_of := fd19, F_tuple_of := G19, m_tuple_of := He.glo_ok X G (c.t.d.fact 19 (f := .glo "tuple_of") rfl), k_tuple_of := G19.kp, b_tuple_of := b19,
    a_stand_of := _, f_stand_of := fd20, F_stand_of := G20, m_stand_of := He.glo_ok X G (c.t.d.fact 20 (f := .glo "stand_of") rfl), k_stand_of := G20.kp, b_stand_of := b20,
    a_event_of := _, f_event_of := fd21, F_event_of := G21, m_event_of := He.glo_ok X G (c.t.d.fact 21 (f := .glo "event_of") rfl), k_event_of := G21.kp, b_event_of := b21,
    a_last_of := _, f_last_of := fd22, F_last_of := G22, m_last_of := He.glo_ok X G (c.t.d.fact 22 (f := .glo "last_of") rfl), k_last_of := G22.kp, b_last_of := b22,
    a_rounds_of := _, f_rounds_of := fd23, F_rounds_of := G23, m_rounds_of := He.glo_ok X G (c.t.d.fact 23 (f := .glo "rounds_of") rfl), k_rounds_of := G23.kp, b_rounds_of := b23,
    a_write_paper := _, f_write_paper := fd24, F_write_paper := G24, m_write_paper := He.glo_ok X G (c.t.d.fact 24 (f := .glo "write_paper") rfl), k_write_paper := G24.kp, b_write_paper := b24,
    a_read_paper := _, f_read_paper := fd25, F_read_paper := G25, m_read_paper := He.glo_ok X G (c.t.d.fact 25 (f := .glo "read_paper") rfl), k_read_paper := G25.kp, b_read_paper := b25,
    a__law_start := _, f__law_start := fd26, F__law_start := G26, m__law_start := He.glo_ok X G (c.t.d.fact 26 (f := .glo "_law_start") rfl), k__law_start := G26.kp, b__law_start := b26,
    a__law_throw := _, f__law_throw := fd27, F__law_throw := G27, m__law_throw := He.glo_ok X G (c.t.d.fact 27 (f := .glo "_law_throw") rfl), k__law_throw := G27.kp, b__law_throw := b27,
    a__law_pick := _, f__law_pick := fd28, F__law_pick := G28, m__law_pick := He.glo_ok X G (c.t.d.fact 28 (f := .glo "_law_pick") rfl), k__law_pick := G28.kp, b__law_pick := b28,
    a__law_letters := _, f__law_letters := fd29, F__law_letters := G29, m__law_letters := He.glo_ok X G (c.t.d.fact 29 (f := .glo "_law_letters") rfl), k__law_letters := G29.kp, b__law_letters := b29,
    a__law_words := _, f__law_words := fd30, F__law_words := G30, m__law_words := He.glo_ok X G (c.t.d.fact 30 (f := .glo "_law_words") rfl), k__law_words := G30.kp, b__law_words := b30,
    a__law_name := _, f__law_name := fd31, F__law_name := G31, m__law_name := He.glo_ok X G (c.t.d.fact 31 (f := .glo "_law_name") rfl), k__law_name := G31.kp, b__law_name := b31,
    a__law_layout := _, f__law_layout := fd32, F__law_layout := G32, m__law_layout := He.glo_ok X G (c.t.d.fact 32 (f := .glo "_law_layout") rfl), k__law_layout := G32.kp, b__law_layout := b32,
    a__law_value := _, f__law_value := fd33, F__law_value := G33, m__law_value := He.glo_ok X G (c.t.d.fact 33 (f := .glo "_law_value") rfl), k__law_value := G33.kp, b__law_value := b33,
    a__law_events := _, f__law_events := fd34, F__law_events := G34, m__law_events := He.glo_ok X G (c.t.d.fact 34 (f := .glo "_law_events") rfl), k__law_events := G34.kp, b__law_events := b34,
    a__law_tape := _, f__law_tape := fd35, F__law_tape := G35, m__law_tape := He.glo_ok X G (c.t.d.fact 35 (f := .glo "_law_tape") rfl), k__law_tape := G35.kp, b__law_tape := b35,
    a__law_atom := _, f__law_atom := fd36, F__law_atom := G36, m__law_atom := He.glo_ok X G (c.t.d.fact 36 (f := .glo "_law_atom") rfl), k__law_atom := G36.kp, b__law_atom := b36,
    a__law_shape := _, f__law_shape := fd37, F__law_shape := G37, m__law_shape := He.glo_ok X G (c.t.d.fact 37 (f := .glo "_law_shape") rfl), k__law_shape := G37.kp, b__law_shape := b37,
    a__law_deep := _, f__law_deep := fd38, F__law_deep := G38, m__law_deep := He.glo_ok X G (c.t.d.fact 38 (f := .glo "_law_deep") rfl), k__law_deep := G38.kp, b__law_deep := b38,
    a__law_number := _, f__law_number := fd39, F__law_number := G39, m__law_number := He.glo_ok X G (c.t.d.fact 39 (f := .glo "_law_number") rfl), k__law_number := G39.kp, b__law_number := b39,
    a__law_stand := _, f__law_stand := fd40, F__law_stand := G40, m__law_stand := He.glo_ok X G (c.t.d.fact 40 (f := .glo "_law_stand") rfl), k__law_stand := G40.kp, b__law_stand := b40,
    a__law_stands := _, f__law_stands := fd41, F__law_stands := G41, m__law_stands := He.glo_ok X G (c.t.d.fact 41 (f := .glo "_law_stands") rfl), k__law_stands := G41.kp, b__law_stands := b41,
    a__law_paper := _, f__law_paper := fd42, F__law_paper := G42, m__law_paper := He.glo_ok X G (c.t.d.fact 42 (f := .glo "_law_paper") rfl), k__law_paper := G42.kp, b__law_paper := b42,
    a__law_text := _, f__law_text := fd43, F__law_text := G43, m__law_text := He.glo_ok X G (c.t.d.fact 43 (f := .glo "_law_text") rfl), k__law_text := G43.kp, b__law_text := b43,
    a__law_lines := _, f__law_lines := fd44, F__law_lines := G44, m__law_lines := He.glo_ok X G (c.t.d.fact 44 (f := .glo "_law_lines") rfl), k__law_lines := G44.kp, b__law_lines := b44,
    a__law_integer := _, f__law_integer := fd45, F__law_integer := G45, m__law_integer := He.glo_ok X G (c.t.d.fact 45 (f := .glo "_law_integer") rfl), k__law_integer := G45.kp, b__law_integer := b45,
    a__law_letters_alone := _, f__law_letters_alone := fd46, F__law_letters_alone := G46, m__law_letters_alone := He.glo_ok X G (c.t.d.fact 46 (f := .glo "_law_letters_alone") rfl), k__law_letters_alone := G46.kp, b__law_letters_alone := b46,
    a__law_has_text := _, f__law_has_text := fd47, F__law_has_text := G47, m__law_has_text := He.glo_ok X G (c.t.d.fact 47 (f := .glo "_law_has_text") rfl), k__law_has_text := G47.kp, b__law_has_text := b47,
    a__law_is_stand := _, f__law_is_stand := fd48, F__law_is_stand := G48, m__law_is_stand := He.glo_ok X G (c.t.d.fact 48 (f := .glo "_law_is_stand") rfl), k__law_is_stand := G48.kp, b__law_is_stand := b48,
    a__law_are_stands := _, f__law_are_stands := fd49, F__law_are_stands := G49, m__law_are_stands := He.glo_ok X G (c.t.d.fact 49 (f := .glo "_law_are_stands") rfl), k__law_are_stands := G49.kp, b__law_are_stands := b49,
    a__law_is_event := _, f__law_is_event := fd50, F__law_is_event := G50, m__law_is_event := He.glo_ok X G (c.t.d.fact 50 (f := .glo "_law_is_event") rfl), k__law_is_event := G50.kp, b__law_is_event := b50,
    a__law_is_paper := _, f__law_is_paper := fd51, F__law_is_paper := G51, m__law_is_paper := He.glo_ok X G (c.t.d.fact 51 (f := .glo "_law_is_paper") rfl), k__law_is_paper := G51.kp, b__law_is_paper := b51,
    a__law_spoilt := _, f__law_spoilt := fd52, F__law_spoilt := G52, m__law_spoilt := He.glo_ok X G (c.t.d.fact 52 (f := .glo "_law_spoilt") rfl), k__law_spoilt := G52.kp, b__law_spoilt := b52,
    a__law_right := _, f__law_right := fd53, F__law_right := G53, m__law_right := He.glo_ok X G (c.t.d.fact 53 (f := .glo "_law_right") rfl), k__law_right := G53.kp, b__law_right := b53,
    a__law_case := _, f__law_case := fd54, F__law_case := G54, m__law_case := He.glo_ok X G (c.t.d.fact 54 (f := .glo "_law_case") rfl), k__law_case := G54.kp, b__law_case := b54,
    a_law := _, f_law := fd55, F_law := G55, m_law := He.glo_ok X G (c.t.d.fact 55 (f := .glo "law") rfl), k_law := G55.kp, b_law := b55,
    n_abs := He.free_ok X G (c.t.d.fact 56 (f := .free "abs") rfl),
    n_all := He.free_ok X G (c.t.d.fact 57 (f := .free "all") rfl),
    n_bool := He.free_ok X G (c.t.d.fact 58 (f := .free "bool") rfl),
    n_enumerate := He.free_ok X G (c.t.d.fact 59 (f := .free "enumerate") rfl),
    n_int := He.free_ok X G (c.t.d.fact 60 (f := .free "int") rfl),
    n_isinstance := He.free_ok X G (c.t.d.fact 61 (f := .free "isinstance") rfl),
    n_len := He.free_ok X G (c.t.d.fact 62 (f := .free "len") rfl),
    n_list := He.free_ok X G (c.t.d.fact 63 (f := .free "list") rfl),
    n_max := He.free_ok X G (c.t.d.fact 64 (f := .free "max") rfl),
    n_min := He.free_ok X G (c.t.d.fact 65 (f := .free "min") rfl),
    n_range := He.free_ok X G (c.t.d.fact 66 (f := .free "range") rfl),
    n_repr := He.free_ok X G (c.t.d.fact 67 (f := .free "repr") rfl),
    n_sorted := He.free_ok X G (c.t.d.fact 68 (f := .free "sorted") rfl),
    n_str := He.free_ok X G (c.t.d.fact 69 (f := .free "str") rfl),
    n_tuple := He.free_ok X G (c.t.d.fact 70 (f := .free "tuple") rfl),
    n_zip := He.free_ok X G (c.t.d.fact 71 (f := .free "zip") rfl),
    t_LETTERS := t_LETTERS, m_LETTERS := m_LETTERS,
    t_MAX_VALUE := t_MAX_VALUE, m_MAX_VALUE := m_MAX_VALUE,
    t_MAX_NAME := t_MAX_NAME, m_MAX_NAME := m_MAX_NAME,
    a_WORDS := _, m_WORDS := He.glo_ok X G (c.t.d.fact 75 (f := .glo "WORDS") rfl), h_WORDS := fun w => .tup (.inr (He.tupB_ok x1 H0)) (hv_words wordsS),
    t_MOST_CLOCKS := t_MOST_CLOCKS, m_MOST_CLOCKS := m_MOST_CLOCKS,
    t_OPEN := t_OPEN, m_OPEN := m_OPEN,
    t_CLOSE := t_CLOSE, m_CLOSE := m_CLOSE,
    t_MAX_DEPTH := t_MAX_DEPTH, m_MAX_DEPTH := m_MAX_DEPTH,
    t_MAX_NUMBER_SIGNS := t_MAX_NUMBER_SIGNS, m_MAX_NUMBER_SIGNS := m_MAX_NUMBER_SIGNS,
    t_LIST := t_LIST, m_LIST := m_LIST,
    t_ROW := t_ROW, m_ROW := m_ROW,
    t_UNTIL := t_UNTIL, m_UNTIL := m_UNTIL,
    t_ROUND := t_ROUND, m_ROUND := m_ROUND,
    t_NOTHING := t_NOTHING, m_NOTHING := m_NOTHING},
    {
      cI := _, cP := _, cE := _, mI := He.glo_ok X G (c.t.d.fact 86 (f := .glo "InvalidPaper") rfl), mP := He.glo_ok X G (c.t.d.fact 87 (f := .glo "PushError") rfl), mE := He.glo_ok X G (c.t.d.fact 88 (f := .glo "ParseError") rfl), xI := y1, kI := y2, bI := y3, tI := y4, eI := He.exm_ok (c.t.d.fact 90 (f := .exm "InvalidPaper" "InvalidPaper" true) rfl),
      oI := ⟨He.eqO_ok x2, He.eqO_ok x3, y3, x4, He.eqO_ok x5, He.eqO_ok x6, of_decide_eq_true x7, of_decide_eq_true x8⟩, iP := of_decide_eq_true x9, iE := of_decide_eq_true x10 }⟩⟩
end K49
/-! FL: how readings are evaluated. -/
namespace FL
open PySem PySem.Spec PyProof.Rows L2
set_option autoImplicit false
section
variable {ρ ρ' : Rho} {μ μ1 μ2 : Mu}
/-! ### expressions that leave the store -/
abbrev Ev (F : FE) (ρ : Rho) (μ : Mu) (d : D) : Prop := F ρ μ = .ok d μ
abbrev EvB (F : FB) (ρ : Rho) (μ : Mu) (b : Bool) : Prop := F ρ μ = .ok b μ
abbrev EvA (F : FA) (ρ : Rho) (μ : Mu) (ds : List D) : Prop := F ρ μ = .ok ds μ
theorem ev_var {i : Nat} {d : D} (h : ρ[i]? = some (some d)) : Ev (fVar i) ρ μ d := by
  show fVar i ρ μ = _
  unfold fVar
  rw [h]
theorem ev_c {d : D} : Ev (fC d) ρ μ d := rfl
theorem eva_nil : EvA fNil ρ μ [] := rfl
theorem eva_cons {F : FE} {Fs : FA} {d : D} {ds : List D} (h : Ev F ρ μ d) (hs : EvA Fs ρ μ ds) : EvA (fCons F Fs) ρ μ (d :: ds) := by
  show fCons F Fs ρ μ = _
  unfold fCons
  rw [h, bind_ok, hs, bind_ok]
theorem eva_1 {F : FE} {d : D} (h : Ev F ρ μ d) : EvA (fCons F fNil) ρ μ [d] := eva_cons h eva_nil
theorem eva_2 {F G : FE} {d e : D} (h : Ev F ρ μ d) (h2 : Ev G ρ μ e) : EvA (fCons F (fCons G fNil)) ρ μ [d, e] := eva_cons h (eva_1 h2)
theorem ev_call {g : GL} {Fs : FA} {ds : List D} {r : Rs D} (h : EvA Fs ρ μ ds) (hg : g ds μ = r) : fCall g Fs ρ μ = r := by
  show fCall g Fs ρ μ = _
  unfold fCall
  rw [h]
  exact hg
theorem ev_bin {g : G2} {F G : FE} {a b : D} {r : Rs D} (h1 : Ev F ρ μ a) (h2 : Ev G ρ μ b) (hg : g a b μ = r) : fBin g F G ρ μ = r := by
  show fBin g F G ρ μ = _
  unfold fBin
  rw [h1, bind_ok, h2, bind_ok]
  exact hg
theorem ev_un {g : G1} {F : FE} {a : D} {r : Rs D} (h1 : Ev F ρ μ a) (hg : g a μ = r) : fUn g F ρ μ = r := by
  show fUn g F ρ μ = _
  unfold fUn
  rw [h1]
  exact hg
theorem evb_b {F : FE} {b : Bool} (h : Ev F ρ μ (.bl b)) : EvB (fB F) ρ μ b := by
  show fB F ρ μ = _
  unfold fB
  rw [h]
  rfl
theorem evb_tru {F : FE} {b : Bool} (h : Ev F ρ μ (.bl b)) : EvB (fTru F) ρ μ b := by
  show fTru F ρ μ = _
  unfold fTru
  rw [h]
  rfl
theorem evb_not {F : FB} {b : Bool} (h : EvB F ρ μ b) : EvB (fNot F) ρ μ (!b) := by
  show fNot F ρ μ = _
  unfold fNot
  rw [h]
  rfl
theorem evb_and {F G : FB} {b c : Bool} (h : EvB F ρ μ b) (h2 : b = true → EvB G ρ μ c) : EvB (fAnd F G) ρ μ (b && c) := by
  show fAnd F G ρ μ = _
  unfold fAnd
  rw [h, bind_ok]
  cases b with
  | false => rfl
  | true => rw [if_pos rfl, h2 rfl]; rfl
theorem evb_or {F G : FB} {b c : Bool} (h : EvB F ρ μ b) (h2 : b = false → EvB G ρ μ c) : EvB (fOr F G) ρ μ (b || c) := by
  show fOr F G ρ μ = _
  unfold fOr
  rw [h, bind_ok]
  cases b with
  | true => rfl
  | false => rw [if_neg Bool.false_ne_true, h2 rfl]; rfl
theorem ev_not {F : FE} {b : Bool} (h : Ev F ρ μ (.bl b)) : Ev (fNotV F) ρ μ (.bl (!b)) := by
  show fNotV F ρ μ = _
  unfold fNotV
  rw [evb_b h]
  rfl
theorem ev_and {F G : FE} {b c : Bool} (h : Ev F ρ μ (.bl b)) (h2 : b = true → Ev G ρ μ (.bl c)) : Ev (fAndV F G) ρ μ (.bl (b && c)) := by
  show fAndV F G ρ μ = _
  unfold fAndV
  rw [evb_b h, bind_ok]
  cases b with
  | false => rfl
  | true => rw [if_pos rfl, h2 rfl]; rfl
theorem ev_or {F G : FE} {b c : Bool} (h : Ev F ρ μ (.bl b)) (h2 : b = false → Ev G ρ μ (.bl c)) : Ev (fOrV F G) ρ μ (.bl (b || c)) := by
  show fOrV F G ρ μ = _
  unfold fOrV
  rw [evb_b h, bind_ok]
  cases b with
  | true => rfl
  | false => rw [if_neg Bool.false_ne_true, h2 rfl]; rfl
theorem ev_if {c : FB} {F G : FE} {b : Bool} {r : Rs D} (h : EvB c ρ μ b) (h1 : b = true → F ρ μ = r) (h2 : b = false → G ρ μ = r) : fIf c F G ρ μ = r := by
  unfold fIf
  rw [h, bind_ok]
  cases b with
  | true => rw [if_pos rfl]; exact h1 rfl
  | false => rw [if_neg Bool.false_ne_true]; exact h2 rfl
theorem ev_chain {g g' : G2} {Fa Fb Fc : FE} {x y u : D} {b : Bool} {c : Bool} (h1 : Ev Fa ρ μ x) (h2 : Ev Fb ρ μ y) (hg : g x y μ = .ok (.bl b) μ) (h3 : b = true → Ev Fc ρ μ u ∧ g' y u μ = .ok (.bl c) μ) : Ev (fChain g g' Fa Fb Fc) ρ μ (.bl (b && c)) := by
  show fChain g g' Fa Fb Fc ρ μ = _
  unfold fChain
  rw [h1, bind_ok, h2, bind_ok, hg, bind_ok]
  cases b with
  | false => rfl
  | true =>
    obtain ⟨e1, e2⟩ := h3 rfl
    simp only [e1, bind_ok, e2, Bool.true_and]
theorem ev_tup {Fs : FA} {ds : List D} (h : EvA Fs ρ μ ds) (hz : ds.length ≤ sizeLine) : Ev (fTup Fs) ρ μ (.tup ds) := by
  show fTup Fs ρ μ = _
  unfold fTup
  rw [h, bind_ok, if_pos hz]
theorem ev_lst {Fs : FA} {ds : List D} (h : EvA Fs ρ μ ds) (hz : ds.length ≤ sizeLine) : Ev (fLst Fs) ρ μ (.lst ds) := by
  show fLst Fs ρ μ = _
  unfold fLst
  rw [h, bind_ok, if_pos hz]
theorem ev_meth {T : String} {g : GM} {F : FE} {Fs : FA} {d : D} {ds : List D} {r : Rs D} (h1 : Ev F ρ μ d) (ht : tyOk T μ d = true) (h2 : EvA Fs ρ μ ds) (hg : g d ds μ = r) : fMeth T g F Fs ρ μ = r := by
  unfold fMeth
  rw [h1, bind_ok, if_pos ht, h2, bind_ok]
  exact hg
theorem eva_tup {F : FE} {ds : List D} (h : Ev F ρ μ (.tup ds)) : EvA (fItT F) ρ μ ds := by
  show fItT F ρ μ = _
  unfold fItT
  rw [h]
  rfl
theorem eva_lst {F : FE} {ds : List D} (h : Ev F ρ μ (.lst ds)) : EvA (fItL F) ρ μ ds := by
  show fItL F ρ μ = _
  unfold fItL
  rw [h]
  rfl
theorem eva_str {F : FE} {x : Str} (h : Ev F ρ μ (.str x)) : EvA (fItS F) ρ μ (x.cps.toList.map sign) := by
  show fItS F ρ μ = _
  unfold fItS
  rw [h]
  rfl
/-! ### statements, from the left: what follows a statement -/
theorem st_ret {F : FE} {d : D} (h : F ρ μ = .ok d μ1) : gRet F ρ μ = .ok (.rt d) μ1 := by
  unfold gRet
  rw [h]
  rfl
theorem st_if {c : FB} {G1 G2 : FS} {b : Bool} {r : Rs Ot} (h : EvB c ρ μ b) (h1 : b = true → G1 ρ μ = r) (h2 : b = false → G2 ρ μ = r) : gIf c G1 G2 ρ μ = r := by
  unfold gIf
  rw [h, bind_ok]
  cases b with
  | true => rw [if_pos rfl]; exact h1 rfl
  | false => rw [if_neg Bool.false_ne_true]; exact h2 rfl
theorem st_seq {G1 G2 : FS} {r : Rs Ot} (h1 : G1 ρ μ = .ok (.nx ρ') μ1) (h2 : G2 ρ' μ1 = r) : gSeq G1 G2 ρ μ = r := by
  unfold gSeq
  rw [h1]
  exact h2
theorem st_seq_rt {G1 G2 : FS} {d : D} (h1 : G1 ρ μ = .ok (.rt d) μ1) : gSeq G1 G2 ρ μ = .ok (.rt d) μ1 := by
  unfold gSeq
  rw [h1]
/-- if c: .. (which returns); rest -/
theorem st_guard {c : FB} {G1 G2 : FS} {b : Bool} {d : D} {μ' : Mu} (h : EvB c ρ μ b) (h1 : b = true → G1 ρ μ = .ok (.rt d) μ') (h2 : b = false → G2 ρ μ = .ok (.rt d) μ') : gSeq (gIf c G1 gNx) G2 ρ μ = .ok (.rt d) μ' := by
  cases b with
  | true => exact st_seq_rt (st_if h (fun _ => h1 rfl) (fun z => by cases z))
  | false => exact st_seq (st_if h (fun z => by cases z) (fun _ => rfl)) (h2 rfl)
theorem st_set {F : FE} {T : FT} {d : D} (h : F ρ μ = .ok d μ1) (hT : T d ρ = some ρ') : gSet F T ρ μ = .ok (.nx ρ') μ1 := by
  unfold gSet
  rw [h, bind_ok, hT]
theorem st_expr {F : FE} {d : D} (h : F ρ μ = .ok d μ1) : gExpr F ρ μ = .ok (.nx ρ) μ1 := by
  unfold gExpr
  rw [h]
  rfl
theorem run_ok {n : Nat} {G : FS} {ds : List D} {d : D} (h : G (enter n ds) μ = .ok (.rt d) μ1) : runK n G ds μ = .ok d μ1 := by
  unfold runK
  rw [h]
theorem run_ret {n : Nat} {F : FE} {ds : List D} {d : D} (h : F (enter n ds) μ = .ok d μ1) : runK n (gRet F) ds μ = .ok d μ1 := run_ok (st_ret h)
/-! ### comprehensions -/
theorem cLoop_pure {T : FT} {t : FB} {F : FE} (b : D → Bool) (y : D → D) : ∀ (ds acc : List D), (∀ d ∈ ds, ∃ ρ1, T d ρ = some ρ1 ∧ t ρ1 μ = .ok (b d) μ ∧ (b d = true → F ρ1 μ = .ok (y d) μ)) → acc.length + ds.length ≤ sizeLine → cLoop T t F ρ ds acc μ = .ok (acc ++ (ds.filter b).map y) μ
  | [], acc, _, _ => by simp [cLoop]
  | d :: ds, acc, h, hz => by
    obtain ⟨ρ1, e1, e2, e3⟩ := h d List.mem_cons_self
    have hz' : acc.length + (ds.length + 1) ≤ sizeLine := by simpa using hz
    rw [cLoop, e1]
    simp only
    rw [e2]
    simp only [Rs.noex, bind_ok]
    cases hb : b d with
    | false =>
      rw [if_neg Bool.false_ne_true, cLoop_pure b y ds acc (fun x hx => h x (List.mem_cons_of_mem _ hx)) (by omega)]
      simp [hb]
    | true =>
      rw [if_pos rfl, e3 hb]
      simp only [bind_ok]
      rw [if_pos (by omega), cLoop_pure b y ds (acc ++ [y d]) (fun x hx => h x (List.mem_cons_of_mem _ hx)) (by rw [List.length_append, List.length_singleton]; omega)]
      simp [hb]
theorem ev_comp {is : List Nat} {Fi : FA} {T : FT} {t : FB} {F : FE} {ds : List D} (b : D → Bool) (y : D → D) (hi : EvA Fi ρ μ ds) (h : ∀ d ∈ ds, ∃ ρ1, T d (wipeR ρ is) = some ρ1 ∧ t ρ1 μ = .ok (b d) μ ∧ (b d = true → F ρ1 μ = .ok (y d) μ)) (hz : ds.length ≤ sizeLine) : Ev (fComp is Fi T t F) ρ μ (.lst ((ds.filter b).map y)) := by
  show fComp is Fi T t F ρ μ = _
  unfold fComp
  rw [hi, bind_ok, cLoop_pure b y ds [] h (by simpa using hz)]
  simp [bind_ok]
/-- without a test -/
theorem ev_compY {is : List Nat} {Fi : FA} {T : FT} {F : FE} {ds : List D} (y : D → D) (hi : EvA Fi ρ μ ds) (h : ∀ d ∈ ds, ∃ ρ1, T d (wipeR ρ is) = some ρ1 ∧ F ρ1 μ = .ok (y d) μ) (hz : ds.length ≤ sizeLine) : Ev (fComp is Fi T fYes F) ρ μ (.lst (ds.map y)) := by
  have e := ev_comp (t := fYes) (fun _ => true) y hi (fun d hd => by obtain ⟨ρ1, e1, e2⟩ := h d hd; exact ⟨ρ1, e1, rfl, fun _ => e2⟩) hz
  have hf : ds.filter (fun _ : D => true) = ds := by simp
  rwa [hf] at e
/-! ### loops that return at a first item -/
theorem loop_any {T : FT} {G : FS} (p : D → Bool) (r : D) (I : Rho → Prop) : ∀ (ds : List D) (ρ : Rho), (∀ d ∈ ds, ∀ ρ, I ρ → ∃ ρ1, T d ρ = some ρ1 ∧ (p d = true → G ρ1 μ = .ok (.rt r) μ) ∧ (p d = false → ∃ ρ2, G ρ1 μ = .ok (.nx ρ2) μ ∧ I ρ2)) → I ρ →
    (ds.any p = true → gLoop T G ds ρ μ = .ok (.rt r) μ) ∧ (ds.any p = false → ∃ ρ', gLoop T G ds ρ μ = .ok (.nx ρ') μ ∧ I ρ')
  | [], ρ, _, hI => ⟨fun h => by simp at h, fun _ => ⟨ρ, rfl, hI⟩⟩
  | d :: ds, ρ, h, hI => by
    obtain ⟨ρ1, e1, e2, e3⟩ := h d List.mem_cons_self ρ hI
    cases hp : p d with
    | true =>
      refine ⟨fun _ => ?_, fun z => by simp [hp] at z⟩
      rw [gLoop, e1]
      simp only
      rw [e2 hp]
    | false =>
      obtain ⟨ρ2, e4, hI2⟩ := e3 hp
      obtain ⟨k1, k2⟩ := loop_any p r I ds ρ2 (fun x hx => h x (List.mem_cons_of_mem _ hx)) hI2
      have step : gLoop T G (d :: ds) ρ μ = gLoop T G ds ρ2 μ := by
        rw [gLoop, e1]
        simp only
        rw [e4]
      rw [step]
      simp only [List.any_cons, hp, Bool.false_or]
      exact ⟨k1, k2⟩
theorem st_for {Fi : FA} {T : FT} {G : FS} {ds : List D} {r : Rs Ot} (hi : Fi ρ μ = .ok ds μ1) (h : gLoop T G ds ρ μ1 = r) : gFor Fi T G ρ μ = r := by
  unfold gFor
  rw [hi]
  exact h
end
theorem blL_map {α : Type} (f : α → Bool) : ∀ xs : List α, blL (xs.map fun x => D.bl (f x)) = some (xs.map f)
  | [] => rfl
  | x :: xs => by simp [blL, blL_map f xs]
theorem all_id {α : Type} (f : α → Bool) (xs : List α) : (xs.map f).all id = xs.all f := by
  rw [List.all_map]
  rfl
theorem gAll_map (f : D → Bool) (xs : List D) (μ : Mu) : gAll [.lst (xs.map fun x => D.bl (f x))] μ = .ok (.bl (xs.all f)) μ := by
  simp only [gAll, blL_map, all_id]
end FL
/-! FL: readings run step by step. W r Q: r ends well, in Q. -/
namespace FL
open PySem PySem.Spec PyProof.Rows L2
set_option autoImplicit false
inductive W {α : Type} : Rs α → (α → Mu → Prop) → Prop
  | mk {a : α} {μ : Mu} {Q : α → Mu → Prop} (h : Q a μ) : W (.ok a μ) Q
section
variable {α β : Type}
theorem W_ok (a : α) (μ : Mu) (Q : α → Mu → Prop) : W (.ok a μ) Q = Q a μ := propext ⟨fun h => (by cases h with | mk h => exact h), .mk⟩
theorem W_no (Q : α → Mu → Prop) : W (.no : Rs α) Q = False := propext ⟨fun h => (by cases h), fun h => h.elim⟩
theorem W_ex (C : Addr) (fs : List (Str × D)) (μ : Mu) (Q : α → Mu → Prop) : W (.ex C fs μ : Rs α) Q = False := propext ⟨fun h => (by cases h), fun h => h.elim⟩
theorem W_bind (r : Rs α) (f : α → Mu → Rs β) (Q : β → Mu → Prop) : W (r.bind f) Q = W r fun a μ => W (f a μ) Q := by
  cases r with
  | ok a μ => rw [W_ok]; rfl
  | ex C fs μ => rw [W_ex]; exact W_ex C fs μ Q
  | no => rw [W_no]; exact W_no Q
theorem W_noex (r : Rs α) (Q : α → Mu → Prop) : W r.noex Q = W r Q := by
  cases r with
  | ex C fs μ => rw [W_ex]; exact W_no Q
  | _ => rfl
theorem W.mono {r : Rs α} {P Q : α → Mu → Prop} (h : W r P) (k : ∀ a μ, P a μ → Q a μ) : W r Q := by
  cases h with
  | mk h => exact .mk (k _ _ h)
theorem W.eq {r : Rs α} {a : α} {μ : Mu} (h : W r fun b μ' => b = a ∧ μ' = μ) : r = .ok a μ := by
  cases h with
  | mk h => obtain ⟨rfl, rfl⟩ := h; rfl
theorem W.of {r : Rs α} {a : α} {μ : Mu} {Q : α → Mu → Prop} (h : r = .ok a μ) (q : Q a μ) : W r Q := by rw [h]; exact .mk q
theorem W.ex {r : Rs α} {Q : α → Mu → Prop} (h : W r Q) : ∃ a μ, r = .ok a μ ∧ Q a μ := by
  cases h with
  | mk h => exact ⟨_, _, rfl, h⟩
theorem W_ite (c : Prop) [Decidable c] (r : Rs α) (Q : α → Mu → Prop) : W (if c then r else .no) Q = (c ∧ W r Q) := by
  by_cases h : c
  · simp [h]
  · simp [h, W_no]
theorem W_iteQ (c : Prop) [Decidable c] (a : α) (μ : Mu) (Q : α → Mu → Prop) : W (if c then .ok a μ else .no) Q = (c ∧ Q a μ) := by rw [W_ite, W_ok]
theorem W_bindQ (r : Rs α) (f : α → β) (Q : β → Mu → Prop) : W (r.bind fun a μ => .ok (f a) μ) Q = W r fun a μ => Q (f a) μ := by
  rw [W_bind]
  simp only [W_ok]
/-- both ways -/
def br (b : Bool) (P Q : Prop) : Prop := (b = true → P) ∧ (b = false → Q)
theorem br_t (P Q : Prop) : br true P Q = P := by simp [br]
theorem br_f (P Q : Prop) : br false P Q = Q := by simp [br]
theorem W_if (b : Bool) (r s : Rs α) (Q : α → Mu → Prop) : W (if b = true then r else s) Q = br b (W r Q) (W s Q) := by cases b <;> simp [br]
/-- after a statement -/
def kS (G : FS) (Q : Ot → Mu → Prop) (o : Ot) (μ : Mu) : Prop := match o with
  | .nx ρ => W (G ρ μ) Q
  | o => Q o μ
def getR (o : Option (Option D)) (μ : Mu) (Q : D → Mu → Prop) : Prop := match o with
  | some (some d) => Q d μ
  | _ => False
def setR (o : Option Rho) (μ : Mu) (Q : Ot → Mu → Prop) : Prop := match o with
  | some ρ => Q (.nx ρ) μ
  | none => False
def truD (d : D) (μ : Mu) : Rs Bool := match d with
  | .non => .ok false μ
  | .bl b => .ok b μ
  | .int i => .ok (i != 0) μ
  | .str y => if y.length ≤ sizeLine then .ok ((y.length : Int) != 0) μ else .no
  | .tup ds => .ok (!ds.isEmpty) μ
  | .lst ds => .ok (!ds.isEmpty) μ
  | .rol ds => .ok (!ds.isEmpty) μ
  | .ref k => match μ[k]? with
    | some (.lst ds) => .ok (!ds.isEmpty) μ
    | _ => .no
  | _ => .no
def chB (d : D) (μ : Mu) (P Q : Mu → Prop) : Prop := match d with
  | .bl true => P μ
  | .bl false => Q μ
  | _ => False
def kR (Q : D → Mu → Prop) (o : Ot) (μ : Mu) : Prop := match o with
  | .rt d => Q d μ
  | .nx _ => Q .non μ
  | _ => False
end
section
variable {n : Nat} {G : FS} {ds : List D} {μ : Mu} {Q : D → Mu → Prop}
theorem runK_W (h : W (G (enter n ds) μ) (kR Q)) : W (runK n G ds μ) Q := by
  unfold runK
  cases q : G (enter n ds) μ with
  | ok o μ1 =>
    rw [q, W_ok] at h
    cases o with
    | rt d => exact .mk h
    | nx ρ => exact .mk h
    | bk ρ => exact h.elim
    | ct ρ => exact h.elim
  | ex C fs μ1 => rw [q, W_ex] at h; exact h.elim
  | no => rw [q, W_no] at h; exact h.elim
/-- the caller's objects stand, or hold data of the caller's -/
def Fit (μ μ0 : Mu) : Prop := ∀ k o, k < μ.length → μ0[k]? = some o → μ[k]? = some o ∨ o.inn μ.length = true
def kG (μ : Mu) (Q : D → Mu → Prop) (o : Ot) (μ0 : Mu) : Prop := match o with
  | .rt d => Fit μ μ0 ∧ (match d with
    | .ref k => if μ.length ≤ k then (match μ0[k]? with
      | some (.lst ds) => innL μ.length ds = true ∧ Q (.lst ds) (μ0.take μ.length)
      | some (.dct kvs) => innD μ.length kvs = true ∧ Q (.dct kvs) (μ0.take μ.length)
      | none => False) else Q (.ref k) (μ0.take μ.length)
    | d => d.inn μ.length = true ∧ Q d (μ0.take μ.length))
  | _ => False
theorem runG_W (h : W (G (enter n ds) μ) (kG μ Q)) : W (runG n G ds μ) Q := by
  unfold runG
  cases q : G (enter n ds) μ with
  | ok o μ1 =>
    rw [q, W_ok] at h
    cases o with
    | rt d =>
      obtain ⟨f, h⟩ := h
      show W (leaveD μ d μ1) Q
      unfold leaveD
      have f' : ∀ (k : Nat) (o : Ob), k < μ.length → μ1[k]? = some o → μ[k]? = some o ∨ o.inn μ.length = true := f
      rw [if_pos f']
      cases d with
      | ref k =>
        by_cases hk : μ.length ≤ k
        · simp only [hk, if_true] at h ⊢
          cases e : μ1[k]? with
          | none => rw [e] at h; exact h.elim
          | some o =>
            rw [e] at h
            cases o with
            | lst ds =>
              obtain ⟨h1, h2⟩ := h
              simp only [h1, if_true]
              exact .mk h2
            | dct kvs =>
              obtain ⟨h1, h2⟩ := h
              simp only [h1, if_true]
              exact .mk h2
        · simp only [hk, if_false] at h ⊢
          exact .mk h
      | _ =>
        obtain ⟨h1, h2⟩ := h
        simp only [h1, if_true]
        exact .mk h2
    | nx ρ => exact h.elim
    | bk ρ => exact h.elim
    | ct ρ => exact h.elim
  | ex C fs μ1 => rw [q, W_ex] at h; exact h.elim
  | no => rw [q, W_no] at h; exact h.elim
end
/-- how readings run -/
theorem flS : (∀ (A B : FS) (ρ : Rho) (μ : Mu) (Q : Ot → Mu → Prop), W (gSeq A B ρ μ) Q = W (A ρ μ) (kS B Q))
  ∧ (∀ (B : FS) (Q : Ot → Mu → Prop) (ρ : Rho) (μ : Mu), kS B Q (.nx ρ) μ = W (B ρ μ) Q)
  ∧ (∀ (B : FS) (Q : Ot → Mu → Prop) (d : D) (μ : Mu), kS B Q (.rt d) μ = Q (.rt d) μ)
  ∧ (∀ (B : FS) (Q : Ot → Mu → Prop) (ρ : Rho) (μ : Mu), kS B Q (.bk ρ) μ = Q (.bk ρ) μ)
  ∧ (∀ (B : FS) (Q : Ot → Mu → Prop) (ρ : Rho) (μ : Mu), kS B Q (.ct ρ) μ = Q (.ct ρ) μ)
  ∧ (∀ (Q : D → Mu → Prop) (d : D) (μ : Mu), kR Q (.rt d) μ = Q d μ)
  ∧ (∀ (Q : D → Mu → Prop) (ρ : Rho) (μ : Mu), kR Q (.nx ρ) μ = Q .non μ)
  ∧ (∀ (ρ : Rho) (μ : Mu) (Q : Ot → Mu → Prop), W (gNx ρ μ) Q = Q (.nx ρ) μ)
  ∧ (∀ (ρ : Rho) (μ : Mu) (Q : Ot → Mu → Prop), W (gBrk ρ μ) Q = Q (.bk ρ) μ)
  ∧ (∀ (ρ : Rho) (μ : Mu) (Q : Ot → Mu → Prop), W (gCnt ρ μ) Q = Q (.ct ρ) μ)
  ∧ (∀ (F : FE) (ρ : Rho) (μ : Mu) (Q : Ot → Mu → Prop), W (gRet F ρ μ) Q = W (F ρ μ) fun d μ1 => Q (.rt d) μ1)
  ∧ (∀ (F : FE) (ρ : Rho) (μ : Mu) (Q : Ot → Mu → Prop), W (gExpr F ρ μ) Q = W (F ρ μ) fun _ μ1 => Q (.nx ρ) μ1)
  ∧ (∀ (F : FE) (i : Nat) (ρ : Rho) (μ : Mu) (Q : Ot → Mu → Prop), W (gSet F (tgN i) ρ μ) Q = W (F ρ μ) fun d μ1 => Q (.nx (ρ.set i (some d))) μ1)
  ∧ (∀ (c : FB) (A B : FS) (ρ : Rho) (μ : Mu) (Q : Ot → Mu → Prop), W (gIf c A B ρ μ) Q = W (c ρ μ) fun b μ1 => br b (W (A ρ μ1) Q) (W (B ρ μ1) Q))
  ∧ (∀ (P Q : Prop), br true P Q = P) ∧ (∀ (P Q : Prop), br false P Q = Q) := by
  refine ⟨fun A B ρ μ Q => ?_, fun _ _ _ _ => (by first | rfl | exact W_ok _ _ _), fun _ _ _ _ => (by first | rfl | exact W_ok _ _ _), fun _ _ _ _ => (by first | rfl | exact W_ok _ _ _), fun _ _ _ _ => (by first | rfl | exact W_ok _ _ _), fun _ _ _ => (by first | rfl | exact W_ok _ _ _), fun _ _ _ => (by first | rfl | exact W_ok _ _ _), fun _ _ _ => (by first | rfl | exact W_ok _ _ _), fun _ _ _ => (by first | rfl | exact W_ok _ _ _), fun _ _ _ => (by first | rfl | exact W_ok _ _ _), fun F ρ μ Q => ?_, fun F ρ μ Q => ?_, fun F i ρ μ Q => ?_, fun c A B ρ μ Q => ?_, br_t, br_f⟩
  · unfold gSeq
    cases A ρ μ with
    | ok o μ1 =>
      cases o with
      | nx ρ => exact (W_ok (Ot.nx ρ) μ1 (kS B Q)).symm
      | rt d => exact (W_ok _ _ _).trans (W_ok (Ot.rt d) μ1 (kS B Q)).symm
      | bk d => exact (W_ok _ _ _).trans (W_ok (Ot.bk d) μ1 (kS B Q)).symm
      | ct d => exact (W_ok _ _ _).trans (W_ok (Ot.ct d) μ1 (kS B Q)).symm
    | ex C fs μ1 => exact (W_ex _ _ _ _).trans (W_ex _ _ _ _).symm
    | no => exact (W_no _).trans (W_no _).symm
  · unfold gRet; simp only [W_bind, W_ok]
  · unfold gExpr; simp only [W_bind, W_ok]
  · unfold gSet tgN
    simp only [W_bind, W_ok]
  · unfold gIf
    rw [W_bind]
    simp only [W_if]
theorem flE : (∀ (i : Nat) (ρ : Rho) (μ : Mu) (Q : D → Mu → Prop), W (fVar i ρ μ) Q = getR ρ[i]? μ Q)
  ∧ (∀ (d : D) (μ : Mu) (Q : D → Mu → Prop), getR (some (some d)) μ Q = Q d μ)
  ∧ (∀ (d : D) (ρ : Rho) (μ : Mu) (Q : D → Mu → Prop), W (fC d ρ μ) Q = Q d μ)
  ∧ (∀ (ρ : Rho) (μ : Mu) (Q : List D → Mu → Prop), W (fNil ρ μ) Q = Q [] μ)
  ∧ (∀ (F : FE) (Fs : FA) (ρ : Rho) (μ : Mu) (Q : List D → Mu → Prop), W (fCons F Fs ρ μ) Q = W (F ρ μ) fun d μ1 => W (Fs ρ μ1) fun ds μ2 => Q (d :: ds) μ2)
  ∧ (∀ (g : GL) (Fs : FA) (ρ : Rho) (μ : Mu) (Q : D → Mu → Prop), W (fCall g Fs ρ μ) Q = W (Fs ρ μ) fun ds μ1 => W (g ds μ1) Q)
  ∧ (∀ (g : G2) (F G : FE) (ρ : Rho) (μ : Mu) (Q : D → Mu → Prop), W (fBin g F G ρ μ) Q = W (F ρ μ) fun a μ1 => W (G ρ μ1) fun b μ2 => W (g a b μ2) Q)
  ∧ (∀ (g : G1) (F : FE) (ρ : Rho) (μ : Mu) (Q : D → Mu → Prop), W (fUn g F ρ μ) Q = W (F ρ μ) fun a μ1 => W (g a μ1) Q)
  ∧ (∀ (F : FE) (ρ : Rho) (μ : Mu) (Q : Bool → Mu → Prop), W (fB F ρ μ) Q = W (F ρ μ) fun a μ1 => W (toB a μ1) Q)
  ∧ (∀ (b : Bool) (μ : Mu) (Q : Bool → Mu → Prop), W (toB (.bl b) μ) Q = Q b μ)
  ∧ (∀ (F : FE) (ρ : Rho) (μ : Mu) (Q : Bool → Mu → Prop), W (fTru F ρ μ) Q = W (F ρ μ) fun a μ1 => W (truD a μ1) Q)
  ∧ (∀ (b : Bool) (μ : Mu) (Q : Bool → Mu → Prop), W (truD (.bl b) μ) Q = Q b μ)
  ∧ (∀ (ds : List D) (μ : Mu) (Q : Bool → Mu → Prop), W (truD (.tup ds) μ) Q = Q (!ds.isEmpty) μ)
  ∧ (∀ (F : FB) (ρ : Rho) (μ : Mu) (Q : Bool → Mu → Prop), W (fNot F ρ μ) Q = W (F ρ μ) fun b μ1 => Q (!b) μ1)
  ∧ (∀ (F G : FB) (ρ : Rho) (μ : Mu) (Q : Bool → Mu → Prop), W (fAnd F G ρ μ) Q = W (F ρ μ) fun b μ1 => br b (W (G ρ μ1) Q) (Q false μ1))
  ∧ (∀ (F G : FB) (ρ : Rho) (μ : Mu) (Q : Bool → Mu → Prop), W (fOr F G ρ μ) Q = W (F ρ μ) fun b μ1 => br b (Q true μ1) (W (G ρ μ1) Q))
  ∧ (∀ (F : FE) (ρ : Rho) (μ : Mu) (Q : D → Mu → Prop), W (fNotV F ρ μ) Q = W (fB F ρ μ) fun b μ1 => Q (.bl (!b)) μ1)
  ∧ (∀ (F G : FE) (ρ : Rho) (μ : Mu) (Q : D → Mu → Prop), W (fAndV F G ρ μ) Q = W (fB F ρ μ) fun b μ1 => br b (W (G ρ μ1) Q) (Q (.bl false) μ1))
  ∧ (∀ (F G : FE) (ρ : Rho) (μ : Mu) (Q : D → Mu → Prop), W (fOrV F G ρ μ) Q = W (fB F ρ μ) fun b μ1 => br b (Q (.bl true) μ1) (W (G ρ μ1) Q))
  ∧ (∀ (c : FB) (F G : FE) (ρ : Rho) (μ : Mu) (Q : D → Mu → Prop), W (fIf c F G ρ μ) Q = W (c ρ μ) fun b μ1 => br b (W (F ρ μ1) Q) (W (G ρ μ1) Q))
  ∧ (∀ (g g' : G2) (F G K : FE) (ρ : Rho) (μ : Mu) (Q : D → Mu → Prop), W (fChain g g' F G K ρ μ) Q = W (F ρ μ) fun x μ1 => W (G ρ μ1) fun y μ2 => W (g x y μ2) fun z μ3 => chB z μ3 (fun μ3 => W (K ρ μ3) fun u μ4 => W (g' y u μ4) Q) (fun μ3 => Q (.bl false) μ3))
  ∧ (∀ (b : Bool) (μ : Mu) (P Q : Mu → Prop), chB (.bl b) μ P Q = br b (P μ) (Q μ))
  ∧ (∀ (Fs : FA) (ρ : Rho) (μ : Mu) (Q : D → Mu → Prop), W (fTup Fs ρ μ) Q = W (Fs ρ μ) fun ds μ1 => ds.length ≤ sizeLine ∧ Q (.tup ds) μ1)
  ∧ (∀ (Fs : FA) (ρ : Rho) (μ : Mu) (Q : D → Mu → Prop), W (fLst Fs ρ μ) Q = W (Fs ρ μ) fun ds μ1 => ds.length ≤ sizeLine ∧ Q (.lst ds) μ1)
  ∧ (∀ (Fs : FA) (ρ : Rho) (μ : Mu) (Q : D → Mu → Prop), W (fMut Fs ρ μ) Q = W (Fs ρ μ) fun ds μ1 => ds.length ≤ sizeLine ∧ Q (.ref μ1.length) (μ1 ++ [.lst ds]))
  ∧ (∀ (a : D) (μ : Mu) (Q : D → Mu → Prop), W (Rs.ok a μ) Q = Q a μ)
  ∧ (∀ (a : Bool) (μ : Mu) (Q : Bool → Mu → Prop), W (Rs.ok a μ) Q = Q a μ) := by
  refine ⟨fun i ρ μ Q => ?_, fun _ _ _ => (by first | rfl | exact W_ok _ _ _), fun _ _ _ _ => (by first | rfl | exact W_ok _ _ _), fun _ _ _ => (by first | rfl | exact W_ok _ _ _), fun F Fs ρ μ Q => ?_, fun _ _ _ _ _ => W_bind _ _ _, fun g F G ρ μ Q => ?_, fun _ _ _ _ _ => W_bind _ _ _, fun _ _ _ _ => W_bind _ _ _, fun _ _ _ => (by first | rfl | exact W_ok _ _ _), fun F ρ μ Q => ?_, fun _ _ _ => (by first | rfl | exact W_ok _ _ _), fun _ _ _ => (by first | rfl | exact W_ok _ _ _), fun F ρ μ Q => W_bindQ _ _ _, fun F G ρ μ Q => ?_, fun F G ρ μ Q => ?_, fun F ρ μ Q => W_bindQ _ _ _, fun F G ρ μ Q => ?_, fun F G ρ μ Q => ?_, fun c F G ρ μ Q => ?_, fun g g' F G K ρ μ Q => ?_, fun b μ P Q => ?_, fun Fs ρ μ Q => ?_, fun Fs ρ μ Q => ?_, fun Fs ρ μ Q => ?_, fun _ _ _ => (by first | rfl | exact W_ok _ _ _), fun _ _ _ => (by first | rfl | exact W_ok _ _ _)⟩
  · unfold fVar getR
    cases ρ[i]? with
    | none => exact W_no _
    | some o => cases o <;> first | exact W_ok _ _ _ | exact W_no _
  · unfold fCons
    simp only [W_bind, W_ok]
  · unfold fBin
    simp only [W_bind]
  · unfold fTru
    rw [W_bind]
    rfl
  · unfold fAnd; simp only [W_bind, W_if, W_ok]
  · unfold fOr; simp only [W_bind, W_if, W_ok]
  · unfold fAndV; simp only [W_bind, W_if, W_ok]
  · unfold fOrV; simp only [W_bind, W_if, W_ok]
  · unfold fIf; simp only [W_bind, W_if]
  · unfold fChain
    simp only [W_bind]
    congr 1; funext x μ1; congr 1; funext y μ2; congr 1; funext z μ3
    cases z with
    | bl b => cases b <;> simp only [W_bind, chB, W_ok]
    | _ => exact W_no _
  · cases b <;> simp [br, chB]
  · unfold fTup; simp only [W_bind, W_ite, W_ok]
  · unfold fLst; simp only [W_bind, W_ite, W_ok]
  · unfold fMut; simp only [W_bind, W_ite, W_ok]
/-! ### operators at data -/
def getO (o : Option D) (μ : Mu) (Q : D → Mu → Prop) : Prop := match o with
  | some d => Q d μ
  | none => False
def putO (o : Option Mu) (Q : Mu → Prop) : Prop := match o with
  | some μ => Q μ
  | none => False
def itT (d : D) (μ : Mu) : Rs (List D) := match d with
  | .tup ds => .ok ds μ
  | _ => .no
def itL (d : D) (μ : Mu) : Rs (List D) := match d with
  | .lst ds => .ok ds μ
  | .rol ds => .ok ds μ
  | _ => .no
def itS (d : D) (μ : Mu) : Rs (List D) := match d with
  | .str x => .ok (x.cps.toList.map sign) μ
  | _ => .no
def itR1 (ds : List D) (μ : Mu) : Rs (List D) := match ds with
  | [.int j] => if -(2 ^ 62) ≤ j ∧ j < 2 ^ 62 then .ok (upto 0 j.toNat) μ else .no
  | _ => .no
def isN : D → Bool
  | .non => true
  | _ => false
def pI (d : D) (μ : Mu) : Rs (Option Int) := match d with
  | .int i => .ok (some i) μ
  | _ => .no
theorem flO : (∀ (i j : Int) (μ : Mu) (Q : D → Mu → Prop), W (gAdd (.int i) (.int j) μ) Q = Q (.int (i + j)) μ)
  ∧ (∀ (i j : Int) (μ : Mu) (Q : D → Mu → Prop), W (gSub (.int i) (.int j) μ) Q = Q (.int (i - j)) μ)
  ∧ (∀ (i j : Int) (μ : Mu) (Q : D → Mu → Prop), W (gMul (.int i) (.int j) μ) Q = (i.natAbs.log2 + j.natAbs.log2 < 1000000 ∧ Q (.int (i * j)) μ))
  ∧ (∀ (i j : Int) (μ : Mu) (Q : D → Mu → Prop), W (gFdiv (.int i) (.int j) μ) Q = ((0 < j ∧ j.natAbs.log2 < 9000) ∧ Q (.int (i / j)) μ))
  ∧ (∀ (i j : Int) (μ : Mu) (Q : D → Mu → Prop), W (gMod (.int i) (.int j) μ) Q = (0 < j ∧ Q (.int (i % j)) μ))
  ∧ (∀ (i j : Int) (μ : Mu) (Q : D → Mu → Prop), W (gPow (.int i) (.int j) μ) Q = ((0 ≤ j ∧ (Builtin.Int.intBits i : Int) * j ≤ 2 ^ 27) ∧ Q (.int (i ^ j.toNat)) μ))
  ∧ (∀ (i : Int) (μ : Mu) (Q : D → Mu → Prop), W (gNeg (.int i) μ) Q = Q (.int (-i)) μ)
  ∧ (∀ (f : Int → Int → Bool) (i j : Int) (μ : Mu) (Q : D → Mu → Prop), W (gCmp f (.int i) (.int j) μ) Q = Q (.bl (f i j)) μ)
  ∧ (∀ (i : Int) (μ : Mu) (Q : D → Mu → Prop), W (gInt [.int i] μ) Q = Q (.int i) μ)
  ∧ (∀ (b : Bool) (μ : Mu) (Q : D → Mu → Prop), W (gInt [.bl b] μ) Q = Q (.int (if b = true then 1 else 0)) μ)
  ∧ (∀ (i : Int) (μ : Mu) (Q : D → Mu → Prop), W (gAbs [.int i] μ) Q = Q (.int (if i < 0 then -i else i)) μ)
  ∧ (∀ (d : D) (μ : Mu) (Q : D → Mu → Prop), W (gIsN d .non μ) Q = Q (.bl (isN d)) μ)
  ∧ (∀ (ds : List D) (i : Int) (μ : Mu) (Q : D → Mu → Prop), W (gIx (.tup ds) (.int i) μ) Q = getO (atI ds i) μ Q)
  ∧ (∀ (ds : List D) (i : Int) (μ : Mu) (Q : D → Mu → Prop), W (gIx (.lst ds) (.int i) μ) Q = getO (atI ds i) μ Q)
  ∧ (∀ (d : D) (μ : Mu) (Q : D → Mu → Prop), getO (some d) μ Q = Q d μ)
  ∧ (∀ (ds : List D) (μ : Mu) (Q : D → Mu → Prop), W (gLen [.tup ds] μ) Q = Q (.int (ds.length : Nat)) μ)
  ∧ (∀ (ds : List D) (μ : Mu) (Q : D → Mu → Prop), W (gLen [.lst ds] μ) Q = Q (.int (ds.length : Nat)) μ)
  ∧ (∀ (x : Str) (μ : Mu) (Q : D → Mu → Prop), W (gLen [.str x] μ) Q = (x.length ≤ sizeLine ∧ Q (.int (x.length : Nat)) μ))
  ∧ (∀ (ds : List D) (μ : Mu) (Q : D → Mu → Prop), W (gTuple [.tup ds] μ) Q = Q (.tup ds) μ)
  ∧ (∀ (ds : List D) (μ : Mu) (Q : D → Mu → Prop), W (gTuple [.lst ds] μ) Q = Q (.tup ds) μ)
  ∧ (∀ (x : Str) (μ : Mu) (Q : D → Mu → Prop), W (gTuple [.str x] μ) Q = (x.cps.size ≤ sizeLine ∧ Q (.tup (x.cps.toList.map sign)) μ))
  ∧ (∀ (x : Str) (μ : Mu) (Q : D → Mu → Prop), W (gStr [.str x] μ) Q = Q (.str x) μ)
  ∧ (∀ (i : Int) (μ : Mu) (Q : D → Mu → Prop), W (gStr [.int i] μ) Q = (i.natAbs.log2 < 1920 ∧ Q (.str (toString i)) μ))
  ∧ (∀ (x y : Str) (μ : Mu) (Q : D → Mu → Prop), W (gAdd (.str x) (.str y) μ) Q = (x.length + y.length ≤ sizeLine ∧ Q (.str (x ++ y)) μ))
  ∧ (∀ (x y : List D) (μ : Mu) (Q : D → Mu → Prop), W (gAdd (.tup x) (.tup y) μ) Q = (x.length + y.length ≤ sizeLine ∧ Q (.tup (x ++ y)) μ))
  ∧ (∀ (x y : List D) (μ : Mu) (Q : D → Mu → Prop), W (gAdd (.lst x) (.lst y) μ) Q = (x.length + y.length ≤ sizeLine ∧ Q (.lst (x ++ y)) μ))
  ∧ (∀ (i j : Int) (μ : Mu) (Q : D → Mu → Prop), W (gMax2 [.int i, .int j] μ) Q = Q (.int (if j > i then j else i)) μ)
  ∧ (∀ (i j : Int) (μ : Mu) (Q : D → Mu → Prop), W (gMin2 [.int i, .int j] μ) Q = Q (.int (if j < i then j else i)) μ) := by
  refine ⟨fun _ _ _ _ => (by first | rfl | exact W_ok _ _ _), fun _ _ _ _ => (by first | rfl | exact W_ok _ _ _), fun _ _ _ _ => W_iteQ _ _ _ _, fun _ _ _ _ => W_iteQ _ _ _ _, fun _ _ _ _ => W_iteQ _ _ _ _, fun _ _ _ _ => W_iteQ _ _ _ _, fun _ _ _ => (by first | rfl | exact W_ok _ _ _), fun _ _ _ _ _ => (by first | rfl | exact W_ok _ _ _), fun _ _ _ => (by first | rfl | exact W_ok _ _ _), fun _ _ _ => (by first | rfl | exact W_ok _ _ _), fun _ _ _ => (by first | rfl | exact W_ok _ _ _), fun d _ _ => ?_, fun ds i μ Q => ?_, fun ds i μ Q => ?_, fun _ _ _ => (by first | rfl | exact W_ok _ _ _), fun _ _ _ => (by first | rfl | exact W_ok _ _ _), fun _ _ _ => (by first | rfl | exact W_ok _ _ _), fun _ _ _ => W_iteQ _ _ _ _, fun _ _ _ => (by first | rfl | exact W_ok _ _ _), fun _ _ _ => (by first | rfl | exact W_ok _ _ _), fun _ _ _ => W_iteQ _ _ _ _, fun _ _ _ => (by first | rfl | exact W_ok _ _ _), fun _ _ _ => W_iteQ _ _ _ _, fun _ _ _ _ => W_iteQ _ _ _ _, fun _ _ _ _ => W_iteQ _ _ _ _, fun _ _ _ _ => W_iteQ _ _ _ _, fun _ _ _ _ => (by first | rfl | exact W_ok _ _ _), fun _ _ _ _ => (by first | rfl | exact W_ok _ _ _)⟩
  · cases d <;> exact W_ok _ _ _
  · show W (match atI ds i with | some d => Rs.ok d μ | none => .no) Q = _
    cases atI ds i <;> first | exact W_ok _ _ _ | exact W_no _
  · show W (match atI ds i with | some d => Rs.ok d μ | none => .no) Q = _
    cases atI ds i <;> first | exact W_ok _ _ _ | exact W_no _
/-- == and != of numbers and texts, in -/
theorem flQ : (∀ (i j : Int) (μ : Mu) (Q : D → Mu → Prop), W (gEqq (.int i) (.int j) μ) Q = Q (.bl (decide (i = j))) μ)
  ∧ (∀ (i j : Int) (μ : Mu) (Q : D → Mu → Prop), W (gNee (.int i) (.int j) μ) Q = Q (.bl (!decide (i = j))) μ)
  ∧ (∀ (x y : Str) (μ : Mu) (Q : D → Mu → Prop), W (gEqq (.str x) (.str y) μ) Q = Q (.bl (decide (x = y))) μ)
  ∧ (∀ (x y : Str) (μ : Mu) (Q : D → Mu → Prop), W (gNee (.str x) (.str y) μ) Q = Q (.bl (!decide (x = y))) μ)
  ∧ (∀ (c : Nat) (z : Str) (neg : Bool) (μ : Mu) (Q : D → Mu → Prop), W (gIn neg (sign c) (.str z) μ) Q = Q (.bl (neg ^^ decide (c ∈ z.cps.toList))) μ)
  ∧ (∀ (T : String) (μ : Mu) (x : Str), tyOk T μ (.str x) = (T == "str"))
  ∧ (∀ (T : String) (μ : Mu) (x : List D), tyOk T μ (.lst x) = (T == "list")) := by
  have ei : ∀ i j : Int, decide (V.int i = V.int j) = decide (i = j) := fun i j => by simp
  have es : ∀ i j : Str, decide (V.str i = V.str j) = decide (i = j) := fun i j => by simp
  refine ⟨fun i j μ Q => ?_, fun i j μ Q => ?_, fun i j μ Q => ?_, fun i j μ Q => ?_, fun c z neg μ Q => ?_, fun _ _ _ => (by first | rfl | exact W_ok _ _ _), fun _ _ _ => (by first | rfl | exact W_ok _ _ _)⟩
  · show W (.ok (.bl (decide (V.int i = V.int j))) μ) Q = _
    rw [W_ok]
    rw [ei]
  · show W (.ok (.bl (!decide (V.int i = V.int j))) μ) Q = _
    rw [W_ok]
    rw [ei]
  · show W (.ok (.bl (decide (V.str i = V.str j))) μ) Q = _
    rw [W_ok]
    rw [es]
  · show W (.ok (.bl (!decide (V.str i = V.str j))) μ) Q = _
    rw [W_ok]
    rw [es]
  · exact W_ok _ _ _
/-- iterables, stores, methods, slices -/
theorem flI : (∀ (F : FE) (ρ : Rho) (μ : Mu) (Q : List D → Mu → Prop), W (fItT F ρ μ) Q = W (F ρ μ) fun d μ1 => W (itT d μ1) Q)
  ∧ (∀ (ds : List D) (μ : Mu) (Q : List D → Mu → Prop), W (itT (.tup ds) μ) Q = Q ds μ)
  ∧ (∀ (F : FE) (ρ : Rho) (μ : Mu) (Q : List D → Mu → Prop), W (fItL F ρ μ) Q = W (F ρ μ) fun d μ1 => W (itL d μ1) Q)
  ∧ (∀ (ds : List D) (μ : Mu) (Q : List D → Mu → Prop), W (itL (.lst ds) μ) Q = Q ds μ)
  ∧ (∀ (F : FE) (ρ : Rho) (μ : Mu) (Q : List D → Mu → Prop), W (fItS F ρ μ) Q = W (F ρ μ) fun d μ1 => W (itS d μ1) Q)
  ∧ (∀ (x : Str) (μ : Mu) (Q : List D → Mu → Prop), W (itS (.str x) μ) Q = Q (x.cps.toList.map sign) μ)
  ∧ (∀ (Fs : FA) (ρ : Rho) (μ : Mu) (Q : List D → Mu → Prop), W (fItR1 Fs ρ μ) Q = W (Fs ρ μ) fun ds μ1 => W (itR1 ds μ1) Q)
  ∧ (∀ (j : Int) (μ : Mu) (Q : List D → Mu → Prop), W (itR1 [.int j] μ) Q = ((-(2 ^ 62) ≤ j ∧ j < 2 ^ 62) ∧ Q (upto 0 j.toNat) μ))
  ∧ (∀ (Fi : FA) (T : FT) (G : FS) (ρ : Rho) (μ : Mu) (Q : Ot → Mu → Prop), W (gFor Fi T G ρ μ) Q = W (Fi ρ μ) fun ds μ1 => W (gLoop T G ds ρ μ1) Q)
  ∧ (∀ (is : List Nat) (Fi : FA) (T : FT) (t : FB) (F : FE) (ρ : Rho) (μ : Mu) (Q : D → Mu → Prop), W (fComp is Fi T t F ρ μ) Q = W (Fi ρ μ) fun ds μ1 => W (cLoop T t F (wipeR ρ is) ds [] μ1) fun ys μ2 => Q (.lst ys) μ2)
  ∧ (∀ (is : List Nat) (Fi : FA) (T : FT) (t : FB) (F : FE) (ρ : Rho) (μ : Mu) (Q : D → Mu → Prop), W (fCompM is Fi T t F ρ μ) Q = W (Fi ρ μ) fun ds μ1 => W (cLoop T t F (wipeR ρ is) ds [] μ1) fun ys μ2 => Q (.ref μ2.length) (μ2 ++ [.lst ys]))
  ∧ (∀ (Fv Fo Fi : FE) (ρ : Rho) (μ : Mu) (Q : Ot → Mu → Prop), W (gStoreL Fv Fo Fi ρ μ) Q = W (Fv ρ μ) fun v μ1 => W (Fo ρ μ1) fun o μ2 => W (Fi ρ μ2) fun i μ3 => putO (gPutL o i v μ3) fun μ4 => Q (.nx ρ) μ4)
  ∧ (∀ (T : String) (g : GM) (F : FE) (Fs : FA) (ρ : Rho) (μ : Mu) (Q : D → Mu → Prop), W (fMeth T g F Fs ρ μ) Q = W (F ρ μ) fun d μ1 => tyOk T μ1 d = true ∧ W (Fs ρ μ1) fun ds μ2 => W (g d ds μ2) Q)
  ∧ (∀ (F : FE) (Fl Fh : FO) (ρ : Rho) (μ : Mu) (Q : D → Mu → Prop), W (fSl F Fl Fh ρ μ) Q = W (F ρ μ) fun d μ1 => W (Fl ρ μ1) fun lo μ2 => W (Fh ρ μ2) fun hi μ3 => W (gSl d lo hi μ3) Q)
  ∧ (∀ (ρ : Rho) (μ : Mu) (Q : Option Int → Mu → Prop), W (fNoP ρ μ) Q = Q none μ)
  ∧ (∀ (F : FE) (ρ : Rho) (μ : Mu) (Q : Option Int → Mu → Prop), W (fP F ρ μ) Q = W (F ρ μ) fun d μ1 => W (pI d μ1) Q)
  ∧ (∀ (i : Int) (μ : Mu) (Q : Option Int → Mu → Prop), W (pI (.int i) μ) Q = Q (some i) μ)
  ∧ (∀ (ds : List D) (lo hi : Option Int) (μ : Mu) (Q : D → Mu → Prop), W (gSl (.tup ds) lo hi μ) Q = Q (.tup (cutD ds lo hi)) μ)
  ∧ (∀ (ds : List D) (lo hi : Option Int) (μ : Mu) (Q : D → Mu → Prop), W (gSl (.lst ds) lo hi μ) Q = Q (.lst (cutD ds lo hi)) μ)
  ∧ (∀ (x : Str) (lo hi : Option Int) (μ : Mu) (Q : D → Mu → Prop), W (gSl (.str x) lo hi μ) Q = (x.length ≤ sizeLine ∧ Q (.str (cutS x lo hi)) μ)) := by
  refine ⟨fun F ρ μ Q => W_bind _ _ _, fun _ _ _ => (by first | rfl | exact W_ok _ _ _), fun F ρ μ Q => W_bind _ _ _, fun _ _ _ => (by first | rfl | exact W_ok _ _ _), fun F ρ μ Q => W_bind _ _ _, fun _ _ _ => (by first | rfl | exact W_ok _ _ _), fun F ρ μ Q => W_bind _ _ _, fun _ _ _ => W_iteQ _ _ _ _, fun _ _ _ _ _ _ => W_bind _ _ _, fun is Fi T t F ρ μ Q => ?_, fun is Fi T t F ρ μ Q => ?_, fun Fv Fo Fi ρ μ Q => ?_, fun T g F Fs ρ μ Q => ?_, fun F Fl Fh ρ μ Q => ?_, fun _ _ _ => (by first | rfl | exact W_ok _ _ _), fun F ρ μ Q => W_bind _ _ _, fun _ _ _ => (by first | rfl | exact W_ok _ _ _), fun _ _ _ _ _ => (by first | rfl | exact W_ok _ _ _), fun _ _ _ _ _ => (by first | rfl | exact W_ok _ _ _), fun _ _ _ _ _ => W_iteQ _ _ _ _⟩
  · unfold fComp; simp only [W_bind, W_ok]
  · unfold fCompM; simp only [W_bind, W_ok]
  · unfold gStoreL
    simp only [W_bind]
    congr 1; funext v μ1; congr 1; funext o μ2; congr 1; funext i μ3
    cases gPutL o i v μ3 <;> first | exact W_ok _ _ _ | exact W_no _
  · unfold fMeth; simp only [W_bind, W_ite]
  · unfold fSl; simp only [W_bind]
theorem W_yes (ρ : Rho) (μ : Mu) (Q : Bool → Mu → Prop) : W (fYes ρ μ) Q = Q true μ := W_ok _ _ _
/-! ### loops -/
theorem loop_W {T : FT} {G : FS} {Q : Ot → Mu → Prop} (I : List D → Rho → Mu → Prop)
    (step : ∀ d ds ρ μ, I (d :: ds) ρ μ → ∃ ρ1, T d ρ = some ρ1 ∧ W (G ρ1 μ) fun o μ' => match o with
      | .nx ρ2 => I ds ρ2 μ'
      | .ct ρ2 => I ds ρ2 μ'
      | .bk ρ2 => Q (.nx ρ2) μ'
      | .rt d => Q (.rt d) μ')
    (done : ∀ ρ μ, I [] ρ μ → Q (.nx ρ) μ) : ∀ (ds : List D) (ρ : Rho) (μ : Mu), I ds ρ μ → W (gLoop T G ds ρ μ) Q
  | [], ρ, μ, h => .mk (done ρ μ h)
  | d :: ds, ρ, μ, h => by
    obtain ⟨ρ1, e, w⟩ := step d ds ρ μ h
    rw [gLoop, e]
    simp only
    cases q : G ρ1 μ with
    | ok o μ' =>
      rw [q, W_ok] at w
      cases o with
      | nx ρ2 => exact loop_W I step done ds ρ2 μ' w
      | ct ρ2 => exact loop_W I step done ds ρ2 μ' w
      | bk ρ2 => exact .mk w
      | rt d => exact .mk w
    | ex C fs μ' => rw [q, W_ex] at w; exact w.elim
    | no => rw [q, W_no] at w; exact w.elim
theorem while_W {c : FB} {G : FS} {Q : Ot → Mu → Prop} (I : Nat → Rho → Mu → Prop)
    (step : ∀ n ρ μ, I n ρ μ → W (c ρ μ) fun b μ1 => br b (∃ m, n = m + 1 ∧ W (G ρ μ1) fun o μ' => match o with
      | .nx ρ2 => I m ρ2 μ'
      | .ct ρ2 => I m ρ2 μ'
      | .bk ρ2 => Q (.nx ρ2) μ'
      | .rt d => Q (.rt d) μ') (Q (.nx ρ) μ1)) : ∀ (n : Nat) (ρ : Rho) (μ : Mu), I n ρ μ → W (gWh c G (n + 1) ρ μ) Q
  | n, ρ, μ, h => by
    have s := step n ρ μ h
    rw [gWh, W_bind]
    refine s.mono fun b μ1 hb => ?_
    cases b with
    | false => rw [br_f] at hb; rw [if_neg Bool.false_ne_true]; exact .mk hb
    | true =>
      rw [br_t] at hb
      obtain ⟨m, rfl, w⟩ := hb
      rw [if_pos rfl]
      cases q : G ρ μ1 with
      | ok o μ' =>
        rw [q, W_ok] at w
        cases o with
        | nx ρ2 => exact while_W I step m ρ2 μ' w
        | ct ρ2 => exact while_W I step m ρ2 μ' w
        | bk ρ2 => exact .mk w
        | rt d => exact .mk w
      | ex C fs μ' => rw [q, W_ex] at w; exact w.elim
      | no => rw [q, W_no] at w; exact w.elim
theorem comp_W {T : FT} {t : FB} {F : FE} {ρ : Rho} {Q : List D → Mu → Prop} (I : List D → List D → Mu → Prop)
    (step : ∀ d ds acc μ, I (d :: ds) acc μ → ∃ ρ1, T d ρ = some ρ1 ∧ W (t ρ1 μ) fun b μ1 => br b (W (F ρ1 μ1) fun y μ2 => acc.length < sizeLine ∧ I ds (acc ++ [y]) μ2) (I ds acc μ1))
    (done : ∀ acc μ, I [] acc μ → Q acc μ) : ∀ (ds acc : List D) (μ : Mu), I ds acc μ → W (cLoop T t F ρ ds acc μ) Q
  | [], acc, μ, h => .mk (done acc μ h)
  | d :: ds, acc, μ, h => by
    obtain ⟨ρ1, e, w⟩ := step d ds acc μ h
    rw [cLoop, e]
    simp only
    rw [W_bind, W_noex]
    refine w.mono fun b μ1 hb => ?_
    cases b with
    | false => rw [br_f] at hb; rw [if_neg Bool.false_ne_true]; exact comp_W I step done ds acc μ1 hb
    | true =>
      rw [br_t] at hb
      rw [if_pos rfl, W_bind, W_noex]
      refine hb.mono fun y μ2 hy => ?_
      rw [if_pos hy.1]
      exact comp_W I step done ds (acc ++ [y]) μ2 hy.2
/-- n turns over a range: what each turn adds -/
theorem comp_R {T : FT} {F : FE} {ρ : Rho} {Q : List D → Mu → Prop} (N : Nat) (J : Nat → Mu → Prop) (P : D → Prop)
    (step : ∀ i d μ, i < N → J i μ → ∃ ρ1, T d ρ = some ρ1 ∧ W (F ρ1 μ) fun y μ2 => P y ∧ J (i + 1) μ2) :
    ∀ (ds acc : List D) (i : Nat) (μ : Mu), i + ds.length = N → J i μ → (∀ a ∈ acc, P a) → acc.length + ds.length ≤ sizeLine → (∀ ys μ', (∀ y ∈ ys, P y) → ys.length = acc.length + ds.length → J N μ' → Q ys μ') → W (cLoop T fYes F ρ ds acc μ) Q
  | [], acc, i, μ, hi, h, ha, _, hq => .mk <| hq acc μ ha rfl (by rw [List.length_nil] at hi; rw [← hi]; exact h)
  | d :: ds, acc, i, μ, hi, h, ha, hz, hq => by
    rw [List.length_cons] at hz hi
    obtain ⟨ρ1, e, w⟩ := step i d μ (by omega) h
    rw [cLoop, e]
    simp only
    show W ((Rs.ok true μ).noex.bind _) Q
    rw [W_bind]
    show W (Rs.ok true μ) _
    rw [W_ok]
    rw [if_pos rfl, W_bind, W_noex]
    refine w.mono fun y μ2 hy => ?_
    rw [if_pos (by omega)]
    refine comp_R N J P step ds (acc ++ [y]) (i + 1) μ2 (by omega) hy.2 (fun a h => ?_) (by rw [List.length_append, List.length_singleton]; omega) fun ys μ' h1 h2 h3 => ?_
    · rcases List.mem_append.mp h with h | h
      · exact ha a h
      · rw [List.mem_singleton.mp h]; exact hy.1
    · refine hq ys μ' h1 ?_ h3
      rw [h2, List.length_append, List.length_singleton, List.length_cons]; omega
end FL
/-! the form of papers, as plain functions -/
namespace K49
open PySem PySem.Spec PyProof.Rows L2 FL
set_option autoImplicit false
/-! ### data that the law builds, and how much it weighs -/
def okS (x : Str) : Bool := x.cps.toList.all fun c => decide (c < 128)
mutual
def Pl : D → Bool
  | .non => true
  | .bl _ => true
  | .int _ => true
  | .str x => okS x
  | .tup ds => PlL ds
  | .lst ds => PlL ds
  | .dct [] => true
  | _ => false
def PlL : List D → Bool
  | [] => true
  | d :: ds => Pl d && PlL ds
end
mutual
def wt : D → Nat
  | .int _ => 64
  | .str x => x.length + 4
  | .tup ds => wtL ds + 4
  | .lst ds => wtL ds + 4
  | _ => 8
def wtL : List D → Nat
  | [] => 0
  | d :: ds => wt d + 2 + wtL ds
end
theorem wt_tup (ds : List D) : wt (.tup ds) = wtL ds + 4 := by rw [wt]
theorem wt_lst (ds : List D) : wt (.lst ds) = wtL ds + 4 := by rw [wt]
theorem wtL_cons (d : D) (ds : List D) : wtL (d :: ds) = wt d + 2 + wtL ds := by rw [wtL]
theorem wtL_nil : wtL [] = 0 := by rw [wtL]
theorem wtL_app : ∀ (xs ys : List D), wtL (xs ++ ys) = wtL xs + wtL ys
  | [], ys => by rw [wtL_nil]; simp
  | x :: xs, ys => by rw [List.cons_append, wtL_cons, wtL_cons, wtL_app xs ys]; omega
theorem wtL_le {B : Nat} : ∀ (ds : List D), (∀ d ∈ ds, wt d ≤ B) → wtL ds ≤ ds.length * (B + 2)
  | [], _ => by rw [wtL_nil]; simp
  | d :: ds, h => by
    have h1 := h d List.mem_cons_self
    have h2 := wtL_le ds fun x hx => h x (List.mem_cons_of_mem _ hx)
    rw [wtL_cons, List.length_cons, Nat.succ_mul]
    omega
theorem wt_mem : ∀ {ds : List D} {d : D}, d ∈ ds → wt d ≤ wtL ds
  | x :: ds, d, h => by
    rw [wtL_cons]
    rcases List.mem_cons.mp h with rfl | h
    · omega
    · have := wt_mem h; omega
theorem len_wt : ∀ (ds : List D), 2 * ds.length ≤ wtL ds
  | [] => by simp
  | d :: ds => by rw [wtL_cons, List.length_cons]; have := len_wt ds; omega
theorem plL_mem : ∀ {ds : List D} {d : D}, PlL ds = true → d ∈ ds → Pl d = true
  | x :: ds, d, h, m => by
    rw [PlL, Bool.and_eq_true] at h
    rcases List.mem_cons.mp m with rfl | m
    · exact h.1
    · exact plL_mem h.2 m
theorem plL_of : ∀ {ds : List D}, (∀ d ∈ ds, Pl d = true) → PlL ds = true
  | [], _ => by rw [PlL]
  | d :: ds, h => by
    rw [PlL, Bool.and_eq_true]
    exact ⟨h d List.mem_cons_self, plL_of fun x hx => h x (List.mem_cons_of_mem _ hx)⟩
theorem pl_tup {ds : List D} : Pl (.tup ds) = PlL ds := by rw [Pl]
theorem pl_lst {ds : List D} : Pl (.lst ds) = PlL ds := by rw [Pl]
mutual
theorem pl_inn {n : Nat} : ∀ {d : D}, Pl d = true → d.inn n = true
  | .non, _ => by rw [D.inn]
  | .bl _, _ => by rw [D.inn]
  | .int _, _ => by rw [D.inn]
  | .str _, _ => by rw [D.inn]
  | .tup ds, h => by rw [D.inn]; exact plL_inn (pl_tup ▸ h)
  | .lst ds, h => by rw [D.inn]; exact plL_inn (pl_lst ▸ h)
  | .dct [], _ => by rw [D.inn, innD]
  | .dct (_ :: _), h => by simp [Pl] at h
  | .rol _, h => by simp [Pl] at h
  | .ref _, h => by simp [Pl] at h
  | .ty _, h => by simp [Pl] at h
  | .cls _, h => by simp [Pl] at h
theorem plL_inn {n : Nat} : ∀ {ds : List D}, PlL ds = true → innL n ds = true
  | [], _ => by rw [innL]
  | d :: ds, h => by
    rw [PlL, Bool.and_eq_true] at h
    rw [innL, Bool.and_eq_true]
    exact ⟨pl_inn h.1, plL_inn h.2⟩
end
/-! ### the form -/
def MX : Int := 999999999999999999999999999999999999999999999999999999999999
def isInt : D → Bool
  | .int i => decide (-MX ≤ i) && decide (i ≤ MX)
  | _ => false
def low (c : Nat) : Bool := decide (97 ≤ c) && decide (c ≤ 122)
def lows (x : Str) : Bool := x.cps.toList.all low
def isWord : D → Bool
  | .str x => decide (1 ≤ x.length) && lows x
  | _ => false
def atomOk (d : D) : Bool := isN d || isInt d || isWord d
def canW : Nat → D → Bool
  | 0, .tup _ => false
  | n + 1, .tup ds => ds.all (canW n)
  | _, d => atomOk d
def isTupI : D → Bool
  | .tup ds => ds.all isInt
  | _ => false
def rowOf (n : Nat) : D → Bool
  | .tup is => decide (is.length = n) && is.all isInt
  | _ => false
def rowsD : D → Bool
  | .tup rs => decide (1 ≤ rs.length) && decide (rs.length ≤ 13) && rs.all (rowOf rs.length)
  | _ => false
def standD : D → Bool
  | .tup [a, b, c, r] => canW 20 (.tup [a, b, c, r]) && isTupI c && rowsD r
  | _ => false
def standsD : D → Bool
  | .tup ds => ds.all standD
  | _ => false
def nameS (x : Str) : Bool := decide (1 ≤ x.length) && decide (x.length ≤ 8) && lows x && !decide (x ∈ wordsS)
def nameD : D → Bool
  | .str x => nameS x
  | _ => false
def letterD : D → Bool
  | .str x => decide (x.length = 1) && lows x
  | _ => false
def timeD : D → Bool
  | .int i => decide (0 ≤ i) && decide (i ≤ MX)
  | _ => false
def eventD : D → Bool
  | .tup [t, s, l, v] => timeD t && nameD s && letterD l && isInt v
  | _ => false
def timeOf : D → Int
  | .tup (.int t :: _) => t
  | _ => 0
def incr : List Int → Bool
  | a :: b :: r => decide (a ≤ b) && incr (b :: r)
  | _ => true
def eventsD : D → Bool
  | .tup es => es.all eventD && incr (es.map timeOf)
  | _ => false
def lastT (es : List D) : Int := match es.getLast? with
  | some e => timeOf e
  | none => 0
def rowD : D → D → D → Bool
  | .tup es, .int i, .tup rs => eventsD (.tup es) && isInt (.int i) && decide (lastT es ≤ i) && decide (rs.length = es.length) && rs.all standsD
  | _, _, _ => false
def formD : D → Bool
  | .tup [.str x, s] => decide (x = ("list" : Str)) && standsD s
  | .tup [.str x, e, l, r] => decide (x = ("row" : Str)) && rowD e l r
  | _ => false
theorem canW_atom {n : Nat} {d : D} (h : atomOk d = true) : canW n d = true := by
  cases n <;> cases d <;> first | exact h | (simp [atomOk, isN, isInt, isWord] at h)
theorem canW_up : ∀ {n : Nat} {d : D}, canW n d = true → canW (n + 1) d = true
  | 0, .tup ds, h => by simp [canW] at h
  | n + 1, .tup ds, h => by
    rw [canW, List.all_eq_true] at h ⊢
    exact fun x hx => canW_up (h x hx)
  | 0, .non, h => h
  | 0, .bl _, h => h
  | 0, .int _, h => h
  | 0, .str _, h => h
  | 0, .lst _, h => h
  | 0, .rol _, h => h
  | 0, .dct _, h => h
  | 0, .ref _, h => h
  | 0, .ty _, h => h
  | 0, .cls _, h => h
  | n + 1, .non, h => h
  | n + 1, .bl _, h => h
  | n + 1, .int _, h => h
  | n + 1, .str _, h => h
  | n + 1, .lst _, h => h
  | n + 1, .rol _, h => h
  | n + 1, .dct _, h => h
  | n + 1, .ref _, h => h
  | n + 1, .ty _, h => h
  | n + 1, .cls _, h => h
theorem canW_le {n m : Nat} {d : D} (h : canW n d = true) (e : n ≤ m) : canW m d = true := by
  induction e with
  | refl => exact h
  | step _ ih => exact canW_up ih
theorem canW_tup {n : Nat} {ds : List D} (h : ∀ d ∈ ds, canW n d = true) : canW (n + 1) (.tup ds) = true := by
  rw [canW, List.all_eq_true]
  exact h
theorem lows_ok {x : Str} (h : lows x = true) : okS x = true := by
  unfold lows at h
  unfold okS
  rw [List.all_eq_true] at h ⊢
  intro c hc
  have := h c hc
  simp only [low, Bool.and_eq_true, decide_eq_true_eq] at this
  exact decide_eq_true (by omega)
theorem canW_pl : ∀ {n : Nat} {d : D}, canW n d = true → Pl d = true
  | n + 1, .tup ds, h => by
    rw [canW, List.all_eq_true] at h
    rw [pl_tup]
    exact plL_of fun d hd => canW_pl (h d hd)
  | 0, .tup ds, h => by simp [canW] at h
  | n, .non, h => by rw [Pl]
  | n, .bl _, h => by rw [Pl]
  | n, .int _, h => by rw [Pl]
  | n, .str x, h => by
    rw [Pl]
    have : atomOk (.str x) = true := by cases n <;> exact h
    simp only [atomOk, isN, isInt, isWord, Bool.false_or, Bool.and_eq_true] at this
    exact lows_ok this.2
  | n, .lst _, h => by cases n <;> simp [canW, atomOk, isN, isInt, isWord] at h
  | n, .rol _, h => by cases n <;> simp [canW, atomOk, isN, isInt, isWord] at h
  | n, .dct _, h => by cases n <;> simp [canW, atomOk, isN, isInt, isWord] at h
  | n, .ref _, h => by cases n <;> simp [canW, atomOk, isN, isInt, isWord] at h
  | n, .ty _, h => by cases n <;> simp [canW, atomOk, isN, isInt, isWord] at h
  | n, .cls _, h => by cases n <;> simp [canW, atomOk, isN, isInt, isWord] at h
theorem mem_abc (c : Nat) : decide (c ∈ (("abcdefghijklmnopqrstuvwxyz" : Str)).cps.toList) = low c := by
  have e : (("abcdefghijklmnopqrstuvwxyz" : Str)).cps.toList = (List.range 26).map (· + 97) := by decide +kernel
  rw [e]
  unfold low
  by_cases h : 97 ≤ c ∧ c ≤ 122
  · have : c ∈ (List.range 26).map (· + 97) := List.mem_map.mpr ⟨c - 97, List.mem_range.mpr (by omega), by omega⟩
    simp [this, h]
  · have : c ∉ (List.range 26).map (· + 97) := fun z => by
      obtain ⟨j, hj, e⟩ := List.mem_map.mp z
      have := List.mem_range.mp hj
      exact h ⟨by omega, by omega⟩
    rw [decide_eq_false this]
    symm
    simp only [Bool.and_eq_false_iff, decide_eq_false_iff_not]
    omega
end K49
namespace K49
open PySem PySem.Spec PyProof.Rows L2 FL
set_option autoImplicit false
/-! ### the bag of draws -/
def Bg (k c : Nat) (μ : Mu) : Prop := ∃ a b n : Int, μ[k]? = some (.lst [.int a, .int b, .int n]) ∧ 0 ≤ b ∧ b < 2305843009213693951 ∧ 0 ≤ n ∧ n ≤ c
/-- nothing but the bag k is changed, and at most c throws are counted -/
def Nx (k c : Nat) (μ0 μ : Mu) : Prop := μ.length = μ0.length ∧ (∀ j, j ≠ k → μ[j]? = μ0[j]?) ∧ Bg k c μ
theorem Nx.up {k c c' : Nat} {μ0 μ : Mu} (h : Nx k c μ0 μ) (e : c ≤ c') : Nx k c' μ0 μ := by
  obtain ⟨h1, h2, a, b, n, h3, h4, h5, h6, h7⟩ := h
  exact ⟨h1, h2, a, b, n, h3, h4, h5, h6, by omega⟩
theorem Nx.put {k c : Nat} {μ0 μ : Mu} (h : Nx k c μ0 μ) {a b n : Int} {c' : Nat} (hb : 0 ≤ b) (hb' : b < 2305843009213693951) (hn : 0 ≤ n) (hn' : n ≤ c') : Nx k c' μ0 (μ.set k (.lst [.int a, .int b, .int n])) := by
  obtain ⟨h1, h2, a', b', n', h3, _⟩ := h
  refine ⟨by rw [List.length_set, h1], fun j hj => ?_, a, b, n, ?_, hb, hb', hn, hn'⟩
  · rw [List.getElem?_set_ne (Ne.symm hj)]; exact h2 j hj
  · rw [List.getElem?_set_self (List.getElem?_eq_some_iff.mp h3).1]
theorem log_lt {i : Int} (m : Nat) (h : i.natAbs < 2 ^ m) (hm : 0 < m) : i.natAbs.log2 < m := by
  by_cases h0 : i.natAbs = 0
  · rw [h0, show Nat.log2 0 = 0 by simp]; exact hm
  · exact (Nat.log2_lt h0).mpr h
theorem ixr {μ : Mu} {k : Nat} {ds : List D} {i : Int} {Q : D → Mu → Prop} (h : μ[k]? = some (.lst ds)) : W (gIx (.ref k) (.int i) μ) Q = getO (atI ds i) μ Q := by
  unfold gIx
  simp only [h]
  cases atI ds i <;> first | exact W_ok _ _ _ | exact W_no _
theorem putr {μ : Mu} {k : Nat} {ds : List D} {i : Int} {v : D} {Q : Mu → Prop} {n : Nat} (h : μ[k]? = some (.lst ds)) (e : ixN ds.length i = some n) : putO (gPutL (.ref k) (.int i) v μ) Q = Q (μ.set k (.lst (ds.set n v))) := by
  unfold gPutL
  simp only [h, e]
  rfl
theorem at3 {a b c : D} : atI [a, b, c] 0 = some a ∧ atI [a, b, c] 1 = some b ∧ atI [a, b, c] 2 = some c := ⟨rfl, rfl, rfl⟩
variable {cI cP cE : Addr}
theorem throw_W {i k c : Nat} {μ0 μ : Mu} {n : Int} {Q : D → Mu → Prop} (hx : Nx k c μ0 μ) (hc : c < 2 ^ 100) (hn : 0 < n) (hl : n.natAbs < 2 ^ 250)
    (q : ∀ m μ', 0 ≤ m → m < n → Nx k (c + 1) μ0 μ' → Q (.int m) μ') : W ((gs cI cP cE (i + 1))._law_throw [.ref k, .int n] μ) Q := by
  obtain ⟨h1, h2, a, b, s, h3, h4, h5, h6, h7⟩ := id hx
  refine runK_W ?_
  show W (G__law_throw [some (.ref k), some (.int n), none, none, none, none] μ) _
  unfold G__law_throw
  have hk : k < μ.length := (List.getElem?_eq_some_iff.mp h3).1
  have hk2 : (μ.set k (.lst [.int a, .int b, .int (s + 1)]))[k]? = some (.lst [.int a, .int b, .int (s + 1)]) := List.getElem?_set_self hk
  have e0 : ixN [D.int a, D.int b, D.int s].length 0 = some 0 := rfl
  have e2 : ixN [D.int a, D.int b, D.int s].length 2 = some 2 := rfl
  have l1 : n.natAbs.log2 < 9000 := Nat.lt_of_lt_of_le (log_lt 250 hl (by omega)) (by omega)
  have small : ∀ {x : Int}, 0 ≤ x → x < 2 ^ 200 → x.natAbs.log2 < 200 := fun {x} h1 h2 => log_lt 200 (by omega) (by omega)
  simp only [↓flS, ↓flE, ↓flO, ↓flI, List.getElem?_cons_zero, List.getElem?_cons_succ, List.set_cons_zero, List.set_cons_succ, ixr h3, at3, putr h3 e0, putr h3 e2, ixr hk2]
  refine ⟨fun _ => ?_, fun _ => ?_⟩
  · refine ⟨hn, ⟨hn, l1⟩, ?_⟩
    exact q _ _ (Int.emod_nonneg _ (by omega)) (Int.emod_lt_of_pos _ hn) ((hx.put h4 h5 h6 h7).up (by omega))
  · have hb := small (x := s + 1) (by omega) (by omega)
    have m1 : ∀ y : Int, (y % 2305843009213693951).natAbs.log2 < 200 := fun y => small (Int.emod_nonneg _ (by decide)) (Int.lt_trans (Int.emod_lt_of_pos _ (by decide)) (by decide))
    have m2 : ∀ y : Int, (y % 2305843009213693921).natAbs.log2 < 200 := fun y => small (Int.emod_nonneg _ (by decide)) (Int.lt_trans (Int.emod_lt_of_pos _ (by decide)) (by decide))
    have c1 := small (x := 1000003) (by decide) (by decide)
    have c2 := small (x := 12347) (by decide) (by decide)
    have c3 := small (x := 4096) (by decide) (by decide)
    refine ⟨by omega, by decide, ?_, by omega, by decide, ?_, by decide, ⟨by decide, by omega⟩, hn, ?_⟩
    · exact Nat.lt_of_lt_of_le (Nat.add_lt_add (m1 _) (m1 _)) (by decide)
    · exact Nat.lt_of_lt_of_le (Nat.add_lt_add (m2 _) (m1 _)) (by decide)
    · exact q _ _ (Int.emod_nonneg _ (by omega)) (Int.emod_lt_of_pos _ hn) (hx.put h4 h5 (by omega) (by omega))
theorem atI_some {α : Type} {xs : List α} {m : Int} (h0 : 0 ≤ m) (h1 : m < xs.length) : ∃ a, atI xs m = some a ∧ a ∈ xs := by
  unfold atI ixN
  rw [if_pos h0, if_pos h1]
  have : m.toNat < xs.length := by omega
  exact ⟨xs[m.toNat], by simp, List.getElem_mem this⟩
theorem pickL_W {i k c : Nat} {μ0 μ : Mu} {ds : List D} {Q : D → Mu → Prop} (hx : Nx k c μ0 μ) (hc : c < 2 ^ 100) (hn : ds ≠ []) (hl : ds.length ≤ 16777216)
    (q : ∀ d μ', d ∈ ds → Nx k (c + 1) μ0 μ' → Q d μ') : W ((gs cI cP cE (i + 2))._law_pick [.ref k, .lst ds] μ) Q := by
  refine runK_W ?_
  show W (G__law_pick _ [some (.ref k), some (.lst ds)] μ) _
  unfold G__law_pick
  simp only [↓flS, ↓flE, ↓flO, ↓flI, List.getElem?_cons_zero, List.getElem?_cons_succ]
  have hp : 0 < ds.length := List.length_pos_iff.mpr hn
  refine throw_W hx hc (by omega) (Nat.lt_of_le_of_lt (m := 16777216) (by omega) (by decide)) fun m μ' h0 h1 h2 => ?_
  obtain ⟨a, e, ha⟩ := atI_some h0 h1
  simp only [↓flS, ↓flE, ↓flO, ↓flI, e]
  exact q a μ' ha h2
theorem pickS_W {i k c : Nat} {μ0 μ : Mu} {x : Str} {Q : D → Mu → Prop} (hx : Nx k c μ0 μ) (hc : c < 2 ^ 100) (hn : 0 < x.length) (hl : x.length ≤ 1000)
    (q : ∀ s μ', s ∈ x.cps.toList → Nx k (c + 1) μ0 μ' → Q (sign s) μ') : W ((gs cI cP cE (i + 2))._law_pick [.ref k, .str x] μ) Q := by
  refine runK_W ?_
  show W (G__law_pick _ [some (.ref k), some (.str x)] μ) _
  unfold G__law_pick
  simp only [↓flS, ↓flE, ↓flO, ↓flI, List.getElem?_cons_zero, List.getElem?_cons_succ]
  have hz : x.length ≤ sizeLine := Nat.le_trans hl (by decide)
  refine ⟨hz, ?_⟩
  refine throw_W hx hc (by omega) (Nat.lt_of_le_of_lt (m := 1000) (by omega) (by decide)) fun m μ' h0 h1 h2 => ?_
  have h1' : m < x.cps.toList.length := by rw [show x.cps.toList.length = x.length from Array.length_toList]; exact h1
  obtain ⟨a, e, ha⟩ := atI_some h0 h1'
  have e2 : gIx (.str x) (.int m) μ' = .ok (sign a) μ' := by
    show (if x.length ≤ sizeLine then (match atI x.cps.toList m with | some c => Rs.ok (sign c) μ' | none => .no) else .no) = _
    rw [if_pos hz, e]
  rw [e2]
  simp only [↓flS, ↓flE, ↓flO, ↓flI]
  exact q a μ' ha h2
theorem throw10_W {i k c : Nat} {μ0 μ : Mu} {m : Nat} {Q : D → Mu → Prop} (hx : Nx k c μ0 μ) (hc : c < 2 ^ 100) (hm : m ≤ 60)
    (q : ∀ m' μ', 0 ≤ m' → m' < 10 ^ m → Nx k (c + 1) μ0 μ' → Q (.int m') μ') : W ((gs cI cP cE (i + 1))._law_throw [.ref k, .int (10 ^ m)] μ) Q := by
  refine throw_W hx hc (Int.pow_pos (by decide)) ?_ q
  have : ((10 : Int) ^ m).natAbs = 10 ^ m := by rw [Int.natAbs_pow]; rfl
  rw [this]
  exact Nat.lt_of_le_of_lt (Nat.pow_le_pow_right (by decide) hm) (by decide)
/-! ### atoms, numbers -/
theorem powOk (m : Nat) (h : m ≤ 1000) : (0 : Int) ≤ m ∧ (Builtin.Int.intBits 10 : Int) * m ≤ 2 ^ 27 := by
  have : (Builtin.Int.intBits 10 : Int) ≤ 10 := by decide +kernel
  refine ⟨by omega, ?_⟩
  have h2 : (Builtin.Int.intBits 10 : Int) * m ≤ 10 * m := Int.mul_le_mul_of_nonneg_right this (by omega)
  omega
theorem pow60 : ((0 : Int) ≤ 60 ∧ (Builtin.Int.intBits 10 : Int) * 60 ≤ 2 ^ 27) = True := eq_true (powOk 60 (by decide))
theorem pow40 : ((0 : Int) ≤ 40 ∧ (Builtin.Int.intBits 10 : Int) * 40 ≤ 2 ^ 27) = True := eq_true (powOk 40 (by decide))
theorem pow58 : ((0 : Int) ≤ 58 ∧ (Builtin.Int.intBits 10 : Int) * 58 ≤ 2 ^ 27) = True := eq_true (powOk 58 (by decide))
theorem tn60 : Int.toNat 60 = 60 := rfl
theorem tn40 : Int.toNat 40 = 40 := rfl
theorem tn58 : Int.toNat 58 = 58 := rfl
theorem isInt_of {i : Int} (h1 : -(10 ^ 60) < i) (h2 : i < 10 ^ 60) : isInt (.int i) = true := by
  have e : (10 : Int) ^ 60 = 1000000000000000000000000000000000000000000000000000000000000 := by decide
  rw [e] at h1 h2
  have m : MX = 999999999999999999999999999999999999999999999999999999999999 := rfl
  show (decide (-MX ≤ i) && decide (i ≤ MX)) = true
  rw [m, Bool.and_eq_true, decide_eq_true_eq, decide_eq_true_eq]
  constructor <;> omega
theorem sz {n : Nat} (h : n ≤ 1000) : n ≤ sizeLine := Nat.le_trans h (by decide)
theorem p60 : (10 : Int) ^ 60 = 1000000000000000000000000000000000000000000000000000000000000 := by decide
theorem p58 : (10 : Int) ^ 58 = 10000000000000000000000000000000000000000000000000000000000 := by decide
theorem p40 : (10 : Int) ^ 40 = 10000000000000000000000000000000000000000 := by decide
theorem isInt_small {i : Int} (h1 : -1000 ≤ i) (h2 : i ≤ 1000) : isInt (.int i) = true := isInt_of (by rw [p60]; omega) (by rw [p60]; omega)
theorem number_W {i k c : Nat} {μ0 μ : Mu} {Q : D → Mu → Prop} (hx : Nx k c μ0 μ) (hc : c + 3 < 2 ^ 100)
    (q : ∀ d μ', isInt d = true → Nx k (c + 3) μ0 μ' → Q d μ') : W ((gs cI cP cE (i + 3))._law_number [.ref k] μ) Q := by
  refine runK_W ?_
  show W (G__law_number _ _ [some (.ref k)] μ) _
  unfold G__law_number
  simp only [↓flS, ↓flE, ↓flO, ↓flI, List.getElem?_cons_zero, List.getElem?_cons_succ, pow60, pow40, tn60, tn40, true_and]
  refine throw_W hx (by omega) (by decide) (by decide) fun m μ1 h0 h1 hx1 => ?_
  refine throw10_W hx1 (by omega) (by decide) fun m2 μ2 h2 h3 hx2 => ?_
  simp only [↓flS, ↓flE, ↓flO, ↓flI, pow60, pow40, tn60, tn40, true_and]
  refine ⟨sz (by simp), ?_⟩
  refine pickL_W hx2 (by omega) (by simp) (by simp) fun d μ3 hd hx3 => q d μ3 ?_ (hx3.up (by omega))
  simp only [List.mem_cons, List.not_mem_nil, or_false] at hd
  rcases hd with rfl | rfl | rfl | rfl | rfl | rfl | rfl | rfl | rfl <;> exact isInt_of (by rw [p60] at *; rw [p40] at h3; omega) (by rw [p60] at *; rw [p40] at h3; omega)
/-- letters that are picked and joined -/
theorem stL_signs : ∀ {ds : List D}, (∀ d ∈ ds, ∃ s, d = sign s ∧ low s = true) → ∃ xs, stL ds = some xs ∧ xs.length = ds.length ∧ ∀ x ∈ xs, x.length = 1 ∧ lows x = true
  | [], _ => ⟨[], rfl, rfl, fun _ h => by simp at h⟩
  | d :: ds, h => by
    obtain ⟨s, rfl, hs⟩ := h d List.mem_cons_self
    obtain ⟨xs, e, hl, hx⟩ := stL_signs fun x hx => h x (List.mem_cons_of_mem _ hx)
    refine ⟨⟨#[s]⟩ :: xs, ?_, by simp [hl], fun x hm => ?_⟩
    · show (stL ds).map _ = _
      rw [e]; rfl
    · rcases List.mem_cons.mp hm with rfl | hm
      · exact ⟨rfl, by simp [lows, hs]⟩
      · exact hx x hm
theorem lows_app (x y : Str) : lows (x ++ y) = (lows x && lows y) := by
  show ((x.cps ++ y.cps).toList.all low) = _
  rw [Array.toList_append, List.all_append]
  rfl
theorem len_app (x y : Str) : (x ++ y).length = x.length + y.length := Str.length_append x y
theorem emp : ("" : Str) = ⟨#[]⟩ := by decide +kernel
theorem join_lows : ∀ {xs : List Str}, (∀ x ∈ xs, x.length = 1 ∧ lows x = true) → (Txt.join ("" : Str) xs).length = xs.length ∧ lows (Txt.join ("" : Str) xs) = true := by
  intro xs h
  show (Builtin.Str.glued ("" : Str) xs).length = _ ∧ lows (Builtin.Str.glued ("" : Str) xs) = true
  rw [StrLaws.glued_eq_join]
  induction xs with
  | nil => exact ⟨rfl, rfl⟩
  | cons x r ih =>
    obtain ⟨h1, h2⟩ := h x List.mem_cons_self
    cases r with
    | nil => exact ⟨h1, h2⟩
    | cons y r =>
      obtain ⟨i1, i2⟩ := ih fun z hz => h z (List.mem_cons_of_mem _ hz)
      show (x ++ ("" : Str) ++ Str.join ("" : Str) (y :: r)).length = _ ∧ lows (x ++ ("" : Str) ++ Str.join ("" : Str) (y :: r)) = true
      rw [len_app, len_app, lows_app, lows_app, i1, i2, h1, h2, emp]
      exact ⟨by simp [Str.length]; omega, rfl⟩
theorem upto_len (n : Nat) : (upto 0 n).length = n := by simp [upto]
theorem lows_mem {x : Str} {s : Nat} (h : lows x = true) (m : s ∈ x.cps.toList) : low s = true := List.all_eq_true.mp h s m
theorem sum1 : ∀ {xs : List Str}, (∀ x ∈ xs, x.length = 1) → (xs.map (·.length)).sum = xs.length
  | [], _ => rfl
  | x :: xs, h => by
    rw [List.map_cons, List.sum_cons, sum1 fun y hy => h y (List.mem_cons_of_mem _ hy), h x List.mem_cons_self, List.length_cons]
    omega
theorem gJoin_ok {a : Str} {ys : List D} {xs : List Str} {μ : Mu} (e : stL ys = some xs) (hz : (xs.map (·.length)).sum + xs.length * a.length ≤ 16777216) : gJoin (.str a) [.lst ys] μ = .ok (.str (Txt.join a xs)) μ := by
  unfold gJoin
  simp only [D.items, Option.bind_some, e]
  rw [if_pos hz]
/-- "".join(pick(bag, signs) for _ in range(m)) -/
theorem letters_W {i k c m : Nat} {μ0 μ : Mu} {x : Str} {ρ : Rho} {T : FT} {F : FE} {Q : D → Mu → Prop} (hx : Nx k c μ0 μ) (hc : c + m < 2 ^ 100) (hm : m ≤ 1000) (hn : 0 < x.length) (hl : x.length ≤ 1000) (hw : lows x = true)
    (hT : ∀ d, ∃ ρ1, T d ρ = some ρ1 ∧ ∀ (μ : Mu) (Q : D → Mu → Prop), W (F ρ1 μ) Q = W ((gs cI cP cE (i + 2))._law_pick [.ref k, .str x] μ) Q)
    (q : ∀ y μ', y.length = m → lows y = true → Nx k (c + m) μ0 μ' → Q (.str y) μ') :
    W (cLoop T fYes F ρ (upto 0 m) [] μ) fun ys μ2 => W (gJoin (.str ("" : Str)) [.lst ys] μ2) Q := by
  refine comp_R m (fun j μ => Nx k (c + j) μ0 μ) (fun d => ∃ s, d = sign s ∧ low s = true) ?_ (upto 0 m) [] 0 μ (by rw [upto_len]; omega) hx (fun _ h => by simp at h) (by rw [upto_len]; exact sz (by simpa using hm)) ?_
  · intro j d μ hj hx1
    obtain ⟨ρ1, e, hF⟩ := hT d
    refine ⟨ρ1, e, ?_⟩
    rw [hF]
    exact pickS_W hx1 (by omega) hn hl fun s μ' hs hx2 => ⟨⟨s, rfl, lows_mem hw hs⟩, hx2⟩
  · intro ys μ' h1 h2 h3
    obtain ⟨xs, e, hl, hx⟩ := stL_signs h1
    rw [upto_len, List.length_nil, Nat.zero_add] at h2
    obtain ⟨j1, j2⟩ := join_lows hx
    have e2 : gJoin (.str ("" : Str)) [.lst ys] μ' = .ok (.str (Txt.join ("" : Str) xs)) μ' := by
      refine gJoin_ok e ?_
      rw [sum1 fun x h => (hx x h).1, emp]
      show xs.length + xs.length * 0 ≤ _
      omega
    rw [e2, W_ok]
    exact q _ μ' (by rw [j1, hl, h2]) j2 h3
theorem abc_lows : lows ("abcdefghijklmnopqrstuvwxyz" : Str) = true ∧ ("abcdefghijklmnopqrstuvwxyz" : Str).length = 26 := by decide +kernel
theorem ab_lows : lows ("ab" : Str) = true ∧ ("ab" : Str).length = 2 := by decide +kernel
theorem st_lows : lows ("st" : Str) = true ∧ ("st" : Str).length = 2 := by decide +kernel
theorem onver_lows : lows ("onver" : Str) = true ∧ ("onver" : Str).length = 5 := by decide +kernel
theorem isInt_ex {d : D} (h : isInt d = true) : ∃ i, d = .int i := by
  cases d with
  | int i => exact ⟨i, rfl⟩
  | _ => simp [isInt] at h
theorem wt_isInt {d : D} (h : isInt d = true) : wt d = 64 := by
  obtain ⟨i, rfl⟩ := isInt_ex h
  rw [wt]
theorem atom_W {i k c : Nat} {μ0 μ : Mu} {Q : D → Mu → Prop} (hx : Nx k c μ0 μ) (hc : c + 15 < 2 ^ 100)
    (q : ∀ d μ', atomOk d = true → wt d ≤ 64 → Nx k (c + 15) μ0 μ' → Q d μ') : W ((gs cI cP cE (i + 3))._law_atom [.ref k] μ) Q := by
  refine runK_W ?_
  show W (G__law_atom _ _ [some (.ref k), none, none, none, none] μ) _
  unfold G__law_atom
  simp only [↓flS, ↓flE, ↓flO, ↓flI, ↓flQ, List.getElem?_cons_zero, List.getElem?_cons_succ]
  refine throw_W hx (by omega) (by decide) (by decide) fun m μ1 h0 h1 hx1 => ?_
  simp only [↓flS, ↓flE, ↓flO, ↓flI, ↓flQ, List.getElem?_cons_zero, List.getElem?_cons_succ, List.set_cons_zero, List.set_cons_succ, pow60, tn60, true_and, beq_self_eq_true]
  refine ⟨fun _ => ?_, fun _ => ⟨fun _ => ?_, fun _ => ?_⟩⟩
  · exact q _ _ rfl (by decide) (hx1.up (by omega))
  · refine throw10_W hx1 (by omega) (by decide) fun m2 μ2 h2 h3 hx2 => ?_
    refine throw_W hx2 (by omega) (by decide) (by decide) fun m3 μ3 h4 h5 hx3 => ?_
    refine ⟨sz (by simp), ?_⟩
    refine pickL_W hx3 (by omega) (by simp) (by simp) fun d μ4 hd hx4 => ?_
    have hi : isInt d = true := by
      simp only [List.mem_cons, List.not_mem_nil, or_false] at hd
      rcases hd with rfl | rfl | rfl | rfl | rfl | rfl | rfl <;> exact isInt_of (by rw [p60] at *; omega) (by rw [p60] at *; omega)
    refine q d _ (by rw [atomOk, hi]; simp) ?_ (hx4.up (by omega))
    rw [wt_isInt hi]; omega
  · refine ⟨sz (by simp), ?_⟩
    refine pickL_W hx1 (by omega) (by simp) (by simp) fun d μ4 hd hx4 => ?_
    have hs : ∃ x : Str, d = .str x ∧ lows x = true ∧ 0 < x.length ∧ x.length ≤ 1000 := by
      simp only [List.mem_cons, List.not_mem_nil, or_false] at hd
      rcases hd with rfl | rfl | rfl
      · exact ⟨_, rfl, ab_lows.1, by rw [ab_lows.2]; omega, by rw [ab_lows.2]; omega⟩
      · exact ⟨_, rfl, onver_lows.1, by rw [onver_lows.2]; omega, by rw [onver_lows.2]; omega⟩
      · exact ⟨_, rfl, abc_lows.1, by rw [abc_lows.2]; omega, by rw [abc_lows.2]; omega⟩
    obtain ⟨x, rfl, hx5, hx6, hx7⟩ := hs
    refine throw_W hx4 (by omega) (by decide) (by decide) fun m2 μ5 h2 h3 hx8 => ?_
    simp only [↓flS, ↓flE, ↓flO, ↓flI, ↓flQ, List.getElem?_cons_zero, List.getElem?_cons_succ, List.set_cons_zero, List.set_cons_succ, true_and, wipeR]
    refine ⟨⟨by omega, by omega⟩, ?_⟩
    have em : (1 + m2).toNat ≤ 12 := by omega
    refine letters_W (cI := cI) (cP := cP) (cE := cE) (i := i) hx8 (by omega) (by omega) hx6 hx7 hx5 (fun d => ⟨_, rfl, fun μ Q => ?_⟩) fun y μ' hy1 hy2 hy3 => ?_
    · simp only [↓flS, ↓flE, ↓flO, ↓flI, ↓flQ, List.getElem?_cons_zero, List.getElem?_cons_succ, List.set_cons_zero, List.set_cons_succ]
    · refine q _ _ ?_ ?_ (hy3.up (by omega))
      · simp only [atomOk, isN, isInt, isWord, hy2, hy1, Bool.false_or, Bool.and_true, decide_eq_true_eq]
        omega
      · rw [wt, hy1]; omega
end K49
namespace K49
open PySem PySem.Spec PyProof.Rows L2 FL
set_option autoImplicit false
variable {cI cP cE : Addr}
/-! ### stores that grow -/
def Ng (k c : Nat) (μ0 μ : Mu) : Prop := k < μ0.length ∧ μ0.length ≤ μ.length ∧ (∀ j, j < μ0.length → j ≠ k → μ[j]? = μ0[j]?) ∧ Bg k c μ
theorem Nx.lt {k c : Nat} {μ0 μ : Mu} (h : Nx k c μ0 μ) : k < μ.length := by
  obtain ⟨_, _, a, b, n, h3, _⟩ := h
  exact (List.getElem?_eq_some_iff.mp h3).1
theorem Nx.self {k c : Nat} {μ0 μ : Mu} (h : Nx k c μ0 μ) : Nx k c μ μ := ⟨rfl, fun _ _ => rfl, h.2.2⟩
theorem Nx.ng {k c : Nat} {μ0 μ : Mu} (h : Nx k c μ0 μ) : Ng k c μ0 μ := ⟨h.1 ▸ h.lt, Nat.le_of_eq h.1.symm, fun j _ n => h.2.1 j n, h.2.2⟩
theorem Ng.nx {k c : Nat} {μ0 μ : Mu} (h : Ng k c μ0 μ) : Nx k c μ μ := ⟨rfl, fun _ _ => rfl, h.2.2.2⟩
theorem Ng.up {k c c' : Nat} {μ0 μ : Mu} (h : Ng k c μ0 μ) (e : c ≤ c') : Ng k c' μ0 μ := ⟨h.1, h.2.1, h.2.2.1, (h.nx.up e).2.2⟩
theorem Ng.step {k c c' : Nat} {μ0 μ μ' : Mu} (h : Ng k c μ0 μ) (n : Nx k c' μ μ') : Ng k c' μ0 μ' :=
  ⟨h.1, by rw [n.1]; exact h.2.1, fun j hj hk => by rw [n.2.1 j hk]; exact h.2.2.1 j hj hk, n.2.2⟩
theorem Ng.add {k c : Nat} {μ0 μ : Mu} (h : Ng k c μ0 μ) (o : Ob) : Ng k c μ0 (μ ++ [o]) := by
  obtain ⟨h1, h2, h3, a, b, n, h4, h5⟩ := h
  refine ⟨h1, by rw [List.length_append, List.length_singleton]; omega, fun j hj hk => ?_, a, b, n, ?_, h5⟩
  · rw [List.getElem?_append_left (by omega)]; exact h3 j hj hk
  · rw [List.getElem?_append_left (by omega)]; exact h4
theorem Ng.set {k c l : Nat} {μ0 μ : Mu} (h : Ng k c μ0 μ) (hl : μ0.length ≤ l) (o : Ob) : Ng k c μ0 (μ.set l o) := by
  obtain ⟨h1, h2, h3, a, b, n, h4, h5⟩ := h
  refine ⟨h1, by rw [List.length_set]; omega, fun j hj hk => ?_, a, b, n, ?_, h5⟩
  · rw [List.getElem?_set_ne (by omega)]; exact h3 j hj hk
  · rw [List.getElem?_set_ne (by omega)]; exact h4
theorem Ng.cut {k c : Nat} {μ0 μ : Mu} (h : Ng k c μ0 μ) : Nx k c μ0 (μ.take μ0.length) := by
  obtain ⟨h1, h2, h3, a, b, n, h4, h5⟩ := h
  refine ⟨by rw [List.length_take]; omega, fun j hk => ?_, a, b, n, ?_, h5⟩
  · by_cases hj : j < μ0.length
    · rw [List.getElem?_take_of_lt hj]; exact h3 j hj hk
    · rw [List.getElem?_eq_none (by rw [List.length_take]; omega), List.getElem?_eq_none (by omega)]
  · rw [List.getElem?_take_of_lt h1]; exact h4
theorem Ng.fit {k c : Nat} {μ0 μ : Mu} (h : Ng k c μ0 μ) : Fit μ0 μ := by
  obtain ⟨h1, h2, h3, a, b, n, h4, h5⟩ := h
  intro j o hj e
  by_cases hk : j = k
  · subst hk
    rw [h4] at e
    cases e
    exact .inr rfl
  · exact .inl (by rw [← h3 j hj hk]; exact e)
/-- how a def with own objects hands back data -/
theorem Ng.out {k c : Nat} {μ0 μ : Mu} {d : D} {Q : D → Mu → Prop} (h : Ng k c μ0 μ) (hp : Pl d = true) (q : ∀ μ', Nx k c μ0 μ' → Q d μ') : kG μ0 Q (.rt d) μ := by
  refine ⟨h.fit, ?_⟩
  cases d with
  | ref k => simp [Pl] at hp
  | _ => exact ⟨pl_inn hp, q _ h.cut⟩
/-! ### deep -/
theorem deep_W {i k c L : Nat} {μ0 μ : Mu} {Q : D → Mu → Prop} (hx : Nx k c μ0 μ) (hL : 1 ≤ L) (hL2 : L ≤ 100) (hc : c + 3200 < 2 ^ 100)
    (q : ∀ d μ', canW L d = true → wt d ≤ 4 + 72 * L → (∃ ds, d = .tup ds) → Nx k (c + 31 * L) μ0 μ' → Q d μ') : W ((gs cI cP cE (i + 4))._law_deep [.ref k, .int L] μ) Q := by
  refine runK_W ?_
  show W (G__law_deep _ _ [some (.ref k), some (.int L), none, none] μ) _
  unfold G__law_deep
  simp only [↓flS, ↓flE, ↓flO, ↓flI, ↓flQ, List.getElem?_cons_zero, List.getElem?_cons_succ, List.set_cons_zero, List.set_cons_succ]
  refine ⟨sz (by simp), ⟨by omega, by omega⟩, ?_⟩
  refine loop_W (fun rest ρ μ => ∃ r j o, ρ = [some (.ref k), some (.int L), some r, o] ∧ canW (j + 1) r = true ∧ wt r ≤ 4 + 72 * j ∧ (∃ ds, r = .tup ds) ∧ j + rest.length = L - 1 ∧ Nx k (c + 31 * j) μ0 μ) ?_ ?_ _ _ _ ⟨.tup [], 0, none, rfl, rfl, by decide, ⟨_, rfl⟩, by rw [upto_len]; omega, hx⟩
  · rintro d ds ρ μ1 ⟨r, j, o, rfl, h1, h2, ⟨es, rfl⟩, h3, h4⟩
    rw [List.length_cons] at h3
    refine ⟨_, rfl, ?_⟩
    simp only [↓flS, ↓flE, ↓flO, ↓flI, ↓flQ, List.getElem?_cons_zero, List.getElem?_cons_succ, List.set_cons_zero, List.set_cons_succ]
    refine ⟨sz (by simp), ?_⟩
    refine atom_W h4 (by omega) fun a μ2 ha1 ha2 hx2 => ?_
    refine ⟨sz (by simp), ?_⟩
    refine atom_W hx2 (by omega) fun b μ3 hb1 hb2 hx3 => ?_
    refine ⟨sz (by simp), sz (by simp), sz (by simp), sz (by simp), ?_⟩
    refine pickL_W hx3 (by omega) (by simp) (by simp) fun d μ4 hd hx4 => ?_
    refine ⟨d, j + 1, _, rfl, ?_, ?_, ?_, by omega, hx4.up (by omega)⟩
    · have e : canW (j + 1) (.tup []) = true := rfl
      have n : canW (j + 1) .non = true := rfl
      have ha := canW_atom (n := j + 1) ha1
      have hb := canW_atom (n := j + 1) hb1
      simp only [List.mem_cons, List.not_mem_nil, or_false] at hd
      rcases hd with rfl | rfl | rfl | rfl <;> refine canW_tup fun x hx => ?_ <;> simp only [List.mem_cons, List.not_mem_nil, or_false] at hx <;> rcases hx with rfl | rfl | rfl <;> assumption
    · simp only [List.mem_cons, List.not_mem_nil, or_false] at hd
      rcases hd with rfl | rfl | rfl | rfl <;> simp only [wt_tup, wtL_cons, wtL_nil] at h2 ⊢ <;> (try rw [show wt .non = 8 from rfl]) <;> omega
    · simp only [List.mem_cons, List.not_mem_nil, or_false] at hd
      rcases hd with rfl | rfl | rfl | rfl <;> exact ⟨_, rfl⟩
  · rintro ρ μ1 ⟨r, j, o, rfl, h1, h2, h5, h3, h4⟩
    simp only [↓flS, ↓flE, ↓flO, ↓flI, ↓flQ, List.getElem?_cons_zero, List.getElem?_cons_succ, List.set_cons_zero, List.set_cons_succ]
    simp only [List.length_nil, Nat.add_zero] at h3
    exact q r μ1 (canW_le h1 (by omega)) (by omega) h5 (h4.up (by omega))
end K49
namespace K49
open PySem PySem.Spec PyProof.Rows L2 FL
set_option autoImplicit false
variable {cI cP cE : Addr}
/-! ### shapes: two objects, the bag k and what is left, l -/
def Nz (k l c a : Nat) (μ0 μ : Mu) : Prop := μ.length = μ0.length ∧ (∀ j, j ≠ k → j ≠ l → μ[j]? = μ0[j]?) ∧ Bg k c μ ∧ l ≠ k ∧ μ[l]? = some (.lst [.int a])
theorem Nz.nx {k l c a : Nat} {μ0 μ : Mu} (h : Nz k l c a μ0 μ) : Nx k c μ μ := ⟨rfl, fun _ _ => rfl, h.2.2.1⟩
theorem Nz.step {k l c c' a : Nat} {μ0 μ μ' : Mu} (h : Nz k l c a μ0 μ) (n : Nx k c' μ μ') : Nz k l c' a μ0 μ' :=
  ⟨by rw [n.1, h.1], fun j hk hl => by rw [n.2.1 j hk, h.2.1 j hk hl], n.2.2, h.2.2.2.1, by rw [n.2.1 l h.2.2.2.1]; exact h.2.2.2.2⟩
theorem Nz.up {k l c c' a : Nat} {μ0 μ : Mu} (h : Nz k l c a μ0 μ) (e : c ≤ c') : Nz k l c' a μ0 μ := h.step (h.nx.up e)
theorem Nz.put {k l c a b : Nat} {μ0 μ : Mu} (h : Nz k l c a μ0 μ) : Nz k l c b μ0 (μ.set l (.lst [.int b])) := by
  obtain ⟨h1, h2, ⟨x, y, n, h3, h4⟩, h5, h6⟩ := h
  refine ⟨by rw [List.length_set, h1], fun j hk hl => by rw [List.getElem?_set_ne (Ne.symm hl), h2 j hk hl], ⟨x, y, n, by rw [List.getElem?_set_ne h5]; exact h3, h4⟩, h5, ?_⟩
  rw [List.getElem?_set_self (List.getElem?_eq_some_iff.mp h6).1]
theorem shape_W : ∀ (n K : Nat) {k l c a : Nat} {μ0 μ : Mu} {Q : D → Mu → Prop}, n + 4 ≤ K → Nz k l c a μ0 μ → c + 16 + 100 * a < 2 ^ 100 →
    (∀ d a' μ', canW n d = true → a' ≤ a → wt d ≤ 64 + 450 * (a - a') → Nz k l (c + 16 + 100 * (a - a')) a' μ0 μ' → Q d μ') → W ((gs cI cP cE K)._law_shape [.ref k, .int n, .ref l] μ) Q := by
  intro n
  induction n with
  | zero =>
    intro K k l c a μ0 μ Q hK hx hc q
    obtain ⟨j, rfl⟩ : ∃ j, K = j + 4 := ⟨K - 4, by omega⟩
    refine runK_W ?_
    show W (G__law_shape _ _ _ [some (.ref k), some (.int 0), some (.ref l), none] μ) _
    unfold G__law_shape
    simp only [↓flS, ↓flE, ↓flO, ↓flI, ↓flQ, List.getElem?_cons_zero, List.getElem?_cons_succ, List.set_cons_zero, List.set_cons_succ, decide_true]
    refine atom_W hx.nx (by omega) fun d μ1 h1 h2 h3 => q d a μ1 (canW_atom h1) (Nat.le_refl _) (by omega) ((hx.step h3).up (by omega))
  | succ n ih =>
    intro K k l c a μ0 μ Q hK hx hc q
    obtain ⟨j, rfl⟩ : ∃ j, K = j + 4 := ⟨K - 4, by omega⟩
    refine runK_W ?_
    show W (G__law_shape _ _ _ [some (.ref k), some (.int ((n + 1 : Nat) : Int)), some (.ref l), none] μ) _
    unfold G__law_shape
    have hl := hx.2.2.2.2
    have e0 : ixN [D.int (a : Int)].length 0 = some 0 := rfl
    have at1 : ∀ {a : D}, atI [a] 0 = some a := rfl
    simp only [↓flS, ↓flE, ↓flO, ↓flI, ↓flQ, List.getElem?_cons_zero, List.getElem?_cons_succ, List.set_cons_zero, List.set_cons_succ, ixr hl, at1, putr hl e0]
    have leaf : ∀ {c' : Nat} {μ1 : Mu}, c' ≤ c + 1 → Nz k l c' a μ0 μ1 → W ((gs cI cP cE (j + 3))._law_atom [D.ref k] μ1) fun d μ1 => Q d μ1 := fun {c' μ1} hc' hx' =>
      atom_W hx'.nx (by omega) fun d μ1 h1 h2 h3 => q d a μ1 (canW_atom h1) (Nat.le_refl _) (by omega) ((hx'.step h3).up (by omega))
    refine ⟨fun _ => leaf (by omega) hx, fun _ => ⟨fun _ => leaf (by omega) hx, fun h0 => ?_⟩⟩
    refine throw_W hx.nx (by omega) (by decide) (by decide) fun m μ1 h1 h2 hx1 => ?_
    have hx1 := hx.step hx1
    have hl1 := hx1.2.2.2.2
    simp only [ixr hl1, ↓flO, at1, putr hl1 e0, ↓flS, ↓flE, ↓flI, ↓flQ, List.set_cons_zero, List.getElem?_cons_zero, List.getElem?_cons_succ]
    refine ⟨fun _ => leaf (by omega) hx1, fun _ => ?_⟩
    obtain ⟨b, rfl⟩ : ∃ b, a = b + 1 := ⟨a - 1, by have := of_decide_eq_false h0; omega⟩
    rw [show (((b + 1 : Nat) : Int) - 1) = (b : Int) by omega]
    have hx2 : Nz k l (c + 1) b μ0 (μ1.set l (.lst [.int (b : Int)])) := hx1.put
    refine throw_W hx2.nx (by omega) (by decide) (by decide) fun m2 μ2 h3 h4 hx3 => ?_
    have hx3 := hx2.step hx3
    simp only [↓flI, ↓flO]
    refine ⟨⟨by omega, by omega⟩, ?_⟩
    refine comp_W (fun rest acc μ => ∃ a', a' ≤ b ∧ Nz k l (c + 2 + 16 * acc.length + 100 * (b - a')) a' μ0 μ ∧ (∀ d ∈ acc, canW n d = true) ∧ wtL acc ≤ 66 * acc.length + 450 * (b - a') ∧ acc.length + rest.length = m2.toNat) ?_ ?_ _ _ _ ⟨b, Nat.le_refl _, hx3.up (by omega), fun _ h => by simp at h, by simp [wtL_nil], by rw [upto_len]; simp⟩
    · rintro d ds acc μ3 ⟨a', g1, g2, g3, g4, g5⟩
      rw [List.length_cons] at g5
      refine ⟨_, rfl, ?_⟩
      rw [W_yes, br_t]
      simp only [↓flS, ↓flE, ↓flO, ↓flI, ↓flQ, List.getElem?_cons_zero, List.getElem?_cons_succ, List.set_cons_zero, List.set_cons_succ, wipeR]
      rw [show (((n + 1 : Nat) : Int) - 1) = (n : Int) by omega]
      refine ih (j + 3) (by omega) g2 (by omega) fun d a2 μ4 k1 k2 k3 k4 => ⟨Nat.lt_of_lt_of_le (m := 1000) (by omega) (by decide), a2, by omega, k4.up (by rw [List.length_append, List.length_singleton]; omega), fun x hx => ?_, ?_, by rw [List.length_append, List.length_singleton]; omega⟩
      · rcases List.mem_append.mp hx with hx | hx
        · exact g3 x hx
        · rw [List.mem_singleton.mp hx]; exact k1
      · rw [wtL_app, wtL_cons, wtL_nil, List.length_append, List.length_singleton]; omega
    · rintro acc μ3 ⟨a', g1, g2, g3, g4, g5⟩
      rw [List.length_nil] at g5
      refine q _ a' _ (canW_tup g3) (by omega) ?_ (g2.up (by omega))
      rw [wt_tup]; omega
theorem Nx.trans {k c c' : Nat} {μ0 μ μ' : Mu} (h : Nx k c μ0 μ) (n : Nx k c' μ μ') : Nx k c' μ0 μ' := ⟨by rw [n.1, h.1], fun j hk => by rw [n.2.1 j hk, h.2.1 j hk], n.2.2⟩
/-! ### stands -/
theorem tup_ints {ds : List D} (h : ∀ d ∈ ds, isInt d = true) : canW 1 (.tup ds) = true ∧ wt (.tup ds) ≤ 66 * ds.length + 4 := by
  refine ⟨canW_tup fun d hd => ?_, ?_⟩
  · rw [canW_atom]
    rw [atomOk, h d hd]; simp
  · rw [wt_tup]
    have := wtL_le (B := 64) ds fun d hd => Nat.le_of_eq (wt_isInt (h d hd))
    omega
theorem ixL {μ : Mu} {l : Nat} {ds : List D} (h : μ[l]? = some (.lst ds)) {i : Int} {d : D} {Q : D → Mu → Prop} (e : atI ds i = some d) : W (gIx (.ref l) (.int i) μ) Q = Q d μ := by
  rw [ixr h, e]
  rfl
theorem stand_W {K k c : Nat} {μ0 μ : Mu} {Q : D → Mu → Prop} (hK : 12 ≤ K) (hx : Nx k c μ0 μ) (hc : c + 10000 < 2 ^ 100)
    (q : ∀ d μ', standD d = true → wt d ≤ 30000 → Nx k (c + 10000) μ0 μ' → Q d μ') : W ((gs cI cP cE K)._law_stand [.ref k] μ) Q := by
  obtain ⟨j, rfl⟩ : ∃ j, K = j + 5 := ⟨K - 5, by omega⟩
  refine runG_W ?_
  show W (G__law_stand _ _ _ _ _ [some (.ref k), none, none, none, none, none, none, none] μ) _
  unfold G__law_stand
  have hg := hx.self.ng
  simp only [↓flS, ↓flE, ↓flO, ↓flI, ↓flQ, List.getElem?_cons_zero, List.getElem?_cons_succ, List.set_cons_zero, List.set_cons_succ]
  refine ⟨sz (by simp), ?_⟩
  have hc0 : c < 2 ^ 100 := by omega
  have hgx := hg.nx
  refine pickL_W (i := j + 2) hgx hc0 (by simp) (by simp) fun d μ1 hd hx1 => ?_
  have hd2 : ∃ n : Nat, d = .int n ∧ 1 ≤ n ∧ n ≤ 13 := by
    simp only [List.mem_cons, List.not_mem_nil, or_false] at hd
    rcases hd with rfl | rfl | rfl | rfl | rfl | rfl | rfl | rfl | rfl
    · exact ⟨1, rfl, by omega, by omega⟩
    · exact ⟨1, rfl, by omega, by omega⟩
    · exact ⟨2, rfl, by omega, by omega⟩
    · exact ⟨2, rfl, by omega, by omega⟩
    · exact ⟨3, rfl, by omega, by omega⟩
    · exact ⟨4, rfl, by omega, by omega⟩
    · exact ⟨5, rfl, by omega, by omega⟩
    · exact ⟨8, rfl, by omega, by omega⟩
    · exact ⟨13, rfl, by omega, by omega⟩
  obtain ⟨n, en, n1, n2⟩ := hd2
  rw [en]
  have hg1 := hg.step hx1
  simp only [↓flS, ↓flE, ↓flO, ↓flI, ↓flQ, List.getElem?_cons_zero, List.getElem?_cons_succ, List.set_cons_zero, List.set_cons_succ]
  refine ⟨⟨by omega, by omega⟩, ?_⟩
  rw [show ((n : Int)).toNat = n by simp]
  -- the table
  refine comp_R n (fun m μ' => Ng k (c + 1 + 60 * m) μ μ') (fun d => ∃ ds, d = .tup ds ∧ ds.length = n ∧ ∀ x ∈ ds, isInt x = true) ?_ (upto 0 n) [] 0 _ (by rw [upto_len]; omega) hg1 (fun _ h => by simp at h) (by rw [upto_len]; exact sz (by simp; omega)) ?_
  · intro m d μ2 hm hg2
    refine ⟨_, rfl, ?_⟩
    simp only [↓flS, ↓flE, ↓flO, ↓flI, ↓flQ, List.getElem?_cons_zero, List.getElem?_cons_succ, List.set_cons_zero, List.set_cons_succ, wipeR]
    refine ⟨⟨by omega, by omega⟩, ?_⟩
    rw [show ((n : Int)).toNat = n by simp]
    refine comp_R n (fun m' μ' => Ng k (c + 1 + 60 * m + 4 * m') μ μ') (fun d => isInt d = true) ?_ (upto 0 n) [] 0 _ (by rw [upto_len]; omega) hg2 (fun _ h => by simp at h) (by rw [upto_len]; exact sz (by simp; omega)) ?_
    · intro m' d' μ3 hm' hg3
      refine ⟨_, rfl, ?_⟩
      simp only [↓flS, ↓flE, ↓flO, ↓flI, ↓flQ, List.getElem?_cons_zero, List.getElem?_cons_succ, List.set_cons_zero, List.set_cons_succ, wipeR]
      refine ⟨fun _ => ?_, fun _ => ?_⟩
      · exact number_W hg3.nx (by omega) fun d μ4 h1 h2 => ⟨h1, (hg3.step h2).up (by omega)⟩
      · exact throw_W hg3.nx (by omega) (by decide) (by decide) fun d μ4 h1 h2 h3 => ⟨isInt_small (by omega) (by omega), (hg3.step h3).up (by omega)⟩
    · intro ys μ3 h1 h2 h3
      rw [upto_len, List.length_nil, Nat.zero_add] at h2
      exact ⟨⟨ys, rfl, h2, h1⟩, h3.up (by omega)⟩
  intro rows μ2 r1 r2 hg2
  rw [upto_len, List.length_nil, Nat.zero_add] at r2
  simp only [↓flS, ↓flE, ↓flO, ↓flI, ↓flQ, List.getElem?_cons_zero, List.getElem?_cons_succ, List.set_cons_zero, List.set_cons_succ, wipeR]
  -- the clocks
  refine throw_W hg2.nx (by omega) (by decide) (by decide) fun m μ3 m0 m1 hx3 => ?_
  have hg3 := hg2.step hx3
  simp only [↓flO, ↓flI]
  refine ⟨⟨by omega, by omega⟩, ?_⟩
  refine comp_R m.toNat (fun m' μ' => Ng k (c + 802 + 3 * m') μ μ') (fun d => isInt d = true) ?_ (upto 0 m.toNat) [] 0 _ (by rw [upto_len]; omega) (hg3.up (by omega)) (fun _ h => by simp at h) (by rw [upto_len]; exact sz (by simp; omega)) ?_
  · intro m' d' μ4 hm' hg4
    refine ⟨_, rfl, ?_⟩
    simp only [↓flS, ↓flE, ↓flO, ↓flI, ↓flQ, List.getElem?_cons_zero, List.getElem?_cons_succ, List.set_cons_zero, List.set_cons_succ, wipeR]
    exact number_W hg4.nx (by omega) fun d μ5 h1 h2 => ⟨h1, (hg4.step h2).up (by omega)⟩
  intro clocks μ4 c1 c2 hg4
  rw [upto_len, List.length_nil, Nat.zero_add] at c2
  -- the shapes
  have u2 : upto 0 (Int.toNat 2) = upto 0 2 := rfl
  rw [u2]
  refine ⟨by decide, ?_⟩
  refine comp_R 2 (fun m' μ' => Ng k (c + 1000 + 1000 * m') μ μ') (fun d => canW 6 d = true ∧ wt d ≤ 4000) ?_ (upto 0 2) [] 0 _ (by rw [upto_len]) (hg4.up (by omega)) (fun _ h => by simp at h) (by rw [upto_len]; exact sz (by simp)) ?_
  · intro m' d' μ5 hm' hg5
    refine ⟨_, rfl, ?_⟩
    simp only [↓flS, ↓flE, ↓flO, ↓flI, ↓flQ, List.getElem?_cons_zero, List.getElem?_cons_succ, List.set_cons_zero, List.set_cons_succ, wipeR]
    refine throw_W hg5.nx (by omega) (by decide) (by decide) fun m2 μ6 n0 n1 hx6 => ?_
    have hg6 := hg5.step hx6
    simp only [↓flS, ↓flE, ↓flO, ↓flI, ↓flQ]
    refine ⟨sz (by simp), ?_⟩
    obtain ⟨p, rfl⟩ : ∃ p : Nat, m2 = p := ⟨m2.toNat, by omega⟩
    have hz : Nz k μ6.length (c + 1000 + 1000 * m' + 1) 8 (μ6 ++ [.lst [.int 8]]) (μ6 ++ [.lst [.int 8]]) :=
      ⟨rfl, fun _ _ _ => rfl, (hg6.add _).2.2.2, by have := hg6.nx.lt; omega, by rw [List.getElem?_append_right (Nat.le_refl _), Nat.sub_self]; rfl⟩
    rw [show (1 + (p : Int)) = ((p + 1 : Nat) : Int) by omega]
    refine shape_W (p + 1) (j + 4) (by omega) hz (by omega) fun d a' μ7 e1 e2 e3 e4 => ⟨⟨canW_le e1 (by omega), by omega⟩, ?_⟩
    obtain ⟨f1, f2, f3, f4, f5⟩ := e4
    obtain ⟨g1, g2, g3, g4⟩ := hg6.add (.lst [.int 8])
    exact ⟨g1, by rw [f1]; exact g2, fun i hi hk => by rw [f2 i hk (by have := hg6.2.1; omega)]; exact g3 i hi hk, (Nx.up (k := k) (c := c + 1000 + 1000 * m' + 1 + 16 + 100 * (8 - a')) (μ0 := μ7) (μ := μ7) ⟨rfl, fun _ _ => rfl, f3⟩ (by omega)).2.2⟩
  intro shapes μ5 s1 s2 hg5
  rw [upto_len, List.length_nil, Nat.zero_add] at s2
  obtain ⟨a, b, rfl⟩ : ∃ a b, shapes = [a, b] := by
    match shapes, s2 with
    | [a, b], _ => exact ⟨a, b, rfl⟩
  have ha := s1 a (by simp)
  have hb := s1 b (by simp)
  have hL : ∀ {x : Ob}, (μ5 ++ [x])[μ5.length]? = some x := fun {x} => by rw [List.getElem?_append_right (Nat.le_refl _), Nat.sub_self]; rfl
  have hg6 := hg5.add (.lst [a, b])
  have hlen := hg5.2.1
  have hkl := hg5.1
  have at2 : ∀ {x y : D}, atI [x, y] 0 = some x ∧ atI [x, y] 1 = some y := ⟨rfl, rfl⟩
  -- how it ends
  have fin : ∀ {x y : D} {μ' : Mu}, canW 19 x = true → canW 19 y = true → wt x ≤ 4000 → wt y ≤ 4000 → Ng k (c + 6000) μ μ' →
      kG μ Q (.rt (.tup [x, y, .tup clocks, .tup rows])) μ' := fun {x y μ'} hx1 hy1 hx2 hy2 hg' => by
    obtain ⟨cw, cl⟩ := tup_ints c1
    have rw2 : canW 2 (.tup rows) = true := canW_tup fun d hd => by obtain ⟨ds, rfl, _, e⟩ := r1 d hd; exact (tup_ints e).1
    have rwt : wt (.tup rows) ≤ 13000 := by
      rw [wt_tup]
      have := wtL_le (B := 900) rows fun d hd => by
        obtain ⟨ds, rfl, e1, e2⟩ := r1 d hd
        have := (tup_ints e2).2
        omega
      rw [r2] at this
      have h13 : n * (900 + 2) ≤ 13 * 902 := Nat.mul_le_mul_right _ n2
      omega
    have cs : canW 20 (.tup [x, y, .tup clocks, .tup rows]) = true := canW_tup fun d hd => by
      simp only [List.mem_cons, List.not_mem_nil, or_false] at hd
      rcases hd with rfl | rfl | rfl | rfl
      · exact hx1
      · exact hy1
      · exact canW_le cw (by omega)
      · exact canW_le rw2 (by omega)
    refine hg'.out (canW_pl cs) fun μ'' hx' => q _ _ ?_ ?_ (Nx.up (hx.trans hx') (by omega))
    · have t1 : isTupI (.tup clocks) = true := List.all_eq_true.mpr c1
      have t2 : rowsD (.tup rows) = true := by
        simp only [rowsD, Bool.and_eq_true, decide_eq_true_eq, r2]
        refine ⟨⟨n1, n2⟩, List.all_eq_true.mpr fun d hd => ?_⟩
        obtain ⟨ds, rfl, e1, e2⟩ := r1 d hd
        simp only [rowOf, Bool.and_eq_true, decide_eq_true_eq]
        exact ⟨e1, List.all_eq_true.mpr e2⟩
      simp only [standD, cs, t1, t2, Bool.and_self]
    · rw [wt_tup, wtL_cons, wtL_cons, wtL_cons, wtL_cons, wtL_nil]
      omega
  refine throw_W hg6.nx (by omega) (by decide) (by decide) fun m2 μ6 k0 k1 hx6 => ?_
  have hg7 := hg6.step hx6
  have h6 : μ6[μ5.length]? = some (.lst [a, b]) := by rw [hx6.2.1 _ (by omega)]; exact hL
  simp only [↓flS, ↓flE, ↓flO, ↓flI, ↓flQ, List.getElem?_cons_zero, List.getElem?_cons_succ, List.set_cons_zero, List.set_cons_succ]
  refine ⟨fun _ => ?_, fun _ => ?_⟩
  · refine deep_W (L := 19) hg7.nx (by omega) (by omega) (by omega) fun d μ7 d1 d2 _ hx7 => ?_
    have hg8 := hg7.step hx7
    have h7 : μ7[μ5.length]? = some (.lst [a, b]) := by rw [hx7.2.1 _ (by omega)]; exact h6
    refine throw_W hg8.nx (by omega) (by decide) (by decide) fun m3 μ8 l0 l1 hx8 => ?_
    have hg9 := hg8.step hx8
    have h8 : μ8[μ5.length]? = some (.lst [a, b]) := by rw [hx8.2.1 _ (by omega)]; exact h7
    rcases (show m3 = 0 ∨ m3 = 1 by omega) with rfl | rfl
    · have e : ixN [a, b].length 0 = some 0 := rfl
      rw [putr h8 e]
      have hs : (μ8.set μ5.length (.lst [d, b]))[μ5.length]? = some (.lst [d, b]) := List.getElem?_set_self (List.getElem?_eq_some_iff.mp h8).1
      simp only [↓flS, ↓flE, ↓flO, ↓flI, ↓flQ, List.getElem?_cons_zero, List.getElem?_cons_succ, List.set_cons_zero, List.set_cons_succ, ixL hs at2.1, ixL hs at2.2]
      exact ⟨sz (by simp), fin d1 (canW_le hb.1 (by omega)) (by omega) hb.2 ((hg9.set hlen _).up (by omega))⟩
    · have e : ixN [a, b].length 1 = some 1 := rfl
      rw [putr h8 e]
      have hs : (μ8.set μ5.length (.lst [a, d]))[μ5.length]? = some (.lst [a, d]) := List.getElem?_set_self (List.getElem?_eq_some_iff.mp h8).1
      simp only [↓flS, ↓flE, ↓flO, ↓flI, ↓flQ, List.getElem?_cons_zero, List.getElem?_cons_succ, List.set_cons_zero, List.set_cons_succ, ixL hs at2.1, ixL hs at2.2]
      exact ⟨sz (by simp), fin (canW_le ha.1 (by omega)) d1 ha.2 (by omega) ((hg9.set hlen _).up (by omega))⟩
  · simp only [ixL h6 at2.1, ixL h6 at2.2]
    exact ⟨sz (by simp), fin (canW_le ha.1 (by omega)) (canW_le hb.1 (by omega)) ha.2 hb.2 (hg7.up (by omega))⟩
end K49
namespace K49
open PySem PySem.Spec PyProof.Rows L2 FL
set_option autoImplicit false
variable {cI cP cE : Addr}
theorem stands_W {K k c : Nat} {m : Nat} {μ0 μ : Mu} {Q : D → Mu → Prop} (hK : 13 ≤ K) (hm : m ≤ 4) (hx : Nx k c μ0 μ) (hc : c + 50000 < 2 ^ 100)
    (q : ∀ d μ', standsD d = true → wt d ≤ 4 + 30002 * m → Nx k (c + 50000) μ0 μ' → Q d μ') : W ((gs cI cP cE K)._law_stands [.ref k, .int m] μ) Q := by
  obtain ⟨j, rfl⟩ : ∃ j, K = j + 5 := ⟨K - 5, by omega⟩
  refine runK_W ?_
  show W (G__law_stands _ _ [some (.ref k), some (.int m), none] μ) _
  unfold G__law_stands
  simp only [↓flS, ↓flE, ↓flO, ↓flI, ↓flQ, List.getElem?_cons_zero, List.getElem?_cons_succ, List.set_cons_zero, List.set_cons_succ, wipeR]
  refine throw_W hx (by omega) (by omega) (Nat.lt_of_le_of_lt (m := 5) (by omega) (by decide)) fun n μ1 h0 h1 hx1 => ?_
  simp only [↓flI]
  refine ⟨⟨by omega, by omega⟩, ?_⟩
  refine comp_R n.toNat (fun m' μ' => Nx k (c + 1 + 10000 * m') μ0 μ') (fun d => standD d = true ∧ wt d ≤ 30000) ?_ (upto 0 n.toNat) [] 0 _ (by rw [upto_len]; omega) (hx1.up (by omega)) (fun _ h => by simp at h) (by rw [upto_len]; exact sz (by simp; omega)) ?_
  · intro m' d' μ4 hm' hg4
    refine ⟨_, rfl, ?_⟩
    simp only [↓flS, ↓flE, ↓flO, ↓flI, ↓flQ, List.getElem?_cons_zero, List.getElem?_cons_succ, List.set_cons_zero, List.set_cons_succ, wipeR]
    exact stand_W (by omega) hg4 (by omega) fun d μ5 h1 h2 h3 => ⟨⟨h1, h2⟩, h3.up (by omega)⟩
  · intro ys μ' h2 h3 h4
    rw [upto_len, List.length_nil, Nat.zero_add] at h3
    refine q _ _ (List.all_eq_true.mpr fun d hd => (h2 d hd).1) ?_ (h4.up (by omega))
    rw [wt_tup]
    have := wtL_le (B := 30000) ys fun d hd => (h2 d hd).2
    have h5 : ys.length * 30002 ≤ m * 30002 := Nat.mul_le_mul_right _ (by omega)
    omega
theorem value_W {i k c : Nat} {μ0 μ : Mu} {Q : D → Mu → Prop} (hx : Nx k c μ0 μ) (hc : c + 2 < 2 ^ 100)
    (q : ∀ d μ', isInt d = true → Nx k (c + 2) μ0 μ' → Q d μ') : W ((gs cI cP cE (i + 3))._law_value [.ref k] μ) Q := by
  refine runK_W ?_
  show W (G__law_value _ [some (.ref k), none] μ) _
  unfold G__law_value
  simp only [↓flS, ↓flE, ↓flO, ↓flI, ↓flQ, List.getElem?_cons_zero, List.getElem?_cons_succ, List.set_cons_zero, List.set_cons_succ]
  refine throw_W hx (by omega) (by decide) (by decide) fun n μ1 h0 h1 hx1 => ?_
  simp only [↓flS, ↓flE, ↓flO, ↓flI, ↓flQ, List.getElem?_cons_zero, List.getElem?_cons_succ, List.set_cons_zero, List.set_cons_succ]
  refine ⟨fun _ => ?_, fun e5 => ⟨fun _ => ?_, fun e6 => ?_⟩⟩
  · exact throw_W hx1 (by omega) (by decide) (by decide) fun n2 μ2 h2 h3 hx2 => q _ _ (isInt_small (by omega) (by omega)) hx2
  · refine throw_W hx1 (by omega) (by decide) (by decide) fun n2 μ2 h2 h3 hx2 => ?_
    simp only [↓flO]
    exact q _ _ (isInt_small (by omega) (by omega)) hx2
  · rw [pow60]
    refine ⟨trivial, ?_⟩
    rw [tn60]
    refine throw10_W hx1 (by omega) (by decide) fun n2 μ2 h2 h3 hx2 => ?_
    simp only [↓flO]
    have e5 := of_decide_eq_false e5
    have e6 := of_decide_eq_false e6
    have h8 : n = 6 ∨ n = 7 := by omega
    refine ⟨?_, ?_, q _ _ ?_ hx2⟩
    · have l2 : n.natAbs.log2 < 200 := log_lt 200 (by omega) (by decide)
      have l1 : (2 : Int).natAbs.log2 < 200 := log_lt 200 (by decide) (by decide)
      omega
    · have l1 : n2.natAbs.log2 < 200 := log_lt 200 (by rw [p60] at h3; omega) (by decide)
      have l2 : (13 - 2 * n).natAbs.log2 < 200 := log_lt 200 (by omega) (by decide)
      omega
    · rcases h8 with rfl | rfl <;> exact isInt_of (by rw [p60] at *; omega) (by rw [p60] at *; omega)
theorem pickT_W {i k c : Nat} {μ0 μ : Mu} {ds : List D} {Q : D → Mu → Prop} (hx : Nx k c μ0 μ) (hc : c < 2 ^ 100) (hn : ds ≠ []) (hl : ds.length ≤ 16777216)
    (q : ∀ d μ', d ∈ ds → Nx k (c + 1) μ0 μ' → Q d μ') : W ((gs cI cP cE (i + 2))._law_pick [.ref k, .tup ds] μ) Q := by
  refine runK_W ?_
  show W (G__law_pick _ [some (.ref k), some (.tup ds)] μ) _
  unfold G__law_pick
  simp only [↓flS, ↓flE, ↓flO, ↓flI, List.getElem?_cons_zero, List.getElem?_cons_succ]
  have hp : 0 < ds.length := List.length_pos_iff.mpr hn
  refine throw_W hx hc (by omega) (Nat.lt_of_le_of_lt (m := 16777216) (by omega) (by decide)) fun m μ' h0 h1 h2 => ?_
  obtain ⟨a, e, ha⟩ := atI_some h0 h1
  simp only [↓flS, ↓flE, ↓flO, ↓flI, e]
  exact q a μ' ha h2
/-! ### names, letters -/
theorem words_eq {i : Nat} (μ : Mu) : (gs cI cP cE (i + 1))._law_words [] μ = .ok (.lst (wordsS.map .str)) μ := by
  refine W.eq ?_
  show W (runK 1 G__law_words [] μ) _
  refine runK_W ?_
  show W (G__law_words [none] μ) _
  unfold G__law_words
  simp only [↓flS, ↓flE, ↓flO, ↓flI, ↓flQ, List.getElem?_cons_zero, List.getElem?_cons_succ, List.set_cons_zero, List.set_cons_succ]
  exact ⟨sz (by simp), sz (by simp), sz (by simp), rfl, trivial⟩
theorem scL_strs : ∀ xs : List Str, scL (xs.map .str) = some (xs.map V.str)
  | [] => rfl
  | x :: xs => by
    show (some (V.str x)).bind (fun v => (scL (xs.map .str)).map fun vs => v :: vs) = _
    rw [scL_strs xs]
    rfl
theorem in_strs {x : Str} {xs : List Str} {neg : Bool} {μ : Mu} : gIn neg (.str x) (.lst (xs.map .str)) μ = .ok (.bl (neg ^^ inV (.str x) (xs.map V.str))) μ := by
  unfold gIn
  have e : inD (.str x) (.lst (xs.map .str)) = some (inV (.str x) (xs.map V.str)) := by
    show (match (D.str x).sc, (D.lst (xs.map .str)).items.bind scL with | some x, some vs => some (inV x vs) | _, _ => none) = _
    simp only [D.sc, D.items, Option.bind_some, scL_strs]
  rw [e]
theorem inV_strs {x : Str} {xs : List Str} : inV (.str x) (xs.map V.str) = decide (x ∈ xs) := by
  unfold inV
  rw [Bool.eq_iff_iff, List.any_eq_true, decide_eq_true_eq]
  constructor
  · rintro ⟨y, hy, e⟩
    obtain ⟨z, hz, rfl⟩ := List.mem_map.mp hy
    have e : (z == x) = true := e
    rw [← beq_iff_eq.mp e]
    exact hz
  · intro h
    exact ⟨.str x, List.mem_map.mpr ⟨x, h, rfl⟩, beq_self_eq_true x⟩
theorem cutS_len (x : Str) (n : Nat) : (cutS x none (some (n : Int))).length ≤ x.length ∧ (cutS x none (some (n : Int))).length ≤ n ∧ (lows x = true → lows (cutS x none (some (n : Int))) = true) := by
  have e : cutS x none (some (n : Int)) = ⟨(x.cps.toList.take (min n x.length)).toArray⟩ := by
    unfold cutS
    rw [show HT.sIx x.length 0 none = 0 from rfl, HT.sIx_nat, List.drop_zero, Nat.sub_zero]
  have l : (cutS x none (some (n : Int))).length = min (min n x.length) x.length := by
    rw [e]
    show (x.cps.toList.take (min n x.length)).toArray.size = _
    rw [List.size_toArray, List.length_take, show x.cps.toList.length = x.length from Array.length_toList]
  refine ⟨by omega, by omega, fun h => ?_⟩
  rw [e]
  exact List.all_eq_true.mpr fun c hc => List.all_eq_true.mp h c (List.mem_of_mem_take hc)
theorem name_W {i k c : Nat} {μ0 μ : Mu} {Q : D → Mu → Prop} {taken : List Str} (hx : Nx k c μ0 μ) (hc : c + 10 < 2 ^ 100)
    (q : ∀ x μ', nameS x = true → Nx k (c + 10) μ0 μ' → Q (.str x) μ') : W ((gs cI cP cE (i + 3))._law_name [.ref k, .lst (taken.map .str)] μ) Q := by
  refine runK_W ?_
  show W (G__law_name _ _ _ [some (.ref k), some (.lst (taken.map .str)), none, none, none, none, none, none] μ) _
  unfold G__law_name
  simp only [↓flS, ↓flE, ↓flO, ↓flI, ↓flQ, List.getElem?_cons_zero, List.getElem?_cons_succ, List.set_cons_zero, List.set_cons_succ, beq_self_eq_true, true_and]
  refine ⟨sz (by simp), ?_⟩
  refine pickL_W hx (by omega) (by simp) (by simp) fun d μ1 hd hx1 => ?_
  have hs : ∃ x : Str, d = .str x ∧ lows x = true ∧ 0 < x.length ∧ x.length ≤ 1000 := by
    simp only [List.mem_cons, List.not_mem_nil, or_false] at hd
    rcases hd with rfl | rfl | rfl
    · exact ⟨_, rfl, abc_lows.1, by rw [abc_lows.2]; omega, by rw [abc_lows.2]; omega⟩
    · exact ⟨_, rfl, ab_lows.1, by rw [ab_lows.2]; omega, by rw [ab_lows.2]; omega⟩
    · exact ⟨_, rfl, st_lows.1, by rw [st_lows.2]; omega, by rw [st_lows.2]; omega⟩
  obtain ⟨x, rfl, hx5, hx6, hx7⟩ := hs
  refine throw_W hx1 (by omega) (by decide) (by decide) fun n μ2 h0 h1 hx2 => ?_
  simp only [↓flS, ↓flE, ↓flO, ↓flI, ↓flQ, List.getElem?_cons_zero, List.getElem?_cons_succ, List.set_cons_zero, List.set_cons_succ, wipeR]
  refine ⟨⟨by omega, by omega⟩, ?_⟩
  refine letters_W (cI := cI) (cP := cP) (cE := cE) (i := i) hx2 (by omega) (by omega) hx6 hx7 hx5 (fun d => ⟨_, rfl, fun μ Q => ?_⟩) fun y μ3 hy1 hy2 hx3 => ?_
  · simp only [↓flS, ↓flE, ↓flO, ↓flI, ↓flQ, List.getElem?_cons_zero, List.getElem?_cons_succ, List.set_cons_zero, List.set_cons_succ]
  refine ⟨sz (by simp), ?_⟩
  have abc : ∀ d ∈ (("abcdefghijklmnopqrstuvwxyz" : Str)).cps.toList.map sign, ∃ c, d = sign c ∧ low c = true := fun d hd => by
    obtain ⟨c, hc, rfl⟩ := List.mem_map.mp hd
    exact ⟨c, rfl, lows_mem abc_lows.1 hc⟩
  have abn : ((("abcdefghijklmnopqrstuvwxyz" : Str)).cps.toList.map sign).length = 26 := by
    rw [List.length_map]
    exact (show _ = _ from Array.length_toList).trans abc_lows.2
  have hz : ∀ {z : Str}, z.length ≤ 100 → z.length ≤ sizeLine := fun h => sz (by omega)
  have h8 : y.length ≤ 8 := by omega
  refine comp_W (fun rest acc μ' => (∀ d ∈ rest, ∃ c, d = sign c ∧ low c = true) ∧ (∀ a ∈ acc, ∃ z : Str, a = .str z ∧ lows z = true ∧ 1 ≤ z.length ∧ z.length ≤ 8) ∧ acc.length + rest.length = 26 ∧ μ' = μ3) ?_ ?_ _ _ _ ⟨abc, fun _ h => by simp at h, abn, rfl⟩
  · rintro d rest acc μ' ⟨i1, i2, i3, rfl⟩
    obtain ⟨ch, rfl, hch⟩ := i1 d List.mem_cons_self
    refine ⟨_, rfl, ?_⟩
    rw [W_yes, br_t]
    simp only [↓flS, ↓flE, ↓flO, ↓flI, ↓flQ, List.getElem?_cons_zero, List.getElem?_cons_succ, List.set_cons_zero, List.set_cons_succ, wipeR]
    have cl : (cutS y none (some 7)).length ≤ y.length ∧ (cutS y none (some 7)).length ≤ 7 ∧ (lows y = true → lows (cutS y none (some 7)) = true) := cutS_len y 7
    refine ⟨hz (by omega), ?_⟩
    show W (gAdd (.str (cutS y none (some 7))) (.str ⟨#[ch]⟩) μ') _
    simp only [↓flO]
    have l1 : (⟨#[ch]⟩ : Str).length = 1 := rfl
    rw [List.length_cons] at i3
    refine ⟨sz (by rw [l1]; omega), Nat.lt_of_lt_of_le (m := 100) (by omega) (by decide), fun d hd => i1 d (List.mem_cons_of_mem _ hd), fun a ha => ?_, by rw [List.length_append, List.length_singleton]; omega, trivial⟩
    rcases List.mem_append.mp ha with ha | ha
    · exact i2 a ha
    · rw [List.mem_singleton.mp ha]
      refine ⟨_, rfl, ?_, by rw [len_app, l1]; omega, by rw [len_app, l1]; omega⟩
      rw [lows_app, cl.2.2 hy2]
      simp [lows, hch]
  · rintro acc μ' ⟨i1, i2, i3, rfl⟩
    rw [List.length_nil] at i3
    refine ⟨sz (by simp only [List.length_cons, List.length_nil]; omega), ?_⟩
    have cand : ∀ a ∈ [D.str y] ++ acc, ∃ z : Str, a = .str z ∧ lows z = true ∧ 1 ≤ z.length ∧ z.length ≤ 8 := fun a ha => by
      rcases List.mem_append.mp ha with ha | ha
      · rw [List.mem_singleton.mp ha]; exact ⟨y, rfl, hy2, by omega, h8⟩
      · exact i2 a ha
    refine loop_W (fun rest ρ μ' => (∀ a ∈ rest, ∃ z : Str, a = .str z ∧ lows z = true ∧ 1 ≤ z.length ∧ z.length ≤ 8) ∧ (∃ o, ρ = [some (.ref k), some (.lst (taken.map .str)), some (.str "abcdefghijklmnopqrstuvwxyz"), some (.str x), some (.str y), none, o, none]) ∧ Nx k (c + 10) μ0 μ') ?_ ?_ _ _ _ ⟨cand, ⟨_, rfl⟩, hx3.up (by omega)⟩
    · rintro d rest ρ μ' ⟨j1, ⟨o, rfl⟩, j3⟩
      obtain ⟨z, rfl, z1, z2, z3⟩ := j1 d List.mem_cons_self
      refine ⟨_, rfl, ?_⟩
      simp only [↓flS, ↓flE, ↓flO, ↓flI, ↓flQ, List.getElem?_cons_zero, List.getElem?_cons_succ, List.set_cons_zero, List.set_cons_succ, wipeR, in_strs, words_eq, inV_strs]
      have nxt : ∀ (_ : Unit), (∀ a ∈ rest, ∃ z : Str, a = .str z ∧ lows z = true ∧ 1 ≤ z.length ∧ z.length ≤ 8) := fun _ a ha => j1 a (List.mem_cons_of_mem _ ha)
      refine ⟨fun _ => ⟨fun hn => ?_, fun _ => ⟨nxt (), ⟨_, rfl⟩, j3⟩⟩, fun _ => ⟨nxt (), ⟨_, rfl⟩, j3⟩⟩
      refine q z _ ?_ j3
      rw [Bool.true_xor] at hn
      simp only [nameS, z1, hn, Bool.and_true, Bool.and_eq_true, decide_eq_true_eq]
      exact ⟨z2, z3⟩
    · rintro ρ μ' ⟨_, ⟨o, rfl⟩, j3⟩
      simp only [↓flS, ↓flE, ↓flO, ↓flI, ↓flQ]
      exact q _ _ (by decide +kernel) j3
end K49
namespace K49
open PySem PySem.Spec PyProof.Rows L2 FL
set_option autoImplicit false
variable {cI cP cE : Addr}
theorem listM_W (x : Str) (μ : Mu) (Q : D → Mu → Prop) : W (gListM [.str x] μ) Q = (x.cps.size ≤ sizeLine ∧ Q (.ref μ.length) (μ ++ [.lst (x.cps.toList.map sign)])) := W_iteQ _ _ _ _
theorem lenR {μ : Mu} {l : Nat} {ds : List D} {Q : D → Mu → Prop} (h : μ[l]? = some (.lst ds)) : W (gLen [.ref l] μ) Q = Q (.int (ds.length : Nat)) μ := by
  unfold gLen
  simp only [h, W_ok]
theorem tyR {μ : Mu} {l : Nat} {ds : List D} (h : μ[l]? = some (.lst ds)) : tyOk "list" μ (.ref l) = true := by
  simp only [tyOk, h]
  rfl
theorem getA {μ : Mu} {o : Ob} : (μ ++ [o])[μ.length]? = some o := by
  rw [List.getElem?_append_right (Nat.le_refl _), Nat.sub_self]
  rfl
theorem signs_low {x : Str} (h : lows x = true) : ∀ d ∈ x.cps.toList.map sign, ∃ s, d = sign s ∧ low s = true := fun d hd => by
  obtain ⟨c, hc, rfl⟩ := List.mem_map.mp hd
  exact ⟨c, rfl, lows_mem h hc⟩
theorem signs_len (x : Str) : (x.cps.toList.map sign).length = x.length := by
  rw [List.length_map]
  exact Array.length_toList
theorem abcd_lows : lows ("abcd" : Str) = true ∧ ("abcd" : Str).length = 4 := by decide +kernel
theorem sortS {ds : List D} {xs : List Str} (e : stL ds = some xs) (hn : ds ≠ []) (hl : xs.length < 64) {μ : Mu} : gSorted [.lst ds] μ = .ok (.lst ((xs.mergeSort leS).map .str)) μ := by
  have e2 : inL ds = none := by
    cases ds with
    | nil => exact absurd rfl hn
    | cons d ds =>
      cases d with
      | str x => rfl
      | _ => simp [stL] at e
  show (match inL ds with | some ns => Rs.ok (D.lst ((ns.mergeSort fun i j => decide (i ≤ j)).map .int)) μ | none => match stL ds with
      | some ys => if ys.length < 64 then Rs.ok (D.lst ((ys.mergeSort leS).map .str)) μ else Rs.no
      | none => Rs.no) = _
  rw [e2, e]
  simp only
  rw [if_pos hl]
/-- the letters of a source -/
def letsD (d : D) : Prop := ∃ ls : List D, d = .tup ls ∧ ls ≠ [] ∧ ls.length ≤ 2 ∧ ∀ x ∈ ls, letterD x = true
theorem letters2_W {i k c : Nat} {μ0 μ : Mu} {Q : D → Mu → Prop} (hx : Nx k c μ0 μ) (hc : c + 10 < 2 ^ 100)
    (q : ∀ d μ', letsD d → Nx k (c + 10) μ0 μ' → Q d μ') : W ((gs cI cP cE (i + 3))._law_letters [.ref k, .int 2] μ) Q := by
  refine runG_W ?_
  show W (G__law_letters _ [some (.ref k), some (.int 2), none, none, none] μ) _
  unfold G__law_letters
  have hg := hx.self.ng
  have z26 : (("abcdefghijklmnopqrstuvwxyz" : Str)).cps.size ≤ sizeLine := sz (by rw [show (("abcdefghijklmnopqrstuvwxyz" : Str)).cps.size = 26 from abc_lows.2]; omega)
  have z4 : (("abcd" : Str)).cps.size ≤ sizeLine := sz (by rw [show (("abcd" : Str)).cps.size = 4 from abcd_lows.2]; omega)
  have d24 : decide ((2 : Int) ≤ 4) = true := rfl
  simp only [↓flS, ↓flE, ↓flO, ↓flI, ↓flQ, List.getElem?_cons_zero, List.getElem?_cons_succ, List.set_cons_zero, List.set_cons_succ, listM_W, d24]
  refine ⟨z26, ?_⟩
  have hg1 := hg.add (.lst ((("abcdefghijklmnopqrstuvwxyz" : Str)).cps.toList.map sign))
  refine throw_W hg1.nx (by omega) (by decide) (by decide) fun m μ1 h0 h1 hx1 => ?_
  have hg2 := hg1.step hx1
  have ol : (μ1)[μ.length]? = some (.lst ((("abcdefghijklmnopqrstuvwxyz" : Str)).cps.toList.map sign)) := by
    rw [hx1.2.1 _ (by have := hg.1; omega)]; exact getA
  -- what follows
  have fin : ∀ (l : Nat) (ds : List D) (μ2 : Mu), μ.length ≤ l → μ2[l]? = some (.lst ds) → (∀ d ∈ ds, ∃ s, d = sign s ∧ low s = true) → 4 ≤ ds.length → ds.length ≤ 30 → Ng k (c + 1) μ μ2 →
      W ((gSeq (gSet (fBin gAdd (fC (.int 1)) (fCall (gs cI cP cE (i + 2))._law_throw (fCons (fVar 0) (fCons (fVar 1) fNil)))) (tgN 3)) (gRet (fCall gTuple (fCons (fCall gSorted (fCons (fComp [4] (fItR1 (fCons (fVar 3) fNil)) (tgN 4) fYes (fMeth "list" gPopAt (fVar 2) (fCons (fCall (gs cI cP cE (i + 2))._law_throw (fCons (fVar 0) (fCons (fCall gLen (fCons (fVar 2) fNil)) fNil))) fNil))) fNil)) fNil)))) [some (.ref k), some (.int 2), some (.ref l), none, none] μ2) (kG μ Q) := by
    intro l ds μ2 hl e1 e2 e3 e4 hg3
    simp only [↓flS, ↓flE, ↓flO, ↓flI, ↓flQ, List.getElem?_cons_zero, List.getElem?_cons_succ, List.set_cons_zero, List.set_cons_succ]
    refine throw_W hg3.nx (by omega) (by decide) (by decide) fun n μ3 n0 n1 hx3 => ?_
    have hg4 := hg3.step hx3
    have hkl : l ≠ k := by have := hg.1; omega
    have e5 : μ3[l]? = some (.lst ds) := by rw [hx3.2.1 _ hkl]; exact e1
    simp only [↓flO, ↓flI, ↓flS, List.set_cons_zero, List.set_cons_succ, List.getElem?_cons_zero, List.getElem?_cons_succ, wipeR]
    refine ⟨⟨by omega, by omega⟩, ?_⟩
    refine comp_R (1 + n).toNat (fun m' μ' => Ng k (c + 2 + m') μ μ' ∧ ∃ es, μ'[l]? = some (.lst es) ∧ (∀ d ∈ es, ∃ s, d = sign s ∧ low s = true) ∧ es.length + m' = ds.length) (fun d => ∃ s, d = sign s ∧ low s = true) ?_ (upto 0 (1 + n).toNat) [] 0 _ (by rw [upto_len]; omega) ⟨hg4.up (by omega), ds, e5, e2, rfl⟩ (fun _ h => by simp at h) (by rw [upto_len]; exact sz (by simp; omega)) ?_
    · rintro m' d' μ4 hm' ⟨hg5, es, f1, f2, f3⟩
      refine ⟨_, rfl, ?_⟩
      simp only [↓flS, ↓flE, ↓flO, ↓flI, ↓flQ, List.getElem?_cons_zero, List.getElem?_cons_succ, List.set_cons_zero, List.set_cons_succ, wipeR, lenR f1]
      refine ⟨tyR f1, ?_⟩
      refine throw_W hg5.nx (by omega) (by omega) (Nat.lt_of_le_of_lt (m := 30) (by omega) (by decide)) fun p μ5 p0 p1 hx5 => ?_
      have f4 : μ5[l]? = some (.lst es) := by rw [hx5.2.1 _ hkl]; exact f1
      have hp : p.toNat < es.length := by omega
      have e6 : gPopAt (.ref l) [.int p] μ5 = .ok es[p.toNat] (μ5.set l (.lst (es.eraseIdx p.toNat))) := by
        unfold gPopAt
        simp only [f4]
        rw [if_pos ⟨p0, by omega⟩, List.getElem?_eq_getElem hp]
      rw [e6, W_ok]
      refine ⟨f2 _ (List.getElem_mem hp), (((hg5.step hx5).set hl _).up (by omega)), es.eraseIdx p.toNat, List.getElem?_set_self (List.getElem?_eq_some_iff.mp f4).1, fun d hd => f2 d (List.mem_of_mem_eraseIdx hd), ?_⟩
      rw [List.length_eraseIdx_of_lt hp]
      omega
    · rintro ys μ4 g1 g2 ⟨g3, _⟩
      rw [upto_len, List.length_nil, Nat.zero_add] at g2
      obtain ⟨xs, x1, x2, x3⟩ := stL_signs g1
      have hne : ys ≠ [] := fun z => by rw [z, List.length_nil] at g2; omega
      rw [sortS x1 hne (by omega)]
      simp only [↓flE, ↓flO]
      have ms : ∀ x ∈ (xs.mergeSort leS).map D.str, letterD x = true := fun x hx => by
        obtain ⟨s, hs, rfl⟩ := List.mem_map.mp hx
        have := x3 s (List.mem_mergeSort.mp hs)
        simp [letterD, this.1, this.2]
      have ml : ((xs.mergeSort leS).map D.str).length = ys.length := by rw [List.length_map, List.length_mergeSort, x2]
      refine g3.out ?_ fun μ' hx' => q _ _ ⟨_, rfl, fun z => ?_, by rw [ml]; omega, ms⟩ (Nx.up (hx.trans hx') (by omega))
      · rw [pl_tup]
        refine plL_of fun x hx => ?_
        have := ms x hx
        cases x with
        | str s =>
          simp only [letterD, Bool.and_eq_true] at this
          rw [Pl]
          exact lows_ok this.2
        | _ => simp [letterD] at this
      · rw [z, List.length_nil] at ml
        omega
  refine ⟨fun _ => ?_, fun _ => ?_⟩
  · refine ⟨z4, ?_⟩
    have f := fin _ _ _ (by rw [hx1.1]; simp) getA (signs_low abcd_lows.1) (by rw [signs_len, abcd_lows.2]; omega) (by rw [signs_len, abcd_lows.2]; omega) (hg2.add _)
    simp only [↓flS, ↓flE, ↓flO, ↓flI, ↓flQ, List.getElem?_cons_zero, List.getElem?_cons_succ, List.set_cons_zero, List.set_cons_succ] at f
    exact f
  · have f := fin _ _ _ (Nat.le_refl _) ol (signs_low abc_lows.1) (by rw [signs_len, abc_lows.2]; omega) (by rw [signs_len, abc_lows.2]; omega) hg2
    simp only [↓flS, ↓flE, ↓flO, ↓flI, ↓flQ, List.getElem?_cons_zero, List.getElem?_cons_succ, List.set_cons_zero, List.set_cons_succ] at f
    exact f
end K49
namespace K49
open PySem PySem.Spec PyProof.Rows L2 FL
set_option autoImplicit false
variable {cI cP cE : Addr}
def pairOk (kv : Key × D) : Prop := (∃ x, kv.1 = .inr x ∧ nameS x = true) ∧ letsD kv.2
def layD (d : D) : Prop := ∃ kvs, d = .dct kvs ∧ kvs ≠ [] ∧ kvs.length ≤ 4 ∧ ∀ kv ∈ kvs, pairOk kv
theorem keyS_ok : ∀ {kvs : List (Key × D)}, (∀ kv ∈ kvs, pairOk kv) → ∃ ys, keyS (kvs.map (·.1)) = some ys ∧ ys.length = kvs.length ∧ ∀ y ∈ ys, nameS y = true ∧ ∃ d, (Sum.inr y, d) ∈ kvs
  | [], _ => ⟨[], rfl, rfl, fun _ h => by simp at h⟩
  | (a, d) :: kvs, h => by
    obtain ⟨⟨x, e, hx⟩, hl⟩ := h _ List.mem_cons_self
    simp only at e
    subst e
    obtain ⟨ys, e2, hl2, hy⟩ := keyS_ok fun kv hkv => h kv (List.mem_cons_of_mem _ hkv)
    refine ⟨x :: ys, ?_, by rw [List.length_cons, hl2, List.length_cons], fun y hm => ?_⟩
    · show (keyS (kvs.map (·.1))).map _ = _
      rw [e2]; rfl
    · rcases List.mem_cons.mp hm with rfl | hm
      · exact ⟨hx, d, List.mem_cons_self⟩
      · obtain ⟨g1, d', g2⟩ := hy y hm
        exact ⟨g1, d', List.mem_cons_of_mem _ g2⟩
theorem sortK {d : D} {kvs : List (Key × D)} {ys : List Str} {μ : Mu} (hd : ∀ xs, d ≠ .lst xs) (e1 : d.pairs μ = some kvs) (e2 : keyS (kvs.map (·.1)) = some ys) (hl : ys.length < 64) : gSorted [d] μ = .ok (.lst ((ys.mergeSort leS).map .str)) μ := by
  unfold gSorted
  split
  · rename_i xs h
    simp only [List.cons.injEq, and_true] at h
    exact absurd h (hd xs)
  · rename_i d' _ h
    simp only [List.cons.injEq, and_true] at h
    subst h
    rw [e1, Option.bind_some, e2]
    simp only
    rw [if_pos hl]
  · rename_i h1 h2
    exact absurd rfl (h2 d)
theorem lets_pl {d : D} (h : letsD d) : Pl d = true := by
  obtain ⟨ls, rfl, _, _, hl⟩ := h
  rw [pl_tup]
  refine plL_of fun x hx => ?_
  have := hl x hx
  cases x with
  | str s =>
    simp only [letterD, Bool.and_eq_true] at this
    rw [Pl]
    exact lows_ok this.2
  | _ => simp [letterD] at this
theorem innD_ok {n : Nat} : ∀ {kvs : List (Key × D)}, (∀ kv ∈ kvs, pairOk kv) → innD n kvs = true
  | [], _ => by rw [innD]
  | (a, d) :: kvs, h => by
    rw [innD, Bool.and_eq_true]
    exact ⟨pl_inn (lets_pl (h _ List.mem_cons_self).2), innD_ok fun kv hkv => h kv (List.mem_cons_of_mem _ hkv)⟩
theorem putD_ok {kvs : List (Key × D)} {x : Str} {d : D} (h : ∀ kv ∈ kvs, pairOk kv) (hx : nameS x = true) (hd : letsD d) : (∀ kv ∈ putD kvs (.inr x) d, pairOk kv) ∧ putD kvs (.inr x) d ≠ [] ∧ (putD kvs (.inr x) d).length ≤ kvs.length + 1 := by
  unfold putD
  split
  · rename_i ha
    refine ⟨fun kv hkv => ?_, fun z => ?_, by rw [List.length_map]; omega⟩
    · obtain ⟨kv', hm, rfl⟩ := List.mem_map.mp hkv
      split
      · rename_i e
        exact ⟨⟨x, e, hx⟩, hd⟩
      · exact h kv' hm
    · rw [List.map_eq_nil_iff] at z
      subst z
      simp at ha
  · refine ⟨fun kv hkv => ?_, by simp, by rw [List.length_append, List.length_singleton]; omega⟩
    rcases List.mem_append.mp hkv with hkv | hkv
    · exact h kv hkv
    · rw [List.mem_singleton.mp hkv]
      exact ⟨⟨x, rfl, hx⟩, hd⟩
theorem storeD_W (Fv Fo Fi : FE) (ρ : Rho) (μ : Mu) (Q : Ot → Mu → Prop) : W (gStoreD Fv Fo Fi ρ μ) Q = W (Fv ρ μ) fun v μ1 => W (Fo ρ μ1) fun o μ2 => W (Fi ρ μ2) fun i μ3 => W (match o, i.key with
  | .ref k, some y => match μ3[k]? with
    | some (.dct kvs) => if kvs.length < sizeLine then .ok (.nx ρ) (μ3.set k (.dct (putD kvs y v))) else .no
    | _ => .no
  | _, _ => .no) Q := by
  unfold gStoreD
  simp only [W_bind]
  all_goals rfl
theorem newM_W (ρ : Rho) (μ : Mu) (Q : D → Mu → Prop) : W (fDNewM ρ μ) Q = Q (.ref μ.length) (μ ++ [.dct []]) := W_ok _ _ _
theorem layout_W {i k c : Nat} {μ0 μ : Mu} {Q : D → Mu → Prop} (hx : Nx k c μ0 μ) (hc : c + 100 < 2 ^ 100)
    (q : ∀ d μ', layD d → Nx k (c + 100) μ0 μ' → Q d μ') : W ((gs cI cP cE (i + 4))._law_layout [.ref k, .int 4, .int 2] μ) Q := by
  refine runG_W ?_
  show W (G__law_layout _ _ _ [some (.ref k), some (.int 4), some (.int 2), none, none, none] μ) _
  unfold G__law_layout
  have hg := hx.self.ng
  simp only [↓flS, ↓flE, ↓flO, ↓flI, ↓flQ, List.getElem?_cons_zero, List.getElem?_cons_succ, List.set_cons_zero, List.set_cons_succ, newM_W]
  have hg1 := hg.add (.dct [])
  have hkl : μ.length ≠ k := by have := hg.1; omega
  refine throw_W hg1.nx (by omega) (by decide) (by decide) fun m μ1 h0 h1 hx1 => ?_
  have hg2 := hg1.step hx1
  have ol : μ1[μ.length]? = some (.dct []) := by rw [hx1.2.1 _ hkl]; exact getA
  simp only [↓flO, ↓flI]
  refine ⟨⟨by omega, by omega⟩, ?_⟩
  refine loop_W (fun rest ρ μ' => ∃ j kvs o4 o5, ρ = [some (.ref k), some (.int 4), some (.int 2), some (.ref μ.length), o4, o5] ∧ Ng k (c + 1 + 20 * j) μ μ' ∧ μ'[μ.length]? = some (.dct kvs) ∧ kvs.length ≤ j ∧ (∀ kv ∈ kvs, pairOk kv) ∧ (0 < j → kvs ≠ []) ∧ j + rest.length = (1 + m).toNat) ?_ ?_ _ _ _ ⟨0, [], none, none, rfl, hg2, ol, by simp, fun _ h => by simp at h, fun h => absurd h (by omega), by rw [upto_len]; omega⟩
  · rintro d rest ρ μ2 ⟨j, kvs, o4, o5, rfl, g1, g2, g3, g4, g5, g6⟩
    rw [List.length_cons] at g6
    refine ⟨_, rfl, ?_⟩
    obtain ⟨ys, y1, y2, y3⟩ := keyS_ok g4
    have es : gSorted [D.ref μ.length] μ2 = .ok (.lst ((ys.mergeSort leS).map .str)) μ2 := sortK (fun _ h => by cases h) (by simp only [D.pairs, g2]) y1 (by omega)
    simp only [↓flS, ↓flE, ↓flO, ↓flI, ↓flQ, List.getElem?_cons_zero, List.getElem?_cons_succ, List.set_cons_zero, List.set_cons_succ, es]
    refine name_W g1.nx (by omega) fun x μ3 hn hx3 => ?_
    have f3 : μ3[μ.length]? = some (.dct kvs) := by rw [hx3.2.1 _ hkl]; exact g2
    simp only [↓flS, ↓flE, ↓flO, ↓flI, ↓flQ, List.getElem?_cons_zero, List.getElem?_cons_succ, List.set_cons_zero, List.set_cons_succ, storeD_W]
    refine letters2_W (g1.step hx3).nx (by omega) fun ld μ4 hl hx4 => ?_
    have f4 : μ4[μ.length]? = some (.dct kvs) := by rw [hx4.2.1 _ hkl]; exact f3
    simp only [D.key, f4]
    rw [if_pos (Nat.lt_of_lt_of_le (m := 1000) (by omega) (by decide)), W_ok]
    obtain ⟨p1, p2, p3⟩ := putD_ok g4 hn hl
    exact ⟨j + 1, _, _, _, rfl, ((((g1.step hx3).step hx4).set (Nat.le_refl _) _).up (by omega)), List.getElem?_set_self (List.getElem?_eq_some_iff.mp f4).1, by omega, p1, fun _ => p2, by omega⟩
  · rintro ρ μ2 ⟨j, kvs, o4, o5, rfl, g1, g2, g3, g4, g5, g6⟩
    rw [List.length_nil] at g6
    simp only [↓flS, ↓flE, ↓flO, ↓flI, ↓flQ, List.getElem?_cons_zero, List.getElem?_cons_succ, List.set_cons_zero, List.set_cons_succ]
    refine ⟨g1.fit, ?_⟩
    simp only [Nat.le_refl, if_true, g2]
    exact ⟨innD_ok g4, q _ _ ⟨kvs, rfl, g5 (by omega), by omega, g4⟩ (Nx.up (hx.trans g1.cut) (by omega))⟩
end K49
namespace K49
open PySem PySem.Spec PyProof.Rows L2 FL
set_option autoImplicit false
variable {cI cP cE : Addr}
theorem incr_snoc : ∀ {ts : List Int} {t : Int}, incr ts = true → (∀ l, ts.getLast? = some l → l ≤ t) → incr (ts ++ [t]) = true
  | [], t, _, _ => rfl
  | [a], t, _, h => by
    show (decide (a ≤ t) && true) = true
    rw [Bool.and_true, decide_eq_true_eq]
    exact h a rfl
  | a :: b :: r, t, hi, h => by
    simp only [incr, Bool.and_eq_true] at hi
    show (decide (a ≤ b) && incr (b :: r ++ [t])) = true
    rw [hi.1, Bool.true_and]
    exact incr_snoc hi.2 fun l hl => h l (by rw [List.getLast?_cons_cons]; exact hl)
theorem lastT_snoc (es : List D) (e : D) : lastT (es ++ [e]) = timeOf e := by
  unfold lastT
  rw [List.getLast?_concat]
theorem lastT_map (es : List D) (l : Int) (h : (es.map timeOf).getLast? = some l) : l = lastT es := by
  rw [List.getLast?_map] at h
  unfold lastT
  cases e : es.getLast? with
  | none => rw [e] at h; cases h
  | some x => rw [e] at h; cases h; rfl
theorem valD_ok {kvs : List (Key × D)} {x : Str} {d : D} (h : ∀ kv ∈ kvs, pairOk kv) (hm : (Sum.inr x, d) ∈ kvs) : ∃ d', valD kvs (.inr x) = some d' ∧ letsD d' := by
  unfold valD
  cases e : kvs.find? fun kv => decide (kv.1 = Sum.inr x) with
  | none =>
    rw [List.find?_eq_none] at e
    have := e _ hm
    simp at this
  | some kv => exact ⟨kv.2, rfl, (h kv (List.mem_of_find?_eq_some e)).2⟩
theorem tupR {μ : Mu} {l : Nat} {ds : List D} {Q : D → Mu → Prop} (h : μ[l]? = some (.lst ds)) : W (gTuple [.ref l] μ) Q = Q (.tup ds) μ := by
  unfold gTuple
  simp only [h, W_ok]
theorem appR {μ : Mu} {l : Nat} {ds : List D} {d : D} {Q : D → Mu → Prop} (h : μ[l]? = some (.lst ds)) (hz : ds.length < sizeLine) : W (gAppend (.ref l) [d] μ) Q = Q .non (μ.set l (.lst (ds ++ [d]))) := by
  unfold gAppend
  simp only [h]
  rw [if_pos hz, W_ok]
theorem W_set (F : FE) (T : FT) (ρ : Rho) (μ : Mu) (Q : Ot → Mu → Prop) : W (gSet F T ρ μ) Q = W (F ρ μ) fun d μ1 => setR (T d ρ) μ1 Q := by
  unfold gSet
  rw [W_bind]
  congr 1; funext d μ1
  cases T d ρ <;> first | exact W_ok _ _ _ | exact W_no _
/-- events that are drawn -/
def tapeD (es : List D) : Prop := (∀ e ∈ es, eventD e = true) ∧ incr (es.map timeOf) = true ∧ es.length ≤ 4 ∧ 0 ≤ lastT es ∧ lastT es ≤ 4 * 10 ^ 58 ∧ wtL es ≤ 1000
theorem event_ok {t : Int} {x y : Str} {v : D} (h1 : 0 ≤ t) (h2 : t ≤ 4 * 10 ^ 58) (hx : nameS x = true) (hy : letterD (.str y) = true) (hv : isInt v = true) : eventD (.tup [.int t, .str x, .str y, v]) = true ∧ wt (.tup [.int t, .str x, .str y, v]) ≤ 200 := by
  constructor
  · have m : MX = 999999999999999999999999999999999999999999999999999999999999 := rfl
    rw [p58] at h2
    simp only [eventD, timeD, nameD, hx, hy, hv, Bool.and_true, Bool.and_eq_true, decide_eq_true_eq, m]
    constructor <;> omega
  · simp only [nameS, letterD, Bool.and_eq_true, decide_eq_true_eq] at hx hy
    simp only [wt_tup, wtL_cons, wtL_nil, wt_isInt hv]
    rw [show wt (.int t) = 64 by rw [wt], show wt (.str x) = x.length + 4 by rw [wt], show wt (.str y) = y.length + 4 by rw [wt]]
    omega
theorem event_ex {e : D} (h : eventD e = true) : ∃ (t : Int) (x y : Str) (v : D), e = .tup [.int t, .str x, .str y, v] ∧ 0 ≤ t ∧ t ≤ MX ∧ nameS x = true ∧ letterD (.str y) = true ∧ isInt v = true := by
  unfold eventD at h
  split at h
  · rename_i t s l v
    simp only [Bool.and_eq_true] at h
    obtain ⟨⟨⟨h1, h2⟩, h3⟩, h4⟩ := h
    cases t with
    | int t =>
      cases s with
      | str x =>
        cases l with
        | str y =>
          simp only [timeD, Bool.and_eq_true, decide_eq_true_eq] at h1
          exact ⟨t, x, y, v, rfl, h1.1, h1.2, h2, h3, h4⟩
        | _ => simp [letterD] at h3
      | _ => simp [nameD] at h2
    | _ => simp [timeD] at h1
  · cases h
theorem name_low {x : Str} (h : nameS x = true) : lows x = true ∧ 1 ≤ x.length ∧ x.length ≤ 8 ∧ x ∉ wordsS := by
  simp only [nameS, Bool.and_eq_true, decide_eq_true_eq, Bool.not_eq_true', decide_eq_false_iff_not] at h
  exact ⟨h.1.2, h.1.1.1, h.1.1.2, h.2⟩
theorem event_pl {e : D} (h : eventD e = true) : Pl e = true := by
  obtain ⟨t, x, y, v, rfl, h1, h2, h3, h4, h5⟩ := event_ex h
  obtain ⟨i, rfl⟩ := isInt_ex h5
  simp only [letterD, Bool.and_eq_true] at h4
  rw [pl_tup]
  simp only [PlL, Pl, lows_ok (name_low h3).1, lows_ok h4.2, Bool.and_self]
theorem events_W {i k c : Nat} {u : Int} {lay : D} {μ0 μ : Mu} {Q : D → Mu → Prop} (hx : Nx k c μ0 μ) (hl : layD lay) (hu : 0 < u) (hu2 : u ≤ 10 ^ 58) (hc : c + 100 < 2 ^ 100)
    (q : ∀ es μ', tapeD es → Nx k (c + 100) μ0 μ' → Q (.tup es) μ') : W ((gs cI cP cE (i + 4))._law_events [.ref k, lay, .int 4, .int u] μ) Q := by
  obtain ⟨kvs, rfl, k1, k2, k3⟩ := hl
  obtain ⟨ys, y1, y2, y3⟩ := keyS_ok k3
  refine runG_W ?_
  show W (G__law_events _ _ _ [some (.ref k), some (.dct kvs), some (.int 4), some (.int u), none, none, none, none, none] μ) _
  unfold G__law_events
  have hg := hx.self.ng
  have hkl : μ.length ≠ k := by have := hg.1; omega
  have esk : ∀ μ : Mu, gSorted [D.dct kvs] μ = .ok (.lst ((ys.mergeSort leS).map .str)) μ := fun μ => sortK (fun _ h => by cases h) rfl y1 (by omega)
  simp only [↓flS, ↓flE, ↓flO, ↓flI, ↓flQ, List.getElem?_cons_zero, List.getElem?_cons_succ, List.set_cons_zero, List.set_cons_succ, esk]
  refine ⟨sz (by simp), ?_⟩
  have hg1 := hg.add (.lst [])
  refine throw_W hg1.nx (by omega) (by decide) (by decide) fun m μ1 h0 h1 hx1 => ?_
  have hg2 := hg1.step hx1
  have ol : μ1[μ.length]? = some (.lst []) := by rw [hx1.2.1 _ hkl]; exact getA
  simp only [↓flO, ↓flI]
  refine ⟨⟨by omega, by omega⟩, ?_⟩
  refine loop_W (fun rest ρ μ' => ∃ (j : Nat) (es : List D) (t : Int) (o7 o8 : Option D), ρ = [some (.ref k), some (.dct kvs), some (.int 4), some (.int u), some (.lst ((ys.mergeSort leS).map .str)), some (.ref μ.length), some (.int t), o7, o8] ∧ Ng k (c + 1 + 20 * j) μ μ' ∧ μ'[μ.length]? = some (.lst es) ∧ es.length = j ∧ (∀ e ∈ es, eventD e = true) ∧ incr (es.map timeOf) = true ∧ lastT es = t ∧ 0 ≤ t ∧ t ≤ j * 10 ^ 58 ∧ wtL es ≤ 202 * j ∧ j + rest.length = m.toNat) ?_ ?_ _ _ _ ⟨0, [], 0, none, none, rfl, hg2, ol, rfl, fun _ h => by simp at h, rfl, rfl, by omega, by simp, by rw [wtL_nil]; omega, by rw [upto_len]; omega⟩
  · rintro d rest ρ μ2 ⟨j, es, t, o7, o8, rfl, g1, g2, g3, g4, g5, g6, g7, g8, g9, g10⟩
    rw [List.length_cons] at g10
    have hj : j ≤ 3 := by omega
    refine ⟨_, rfl, ?_⟩
    simp only [↓flS, ↓flE, ↓flO, ↓flI, ↓flQ, List.getElem?_cons_zero, List.getElem?_cons_succ, List.set_cons_zero, List.set_cons_succ]
    refine throw_W g1.nx (by omega) hu (Nat.lt_of_le_of_lt (m := 10 ^ 58) (by rw [p58] at hu2; omega) (by decide)) fun n μ3 n0 n1 hx3 => ?_
    refine throw_W hx3.self (by omega) (by decide) (by decide) fun n2 μ4 n3 n4 hx4 => ?_
    have g3' := (g1.step hx3).step hx4
    simp only [↓flS, ↓flE, ↓flO, ↓flI, ↓flQ, List.getElem?_cons_zero, List.getElem?_cons_succ, List.set_cons_zero, List.set_cons_succ]
    refine ⟨?_, ?_⟩
    · have l1 : n.natAbs.log2 < 200 := log_lt 200 (by rw [p58] at hu2; omega) (by decide)
      have l2 : (if decide (0 < n2) = true then (1 : Int) else 0).natAbs.log2 < 200 := log_lt 200 (by split <;> decide) (by decide)
      omega
    obtain ⟨b, hb, hb0, hb1⟩ : ∃ b : Int, n * (if decide (0 < n2) = true then 1 else 0) = b ∧ 0 ≤ b ∧ b ≤ 10 ^ 58 := by
      split
      · exact ⟨n, by rw [Int.mul_one], n0, by omega⟩
      · exact ⟨0, by rw [Int.mul_zero], by omega, by rw [p58]; omega⟩
    rw [hb]
    refine pickL_W g3'.nx (by omega) (fun z => ?_) (by rw [List.length_map, List.length_mergeSort, y2]; omega) fun nm μ5 hnm hx5 => ?_
    · have : ((ys.mergeSort leS).map D.str).length = 0 := by rw [z]; rfl
      rw [List.length_map, List.length_mergeSort, y2] at this
      exact k1 (List.length_eq_zero_iff.mp this)
    obtain ⟨x, hxm, rfl⟩ := List.mem_map.mp hnm
    obtain ⟨hxn, dd, hdd⟩ := y3 x (List.mem_mergeSort.mp hxm)
    obtain ⟨ld, v1, ls, rfl, v2, v3, v4⟩ := valD_ok k3 hdd
    have eg : ∀ μ : Mu, gDGet (D.dct kvs) (.str x) μ = .ok (.tup ls) μ := fun μ => by
      unfold gDGet
      simp only [D.pairs, D.key, v1]
    have g5' := g3'.step hx5
    have f5 : μ5[μ.length]? = some (.lst es) := by rw [hx5.2.1 _ hkl, hx4.2.1 _ hkl, hx3.2.1 _ hkl]; exact g2
    simp only [↓flS, ↓flE, ↓flO, ↓flI, ↓flQ, List.getElem?_cons_zero, List.getElem?_cons_succ, List.set_cons_zero, List.set_cons_succ, eg]
    refine ⟨tyR f5, ?_⟩
    refine pickT_W g5'.nx (by omega) v2 (by omega) fun lt μ6 hlt hx6 => ?_
    have hlt2 := v4 lt hlt
    obtain ⟨y, rfl⟩ : ∃ y, lt = .str y := by
      cases lt with
      | str y => exact ⟨y, rfl⟩
      | _ => simp [letterD] at hlt2
    refine value_W hx6.self (by omega) fun v μ7 hv hx7 => ?_
    have f7 : μ7[μ.length]? = some (.lst es) := by rw [hx7.2.1 _ hkl, hx6.2.1 _ hkl]; exact f5
    refine ⟨sz (by simp), ?_⟩
    rw [appR f7 (Nat.lt_of_lt_of_le (m := 1000) (by omega) (by decide))]
    have ht : t + b ≤ ((j + 1 : Nat) : Int) * 10 ^ 58 := by
      have : ((j + 1 : Nat) : Int) * 10 ^ 58 = (j : Int) * 10 ^ 58 + 10 ^ 58 := by rw [Int.natCast_add, Int.add_mul]; simp
      omega
    have ht4 : t + b ≤ 4 * 10 ^ 58 := by
      refine Int.le_trans ht (Int.mul_le_mul_of_nonneg_right (by omega) (Int.le_of_lt (Int.pow_pos (by decide))))
    obtain ⟨ev, ew⟩ := event_ok (t := t + b) (by omega) ht4 hxn hlt2 hv
    refine ⟨j + 1, es ++ [.tup [.int (t + b), .str x, .str y, v]], t + b, _, _, rfl, (((((g5'.step hx6).step hx7).set (Nat.le_refl _) _).up (by omega))), List.getElem?_set_self (List.getElem?_eq_some_iff.mp f7).1, by rw [List.length_append, List.length_singleton, g3], fun e he => ?_, ?_, lastT_snoc _ _, by omega, ht, ?_, by omega⟩
    · rcases List.mem_append.mp he with he | he
      · exact g4 e he
      · rw [List.mem_singleton.mp he]; exact ev
    · rw [List.map_append]
      exact incr_snoc g5 fun l hl => by rw [lastT_map _ _ hl, g6]; show t ≤ t + b; omega
    · rw [wtL_app, wtL_cons, wtL_nil]; omega
  · rintro ρ μ2 ⟨j, es, t, o7, o8, rfl, g1, g2, g3, g4, g5, g6, g7, g8, g9, g10⟩
    rw [List.length_nil] at g10
    simp only [↓flS, ↓flE, ↓flO, ↓flI, ↓flQ, List.getElem?_cons_zero, List.getElem?_cons_succ, List.set_cons_zero, List.set_cons_succ, tupR g2]
    have hp : Pl (.tup es) = true := by
      rw [pl_tup]
      refine plL_of fun e he => ?_
      exact event_pl (g4 e he)
    refine g1.out hp fun μ' hx' => q es _ ⟨g4, g5, by omega, by omega, ?_, by omega⟩ (Nx.up (hx.trans hx') (by omega))
    rw [g6]
    exact Int.le_trans g8 (Int.mul_le_mul_of_nonneg_right (by omega) (Int.le_of_lt (Int.pow_pos (by decide))))
end K49
namespace K49
open PySem PySem.Spec PyProof.Rows L2 FL
set_option autoImplicit false
variable {cI cP cE : Addr}
theorem atI_last {es : List D} (h : es ≠ []) : atI es (-1) = es.getLast? := by
  have hp : 0 < es.length := List.length_pos_iff.mpr h
  unfold atI ixN
  rw [if_neg (by omega), if_pos (by omega), Option.bind_some, show ((-1 : Int) + (es.length : Int)).toNat = es.length - 1 by omega, List.getLast?_eq_getElem?]
theorem setR_some (ρ : Rho) (μ : Mu) (Q : Ot → Mu → Prop) : setR (some ρ) μ Q = Q (.nx ρ) μ := rfl
theorem tape_W {i k c : Nat} {u : Int} {lay : D} {μ0 μ : Mu} {Q : D → Mu → Prop} (hx : Nx k c μ0 μ) (hl : layD lay) (hu : 0 < u) (hu2 : u ≤ 10 ^ 58) (hc : c + 101 < 2 ^ 100)
    (q : ∀ es l μ', tapeD es → lastT es ≤ l → l ≤ 5 * 10 ^ 58 → Nx k (c + 101) μ0 μ' → Q (.tup [.tup es, .int l]) μ') : W ((gs cI cP cE (i + 5))._law_tape [.ref k, lay, .int 4, .int u] μ) Q := by
  refine runK_W ?_
  show W (G__law_tape _ _ [some (.ref k), some lay, some (.int 4), some (.int u), none, none] μ) _
  unfold G__law_tape
  simp only [↓flS, ↓flE, ↓flO, ↓flI, ↓flQ, List.getElem?_cons_zero, List.getElem?_cons_succ, List.set_cons_zero, List.set_cons_succ]
  refine events_W hx hl hu hu2 (by omega) fun es μ1 ht hx1 => ?_
  obtain ⟨t1, t2, t3, t4, t5, t6⟩ := id ht
  simp only [↓flS, ↓flE, ↓flO, ↓flI, ↓flQ, List.getElem?_cons_zero, List.getElem?_cons_succ, List.set_cons_zero, List.set_cons_succ]
  have fin : ∀ {t : Int} {μ2 : Mu}, t = lastT es → Nx k (c + 100) μ0 μ2 → W ((gs cI cP cE (i + 4))._law_throw [D.ref k, D.int u] μ2) fun b μ2 => W (gAdd (D.int t) b μ2) fun d μ1 => [D.tup es, d].length ≤ sizeLine ∧ Q (.tup [.tup es, d]) μ1 := fun {t μ2} e hx2 => by
    refine throw_W hx2 (by omega) hu (Nat.lt_of_le_of_lt (m := 10 ^ 58) (by rw [p58] at hu2; omega) (by decide)) fun n μ3 n0 n1 hx3 => ?_
    simp only [↓flO]
    exact ⟨sz (by simp), q es _ _ ht (by omega) (by rw [p58] at *; omega) hx3⟩
  refine ⟨fun he => ?_, fun he => ?_⟩
  · have hne : es ≠ [] := fun z => by rw [z] at he; cases he
    obtain ⟨e, eq⟩ : ∃ e, es.getLast? = some e := ⟨es.getLast hne, List.getLast?_eq_some_getLast hne⟩
    obtain ⟨t, x, y, v, rfl, _⟩ := event_ex (t1 e (List.mem_of_getLast? eq))
    have a0 : ∀ {a b c d : D}, atI [a, b, c, d] 0 = some a := rfl
    rw [atI_last hne, eq]
    simp only [↓flO, a0, ↓flE]
    exact fin (by unfold lastT; rw [eq]; rfl) hx1
  · have hne : es = [] := by cases es with
      | nil => rfl
      | cons a b => cases he
    exact fin (by rw [hne]; rfl) hx1
theorem row_ok {es ys : List D} {l : Int} (ht : tapeD es) (h1 : lastT es ≤ l) (h2 : l ≤ 5 * 10 ^ 58) (e : ys.length = es.length) (g : ∀ d ∈ ys, standsD d = true ∧ wt d ≤ 60008) : formD (.tup [.str ("row" : Str), .tup es, .int l, .tup ys]) = true ∧ wt (.tup [.str ("row" : Str), .tup es, .int l, .tup ys]) ≤ 250000 := by
  obtain ⟨t1, t2, t3, t4, t5, t6⟩ := ht
  constructor
  · have a1 : eventsD (.tup es) = true := by
      simp only [eventsD, t2, Bool.and_true]
      exact List.all_eq_true.mpr t1
    have a2 : isInt (.int l) = true := isInt_of (by rw [p60]; omega) (by rw [p58] at h2; rw [p60]; omega)
    have a3 : ys.all standsD = true := List.all_eq_true.mpr fun d hd => (g d hd).1
    have a4 : decide (lastT es ≤ l) = true := decide_eq_true h1
    have a5 : decide (ys.length = es.length) = true := decide_eq_true e
    simp only [formD, rowD, a1, a2, a3, a4, a5, decide_true, Bool.and_self]
  · have b : wt (.str ("row" : Str)) ≤ 14 := by
      rw [wt]
      have : ("row" : Str).length ≤ 10 := by decide +kernel
      omega
    have b1 := wtL_le (B := 60008) ys fun d hd => (g d hd).2
    have b2 : ys.length ≤ 4 := by omega
    have b3 := Nat.mul_le_mul_right (60008 + 2) b2
    have b4 : wt (.int l) = 64 := by rw [wt]
    simp only [wt_tup, wtL_cons, wtL_nil, b4]
    omega
theorem paper_W {K k c : Nat} {μ0 μ : Mu} {Q : D → Mu → Prop} (hK : 15 ≤ K) (hx : Nx k c μ0 μ) (hc : c + 300000 < 2 ^ 100)
    (q : ∀ d μ', formD d = true → wt d ≤ 250000 → Nx k (c + 300000) μ0 μ' → Q d μ') : W ((gs cI cP cE K)._law_paper [.ref k] μ) Q := by
  obtain ⟨j, rfl⟩ : ∃ j, K = j + 8 := ⟨K - 8, by omega⟩
  refine runK_W ?_
  show W (G__law_paper _ _ _ _ _ [some (.ref k), none, none, none] μ) _
  unfold G__law_paper
  simp only [↓flS, ↓flE, ↓flO, ↓flI, ↓flQ, List.getElem?_cons_zero, List.getElem?_cons_succ, List.set_cons_zero, List.set_cons_succ]
  refine throw_W hx (by omega) (by decide) (by decide) fun n μ1 n0 n1 hx1 => ?_
  simp only [↓flO, ↓flQ]
  have len4 : ∀ x : Str, x.length ≤ 10 → wt (.str x) ≤ 14 := fun x h => by rw [wt]; omega
  refine ⟨fun _ => ?_, fun _ => ?_⟩
  · refine stands_W (m := 4) (by omega) (by omega) hx1 (by omega) fun d μ2 h1 h2 hx2 => ⟨sz (by simp), q _ _ ?_ ?_ (hx2.up (by omega))⟩
    · simp only [formD, h1, decide_true, Bool.and_self]
    · have := len4 ("list" : Str) (by decide +kernel)
      simp only [wt_tup, wtL_cons, wtL_nil]
      omega
  · simp only [W_set, ↓flE, ↓flO, List.getElem?_cons_zero, List.getElem?_cons_succ, List.set_cons_zero, List.set_cons_succ]
    refine layout_W hx1 (by omega) fun lay μ2 hl hx2 => ?_
    rw [pow58]
    refine ⟨trivial, sz (by simp), ?_⟩
    rw [tn58]
    refine pickL_W hx2 (by omega) (by simp) (by simp) fun u μ3 hu hx3 => ?_
    have hue : ∃ i : Int, u = .int i ∧ 0 < i ∧ i ≤ 10 ^ 58 := by
      simp only [List.mem_cons, List.not_mem_nil, or_false] at hu
      rcases hu with rfl | rfl | rfl
      · exact ⟨1, rfl, by omega, by rw [p58]; omega⟩
      · exact ⟨3, rfl, by omega, by rw [p58]; omega⟩
      · exact ⟨10 ^ 58, rfl, by rw [p58]; decide, Int.le_refl _⟩
    obtain ⟨u', eu, u1, u2⟩ := hue
    rw [eu]
    refine tape_W hx3 hl u1 u2 (by omega) fun es l μ4 ht hl1 hl2 hx4 => ?_
    have eT : tgT 2 (tgCons (tgN 1) (tgCons (tgN 2) tgNil)) (.tup [.tup es, .int l]) [some (.ref k), none, none, none] = some [some (.ref k), some (.tup es), some (.int l), none] := rfl
    rw [eT]
    have t3 := ht.2.2.1
    simp only [setR_some, ↓flS, ↓flE, ↓flO, ↓flI, ↓flQ, List.getElem?_cons_zero, List.getElem?_cons_succ, List.set_cons_zero, List.set_cons_succ, wipeR]
    refine ⟨⟨by omega, by omega⟩, ?_⟩
    rw [show ((es.length : Nat) : Int).toNat = es.length by simp]
    refine comp_R es.length (fun m' μ' => Nx k (c + 300 + 60000 * m') μ0 μ') (fun d => standsD d = true ∧ wt d ≤ 60008) ?_ (upto 0 es.length) [] 0 _ (by rw [upto_len]; omega) (hx4.up (by omega)) (fun _ h => by simp at h) (by rw [upto_len]; exact sz (by simp; omega)) ?_
    · intro m' d' μ5 hm' hx5
      refine ⟨_, rfl, ?_⟩
      simp only [↓flS, ↓flE, ↓flO, ↓flI, ↓flQ, List.getElem?_cons_zero, List.getElem?_cons_succ, List.set_cons_zero, List.set_cons_succ, wipeR]
      exact stands_W (m := 2) (by omega) (by omega) hx5 (by omega) fun d μ6 h1 h2 h3 => ⟨⟨h1, by omega⟩, h3.up (by omega)⟩
    · intro ys μ5 g1 g2 g3
      rw [upto_len, List.length_nil, Nat.zero_add] at g2
      obtain ⟨r1, r2⟩ := row_ok ht hl1 hl2 g2 g1
      exact ⟨sz (by simp), q _ _ r1 r2 (g3.up (by omega))⟩
end K49
/-! nested data: flat atoms and tuples; slices -/
namespace K49
open PySem PySem.Spec PyProof.Rows L2 FL
set_option autoImplicit false
variable {cI cP cE : Addr}
def flat : D → Bool
  | .non => true
  | .int i => isInt (.int i)
  | .str x => okS x
  | _ => false
def nest : Nat → D → Bool
  | n + 1, .tup ds => ds.all (nest n)
  | _, d => flat d
theorem nest_tup {n : Nat} {ds : List D} : nest (n + 1) (.tup ds) = ds.all (nest n) := by rw [nest]
theorem nest_tup0 {ds : List D} : nest 0 (.tup ds) = false := rfl
theorem nest_flat {n : Nat} {d : D} (h : flat d = true) : nest n d = true := by
  cases n <;> cases d <;> first | exact h | (simp [flat] at h)
theorem nest_cases {n : Nat} {d : D} (h : nest n d = true) : (∃ ds m, d = .tup ds ∧ n = m + 1 ∧ ∀ x ∈ ds, nest m x = true) ∨ d = .non ∨ (∃ i, d = .int i ∧ isInt (.int i) = true) ∨ ∃ x, d = .str x ∧ okS x = true := by
  cases d with
  | tup ds =>
    cases n with
    | zero => cases h
    | succ m => rw [nest_tup, List.all_eq_true] at h; exact .inl ⟨ds, m, rfl, rfl, h⟩
  | non => exact .inr (.inl rfl)
  | int i => exact .inr (.inr (.inl ⟨i, rfl, by cases n <;> exact h⟩))
  | str x => exact .inr (.inr (.inr ⟨x, rfl, by cases n <;> exact h⟩))
  | _ => cases n <;> cases h
theorem nest_up : ∀ {n : Nat} {d : D}, nest n d = true → nest (n + 1) d = true := by
  intro n
  induction n with
  | zero =>
    intro d h
    rcases nest_cases h with ⟨ds, m, rfl, e, _⟩ | rfl | ⟨i, rfl, hi⟩ | ⟨x, rfl, hx⟩
    · cases e
    · rfl
    · exact hi
    · exact hx
  | succ n ih =>
    intro d h
    rcases nest_cases h with ⟨ds, m, rfl, e, g⟩ | rfl | ⟨i, rfl, hi⟩ | ⟨x, rfl, hx⟩
    · cases e
      rw [nest_tup, List.all_eq_true]
      exact fun x hx => ih (g x hx)
    · rfl
    · exact hi
    · exact hx
theorem nest_le {n m : Nat} {d : D} (h : nest n d = true) (e : n ≤ m) : nest m d = true := by
  induction e with
  | refl => exact h
  | step _ ih => exact nest_up ih
theorem nest_pl : ∀ {n : Nat} {d : D}, nest n d = true → Pl d = true := by
  intro n
  induction n with
  | zero =>
    intro d h
    rcases nest_cases h with ⟨ds, m, rfl, e, _⟩ | rfl | ⟨i, rfl, hi⟩ | ⟨x, rfl, hx⟩
    · cases e
    · rw [Pl]
    · rw [Pl]
    · rw [Pl]; exact hx
  | succ n ih =>
    intro d h
    rcases nest_cases h with ⟨ds, m, rfl, e, g⟩ | rfl | ⟨i, rfl, hi⟩ | ⟨x, rfl, hx⟩
    · cases e
      rw [pl_tup]
      exact plL_of fun x hx => ih (g x hx)
    · rw [Pl]
    · rw [Pl]
    · rw [Pl]; exact hx
theorem canW_nest : ∀ {n : Nat} {d : D}, canW n d = true → nest n d = true := by
  have at0 : ∀ {d : D}, atomOk d = true → flat d = true := fun {d} h => by
    cases d with
    | non => rfl
    | int i => simpa [atomOk, isN, isWord, flat] using h
    | str x =>
      simp only [atomOk, isN, isInt, isWord, Bool.false_or, Bool.and_eq_true] at h
      exact lows_ok h.2
    | _ => cases h
  intro n
  induction n with
  | zero =>
    intro d h
    cases d with
    | tup ds => cases h
    | _ => exact at0 h
  | succ n ih =>
    intro d h
    cases d with
    | tup ds =>
      rw [canW, List.all_eq_true] at h
      rw [nest_tup, List.all_eq_true]
      exact fun x hx => ih (h x hx)
    | _ => exact at0 h
theorem standD_ex {d : D} (h : standD d = true) : ∃ a b c r, d = .tup [a, b, c, r] ∧ canW 20 (.tup [a, b, c, r]) = true ∧ isTupI c = true ∧ rowsD r = true := by
  unfold standD at h
  split at h
  · rw [Bool.and_eq_true, Bool.and_eq_true] at h
    exact ⟨_, _, _, _, rfl, h.1.1, h.1.2, h.2⟩
  · cases h
theorem stand_nest {d : D} (h : standD d = true) : nest 20 d = true := by
  obtain ⟨a, b, c, r, rfl, h, _⟩ := standD_ex h
  exact canW_nest h
theorem standsD_ex {d : D} (h : standsD d = true) : ∃ ds, d = .tup ds ∧ ∀ x ∈ ds, standD x = true := by
  unfold standsD at h
  split at h
  · exact ⟨_, rfl, List.all_eq_true.mp h⟩
  · cases h
theorem stands_nest {d : D} (h : standsD d = true) : nest 21 d = true := by
  obtain ⟨ds, rfl, g⟩ := standsD_ex h
  rw [nest_tup, List.all_eq_true]
  exact fun x hx => stand_nest (g x hx)
theorem lows_letter {x : Str} (h : letterD (.str x) = true) : x.length = 1 ∧ lows x = true := by
  simpa [letterD] using h
theorem event_nest {e : D} (h : eventD e = true) : nest 1 e = true := by
  obtain ⟨t, x, y, v, rfl, h0, h1, hx, hy, hv⟩ := event_ex h
  rw [nest_tup, List.all_eq_true]
  intro z hz
  simp only [List.mem_cons, List.not_mem_nil, or_false] at hz
  rcases hz with rfl | rfl | rfl | rfl
  · show isInt (.int t) = true
    have m0 : (0 : Int) ≤ MX := by decide
    show (decide (-MX ≤ t) && decide (t ≤ MX)) = true
    rw [Bool.and_eq_true, decide_eq_true_eq, decide_eq_true_eq]
    omega
  · exact lows_ok (name_low hx).1
  · exact lows_ok (lows_letter hy).2
  · obtain ⟨i, rfl⟩ := isInt_ex hv
    exact hv
theorem rowD_ex {e l r : D} (h : rowD e l r = true) : ∃ es i rs, e = .tup es ∧ l = .int i ∧ r = .tup rs ∧ eventsD (.tup es) = true ∧ isInt (.int i) = true ∧ lastT es ≤ i ∧ rs.length = es.length ∧ ∀ x ∈ rs, standsD x = true := by
  unfold rowD at h
  split at h
  · simp only [Bool.and_eq_true, decide_eq_true_eq, List.all_eq_true] at h
    exact ⟨_, _, _, rfl, rfl, rfl, h.1.1.1.1, h.1.1.1.2, h.1.1.2, h.1.2, h.2⟩
  · cases h
theorem formD_ex {d : D} (h : formD d = true) : (∃ ds, d = .tup [.str ("list" : Str), .tup ds] ∧ ∀ x ∈ ds, standD x = true) ∨
    ∃ es i rs, d = .tup [.str ("row" : Str), .tup es, .int i, .tup rs] ∧ eventsD (.tup es) = true ∧ isInt (.int i) = true ∧ lastT es ≤ i ∧ rs.length = es.length ∧ ∀ x ∈ rs, standsD x = true := by
  unfold formD at h
  split at h
  · rw [Bool.and_eq_true, decide_eq_true_eq] at h
    obtain ⟨rfl, h⟩ := h
    obtain ⟨ds, rfl, g⟩ := standsD_ex h
    exact .inl ⟨ds, rfl, g⟩
  · rw [Bool.and_eq_true, decide_eq_true_eq] at h
    obtain ⟨rfl, h⟩ := h
    obtain ⟨es, i, rs, rfl, rfl, rfl, g⟩ := rowD_ex h
    exact .inr ⟨es, i, rs, rfl, g⟩
  · cases h
theorem events_ex {es : List D} (h : eventsD (.tup es) = true) : (∀ e ∈ es, eventD e = true) ∧ incr (es.map timeOf) = true := by
  simpa [eventsD] using h
theorem words_ok : okS ("list" : Str) = true ∧ okS ("row" : Str) = true := by decide +kernel
theorem form_nest {d : D} (h : formD d = true) : nest 23 d = true ∧ ∃ x ds, d = .tup (.str x :: ds) := by
  rcases formD_ex h with ⟨ds, rfl, g⟩ | ⟨es, i, rs, rfl, g1, g2, g3, g4, g5⟩
  · refine ⟨?_, _, _, rfl⟩
    rw [nest_tup, List.all_eq_true]
    intro z hz
    simp only [List.mem_cons, List.not_mem_nil, or_false] at hz
    rcases hz with rfl | rfl
    · exact words_ok.1
    · refine nest_le (n := 21) ?_ (by omega)
      rw [nest_tup, List.all_eq_true]
      exact fun x hx => stand_nest (g x hx)
  · refine ⟨?_, _, _, rfl⟩
    rw [nest_tup, List.all_eq_true]
    intro z hz
    simp only [List.mem_cons, List.not_mem_nil, or_false] at hz
    rcases hz with rfl | rfl | rfl | rfl
    · exact words_ok.2
    · refine nest_le (n := 2) ?_ (by omega)
      rw [nest_tup, List.all_eq_true]
      exact fun x hx => event_nest ((events_ex g1).1 x hx)
    · exact g2
    · rw [nest_tup, List.all_eq_true]
      exact fun x hx => stands_nest (g5 x hx)
/-! ### as Python data -/
theorem okS_str {x : Str} (h : okS x = true) : PyData.strOk x = true := by
  unfold okS at h
  unfold PyData.strOk
  rw [← Array.all_toList]
  rw [List.all_eq_true] at h ⊢
  intro c hc
  have := of_decide_eq_true (h c hc)
  exact decide_eq_true (by omega)
theorem py_nest : ∀ {n : Nat} {d : D}, nest n d = true → ∃ p, d.py = some p ∧ p.canLay0 = true ∧ p.depth ≤ n + 1 ∧ (∀ ds, d = .tup ds → ∃ ps, p = .tuple ps ∧ pyL ds = some ps) := by
  intro n
  induction n with
  | zero =>
    intro d h
    rcases nest_cases h with ⟨ds, m, rfl, e, _⟩ | rfl | ⟨i, rfl, hi⟩ | ⟨x, rfl, hx⟩
    · cases e
    · exact ⟨.none, rfl, rfl, by decide, fun _ z => by cases z⟩
    · exact ⟨.int i, rfl, rfl, by show PyData.depth (.int i) ≤ 1; unfold PyData.depth; omega, fun _ z => by cases z⟩
    · exact ⟨.str x, rfl, okS_str hx, by show PyData.depth (.str x) ≤ 1; unfold PyData.depth; omega, fun _ z => by cases z⟩
  | succ n ih =>
    intro d h
    rcases nest_cases h with ⟨ds, m, rfl, e, g⟩ | rfl | ⟨i, rfl, hi⟩ | ⟨x, rfl, hx⟩
    · cases e
      have k : ∀ (ds : List D), (∀ x ∈ ds, nest n x = true) → ∃ ps, pyL ds = some ps ∧ PyData.canLayAll0 ps = true ∧ PyData.depthAll ps ≤ n + 1 := by
        intro ds
        induction ds with
        | nil => exact fun _ => ⟨[], rfl, rfl, by show PyData.depthAll [] ≤ _; unfold PyData.depthAll; omega⟩
        | cons x ds ihd =>
          intro g
          obtain ⟨p, e1, e2, e3, _⟩ := ih (g x List.mem_cons_self)
          obtain ⟨ps, f1, f2, f3⟩ := ihd fun y hy => g y (List.mem_cons_of_mem _ hy)
          refine ⟨p :: ps, ?_, ?_, ?_⟩
          · show (D.py x).bind _ = _
            rw [e1, Option.bind_some, f1]; rfl
          · show (p.canLay0 && PyData.canLayAll0 ps) = true
            rw [e2, f2]; rfl
          · show max p.depth (PyData.depthAll ps) ≤ _
            omega
      obtain ⟨ps, f1, f2, f3⟩ := k ds g
      refine ⟨.tuple ps, ?_, f2, ?_, fun es z => ⟨ps, rfl, by cases z; exact f1⟩⟩
      · show (pyL ds).map PyData.tuple = _
        rw [f1]; rfl
      · show PyData.depthAll ps + 1 ≤ _
        omega
    · exact ⟨.none, rfl, rfl, by show PyData.depth .none ≤ _; unfold PyData.depth; omega, fun _ z => by cases z⟩
    · exact ⟨.int i, rfl, rfl, by show PyData.depth (.int i) ≤ _; unfold PyData.depth; omega, fun _ z => by cases z⟩
    · exact ⟨.str x, rfl, okS_str hx, by show PyData.depth (.str x) ≤ _; unfold PyData.depth; omega, fun _ z => by cases z⟩
theorem shaped_nest {n : Nat} {d : D} (h : nest n d = true) (hn : n ≤ 60) : ∃ p, d.py = some p ∧ SeqAt.shaped p = true ∧ (∀ ds, d = .tup ds → ∃ ps, p = .tuple ps ∧ pyL ds = some ps) := by
  obtain ⟨p, h1, h2, h3, h4⟩ := py_nest h
  refine ⟨p, h1, ?_, h4⟩
  unfold SeqAt.shaped
  rw [h2, Bool.true_and]
  exact decide_eq_true (by omega)
theorem ne_nil {n : Nat} {ds : List D} {μ : Mu} (h : nest n (.tup ds) = true) (hn : n ≤ 60) : gNee (.tup ds) (.tup []) μ = .ok (.bl (!ds.isEmpty)) μ := by
  obtain ⟨p, h1, h2, h3⟩ := shaped_nest h hn
  obtain ⟨ps, rfl, e⟩ := h3 ds rfl
  have s0 : SeqAt.shaped (.tuple []) = true := by decide +kernel
  have e0 : (D.tup []).py = some (.tuple []) := rfl
  have eq : eqD (.tup ds) (.tup []) = some (PyData.eqv (.tuple ps) (.tuple [])) := by
    unfold eqD
    show (match (D.tup ds).py, (D.tup []).py with
      | some p, some q => if SeqAt.shaped p = true ∧ SeqAt.shaped q = true then some (PyData.eqv p q) else none
      | _, _ => _) = _
    rw [h1, e0]
    simp only [h2, s0, and_self, if_true]
  show gNe (.tup ds) (.tup []) μ = _
  unfold gNe
  rw [eq]
  cases ds with
  | nil =>
    have : ps = [] := by simpa [pyL] using e.symm
    subst this
    rfl
  | cons x ds =>
    cases ps with
    | nil =>
      exfalso
      simp only [pyL] at e
      cases hx : D.py x with
      | none => rw [hx] at e; cases e
      | some y =>
        rw [hx] at e
        cases hy : pyL ds with
        | none => rw [hy] at e; cases e
        | some z => rw [hy] at e; cases e
    | cons y ys => rfl
/-! ### what may stand at the head of a value: comparable with a text -/
def cmpB : D → Bool
  | .dct [] => true
  | .lst [] => true
  | .int _ => true
  | .bl _ => true
  | d => nest 40 d
def isStrB (x : Str) : D → Bool
  | .str y => decide (y = x)
  | _ => false
theorem cmp_ne {d : D} {x : Str} {μ : Mu} (h : cmpB d = true) (hx : okS x = true) : gNee d (.str x) μ = .ok (.bl (!isStrB x d)) μ := by
  have far : ∀ {d : D} {p : PyData}, d.sc = none → d.py = some p → SeqAt.shaped p = true → lenNe d (.str x) = false → PyData.eqv p (.str x) = false → gNee d (.str x) μ = .ok (.bl true) μ := fun {d p} h1 h2 h3 h4 h5 => by
    have sx : SeqAt.shaped (.str x) = true := by
      unfold SeqAt.shaped
      rw [show PyData.canLay0 (.str x) = PyData.strOk x from rfl, okS_str hx, Bool.true_and]
      exact decide_eq_true (by unfold PyData.depth; omega)
    have eq : eqD d (.str x) = some false := by
      unfold eqD
      rw [h1]
      show (match d.py, (D.str x).py with
        | some p, some q => if SeqAt.shaped p = true ∧ SeqAt.shaped q = true then some (PyData.eqv p q) else none
        | _, _ => _) = _
      rw [h2, show (D.str x).py = some (.str x) from rfl]
      simp only [h3, sx, and_self, if_true, h5]
    unfold gNee
    rw [h4, if_neg Bool.false_ne_true]
    unfold gNe
    rw [eq]
    rfl
  cases d with
  | dct kvs =>
    cases kvs with
    | nil => rfl
    | cons a b => cases h
  | lst ds =>
    cases ds with
    | nil => exact far rfl rfl (by decide +kernel) rfl rfl
    | cons a b => cases h
  | tup ds =>
    have h : nest 40 (.tup ds) = true := h
    obtain ⟨p, h1, h2, h3⟩ := shaped_nest h (by omega)
    obtain ⟨ps, rfl, _⟩ := h3 ds rfl
    exact far rfl h1 h2 rfl rfl
  | non => rfl
  | int i => rfl
  | bl b => rfl
  | str y =>
    show Rs.ok (D.bl (!decide (V.str y = V.str x))) μ = Rs.ok (D.bl (!decide (y = x))) μ
    have : decide (V.str y = V.str x) = decide (y = x) := by simp
    rw [this]
  | _ => cases h
/-! ### slices of data -/
theorem cut_take (ds : List D) (m : Int) (h0 : 0 ≤ m) : cutD ds none (some m) = ds.take m.toNat := by
  obtain ⟨n, rfl⟩ : ∃ n : Nat, m = n := ⟨m.toNat, by omega⟩
  unfold FL.cutD
  rw [HT.sIx_nat, show HT.sIx ds.length 0 none = 0 from rfl, List.drop_zero, Nat.sub_zero, Int.toNat_natCast]
  by_cases h : n ≤ ds.length
  · rw [Nat.min_eq_left h]
  · rw [Nat.min_eq_right (by omega), List.take_length, List.take_of_length_le (by omega)]
theorem cut_drop (ds : List D) (m : Int) (h0 : 0 ≤ m) : cutD ds (some m) none = ds.drop m.toNat := by
  obtain ⟨n, rfl⟩ : ∃ n : Nat, m = n := ⟨m.toNat, by omega⟩
  unfold FL.cutD
  rw [HT.sIx_nat, show HT.sIx ds.length ds.length none = ds.length from rfl, Int.toNat_natCast]
  by_cases h : n ≤ ds.length
  · rw [Nat.min_eq_left h, List.take_of_length_le (by rw [List.length_drop]; omega)]
  · rw [Nat.min_eq_right (by omega), List.drop_of_length_le (Nat.le_refl _), List.drop_of_length_le (by omega), List.take_nil]
theorem cut_mem {ds : List D} {lo hi : Option Int} {d : D} (h : d ∈ cutD ds lo hi) : d ∈ ds := List.mem_of_mem_drop (List.mem_of_mem_take h)
theorem wtL_take (ds : List D) (n : Nat) : wtL (ds.take n) + wtL (ds.drop n) = wtL ds := by
  rw [← wtL_app, List.take_append_drop]
theorem cut_wt (ds : List D) (lo hi : Option Int) : wtL (cutD ds lo hi) ≤ wtL ds := by
  unfold FL.cutD
  have h1 := wtL_take ds (HT.sIx ds.length 0 lo)
  have h2 := wtL_take (ds.drop (HT.sIx ds.length 0 lo)) (HT.sIx ds.length ds.length hi - HT.sIx ds.length 0 lo)
  omega
theorem wtL_rev : ∀ ds : List D, wtL ds.reverse = wtL ds
  | [] => rfl
  | d :: ds => by rw [List.reverse_cons, wtL_app, wtL_rev ds, wtL_cons, wtL_cons, wtL_nil]; omega
end K49
/-! the draws: a spoilt value, the beginning -/
namespace K49
open PySem PySem.Spec PyProof.Rows L2 FL
set_option autoImplicit false
variable {cI cP cE : Addr}
theorem pickR_W {i k c l : Nat} {μ0 μ : Mu} {ds : List D} {Q : D → Mu → Prop} (hx : Nx k c μ0 μ) (hl : μ[l]? = some (.lst ds)) (hlk : l ≠ k) (hc : c < 2 ^ 100) (hn : ds ≠ []) (hz : ds.length ≤ 1000)
    (q : ∀ d μ', d ∈ ds → Nx k (c + 1) μ0 μ' → Q d μ') : W ((gs cI cP cE (i + 2))._law_pick [.ref k, .ref l] μ) Q := by
  refine runK_W ?_
  show W (G__law_pick _ [some (.ref k), some (.ref l)] μ) _
  unfold G__law_pick
  simp only [↓flS, ↓flE, ↓flO, ↓flI, List.getElem?_cons_zero, List.getElem?_cons_succ, lenR hl]
  have hp : 0 < ds.length := List.length_pos_iff.mpr hn
  refine throw_W hx.self hc (by omega) (Nat.lt_of_le_of_lt (m := 1000) (by omega) (by decide)) fun m μ' h0 h1 h2 => ?_
  obtain ⟨a, e, ha⟩ := atI_some h0 h1
  have hl' : μ'[l]? = some (.lst ds) := by rw [h2.2.1 l hlk]; exact hl
  rw [ixL hl' e]
  exact q a μ' ha (hx.trans h2)
def hdB : D → Bool
  | .tup (y :: _) => cmpB y
  | _ => true
def oddB (d : D) : Bool := Pl d && decide (wt d ≤ 1500) && cmpB d && hdB d
def odd0 : List D := [.non, .bl true, .int (-1), .int 0, .str "", .str "A", .str "a1", .str "until", .str "it", .int (10 ^ 60), .int (-(10 ^ 60)), .tup [], .lst [], .dct [], .tup [.str "a"], .tup [.tup [.int 0]]]
structure Post (d d' : D) : Prop where
  pl : Pl d' = true
  wt : wt d' ≤ 2 * wt d + 2000
  cmp : (∃ x, d = .str x) → cmpB d' = true
  hd : (∀ x ds, d = .tup (x :: ds) → ∃ y, x = .str y) → hdB d' = true
theorem odd_post {d d' : D} (h : oddB d' = true) : Post d d' := by
  simp only [oddB, Bool.and_eq_true, decide_eq_true_eq] at h
  obtain ⟨⟨⟨h1, h2⟩, h3⟩, h4⟩ := h
  exact ⟨h1, by omega, fun _ => h3, fun _ => h4⟩
theorem nest_cmp {n : Nat} {d : D} (h : nest n d = true) (hn : n ≤ 40) : cmpB d = true := by
  have h := nest_le h hn
  cases d with
  | dct kvs => cases h
  | lst ds => cases h
  | int i => rfl
  | bl b => rfl
  | _ => exact h
theorem deep_odd {d : D} {L : Nat} (h : canW L d = true) (hL : L ≤ 17) (hw : wt d ≤ 4 + 72 * L) : oddB d = true := by
  have hn := canW_nest h
  simp only [oddB, Bool.and_eq_true, decide_eq_true_eq]
  refine ⟨⟨⟨nest_pl hn, by omega⟩, nest_cmp hn (by omega)⟩, ?_⟩
  cases d with
  | tup ds =>
    cases ds with
    | nil => rfl
    | cons y ys =>
      rcases nest_cases hn with ⟨es, m, e, e2, g⟩ | e | ⟨i, e, hi⟩ | ⟨x, e, hx⟩ <;> cases e
      exact nest_cmp (g y List.mem_cons_self) (by omega)
  | _ => rfl
/-- tuples of the items of a tuple -/
theorem tup_post {n : Nat} {ds es : List D} (h : ∀ x ∈ ds, nest n x = true) (hn : n ≤ 39) (g : ∀ x ∈ es, nest 40 x = true) (hw : wtL es ≤ 2 * wtL ds + 100) : Post (.tup ds) (.tup es) := by
  refine ⟨?_, ?_, ?_, ?_⟩
  · rw [pl_tup]; exact plL_of fun x hx => nest_pl (g x hx)
  · rw [wt_tup, wt_tup]; omega
  · rintro ⟨x, e⟩; cases e
  · intro _
    cases es with
    | nil => rfl
    | cons y ys => exact nest_cmp (g y List.mem_cons_self) (Nat.le_refl _)
theorem dnew_W (ρ : Rho) (μ : Mu) (Q : D → Mu → Prop) : W (fDNew ρ μ) Q = Q (.dct []) μ := W_ok _ _ _
theorem rev_W (F : FE) (ρ : Rho) (μ : Mu) (Q : D → Mu → Prop) : W (fRev F ρ μ) Q = W (F ρ μ) fun d μ1 => W (match d with | .tup ds => Rs.ok (.tup ds.reverse) μ1 | _ => .no : Rs D) Q := W_bind _ _ _
theorem list_W (ds : List D) (μ : Mu) (Q : D → Mu → Prop) : W (gList [.tup ds] μ) Q = Q (.lst ds) μ := W_ok _ _ _
theorem isiT (ds : List D) (μ : Mu) : gIsi [.tup ds, .ty "tuple"] μ = .ok (.bl true) μ ∧ gIsi [.tup ds, .ty "int"] μ = .ok (.bl false) μ := ⟨rfl, rfl⟩
theorem isiI (i : Int) (μ : Mu) : gIsi [.int i, .ty "tuple"] μ = .ok (.bl false) μ ∧ gIsi [.int i, .ty "int"] μ = .ok (.bl true) μ := ⟨rfl, rfl⟩
theorem isiS (x : Str) (μ : Mu) : gIsi [.str x, .ty "tuple"] μ = .ok (.bl false) μ ∧ gIsi [.str x, .ty "int"] μ = .ok (.bl false) μ := ⟨rfl, rfl⟩
theorem isiN (μ : Mu) : gIsi [.non, .ty "tuple"] μ = .ok (.bl false) μ ∧ gIsi [.non, .ty "int"] μ = .ok (.bl false) μ := ⟨rfl, rfl⟩
theorem odd0_ok : ∀ d ∈ odd0, oddB d = true := by
  have h : odd0.all oddB = true := by decide +kernel
  exact List.all_eq_true.mp h
/-- what follows the list of odd values -/
structure Sp (k l c : Nat) (μ0 μ : Mu) (odd : List D) : Prop where
  ng : Ng k c μ0 μ
  nk : l ≠ k
  at' : μ[l]? = some (Ob.lst odd)
  le : μ0.length ≤ l
  ok : ∀ d ∈ odd, oddB d = true
  len : odd.length ≤ 100
  ne : odd ≠ []
theorem Sp.step {k l c c' : Nat} {μ0 μ μ' : Mu} {odd : List D} (h : Sp k l c μ0 μ odd) (n : Nx k c' μ μ') : Sp k l c' μ0 μ' odd :=
  ⟨h.ng.step n, h.nk, by rw [n.2.1 l h.nk]; exact h.at', h.le, h.ok, h.len, h.ne⟩
theorem Sp.out {k l c : Nat} {μ0 μ : Mu} {odd : List D} {d d' : D} {Q : D → Mu → Prop} (h : Sp k l c μ0 μ odd) (hp : Post d d') (q : ∀ d' μ', Post d d' → Nx k c μ0 μ' → Q d' μ') : kG μ0 Q (.rt d') μ := h.ng.out hp.pl fun μ' hx => q d' μ' hp hx
theorem Sp.last {i k l c : Nat} {μ0 μ : Mu} {odd : List D} {d : D} {Q : D → Mu → Prop} (h : Sp k l c μ0 μ odd) (hc : c < 2 ^ 100) (q : ∀ d' μ', Post d d' → Nx k (c + 1) μ0 μ' → Q d' μ') :
    W ((gs cI cP cE (i + 2))._law_pick [.ref k, .ref l] μ) fun d' μ' => kG μ0 Q (.rt d') μ' :=
  pickR_W h.ng.nx h.at' h.nk hc h.ne (by have := h.len; omega) fun d' μ' hd hx => (h.step hx).out (odd_post (h.ok d' hd)) q
end K49
/-! the texts of integers -/
namespace K49
open PySem PySem.Spec PyProof.Rows L2 FL
set_option autoImplicit false
theorem str_tl (i : Int) : TL.tl (Str.ofString (toString i)) = (if i < 0 then [45] else []) ++ TL.numL i.natAbs := by
  by_cases h : i < 0
  · rw [if_pos h, toString_neg h, TL.tl_ofString]
    have e : (0 - i) = ((i.natAbs : Nat) : Int) := by omega
    rw [e]
    have e2 := TL.tl_num i.natAbs
    rw [TL.tl_ofString] at e2
    rw [String.toList_append, List.map_append, e2]
    rfl
  · rw [if_neg h, List.nil_append]
    have e : i = ((i.natAbs : Nat) : Int) := by omega
    conv => lhs; rw [e]
    exact TL.tl_num i.natAbs
theorem isInt_abs {i : Int} (h : isInt (.int i) = true) : i.natAbs < 10 ^ 60 := by
  have e : MX = 999999999999999999999999999999999999999999999999999999999999 := rfl
  have e2 : (10 : Nat) ^ 60 = 1000000000000000000000000000000000000000000000000000000000000 := by decide
  simp only [isInt, Bool.and_eq_true, decide_eq_true_eq] at h
  rw [e] at h
  rw [e2]
  omega
theorem str_len {i : Int} (h : isInt (.int i) = true) : (Str.ofString (toString i)).length ≤ 61 ∧ 1 ≤ (Str.ofString (toString i)).length := by
  have l := TL.numL_len (k := 60) (by decide) (isInt_abs h)
  have l2 := List.length_pos_iff.mpr (TL.numL_ne i.natAbs)
  rw [TL.len_tl, str_tl, List.length_append]
  split <;> simp only [List.length_cons, List.length_nil] <;> omega
theorem str_mem {i : Int} {c : Nat} (h : c ∈ (Str.ofString (toString i)).cps.toList) : c = 45 ∨ (48 ≤ c ∧ c ≤ 57) := by
  have h : c ∈ TL.tl (Str.ofString (toString i)) := h
  rw [str_tl] at h
  rcases List.mem_append.mp h with h | h
  · split at h
    · exact .inl (List.mem_singleton.mp h)
    · cases h
  · exact .inr (TL.numL_digits _ c h)
theorem str_ok (i : Int) : okS (Str.ofString (toString i)) = true := by
  unfold okS
  rw [List.all_eq_true]
  intro c hc
  have := str_mem hc
  exact decide_eq_true (by omega)
theorem log_isInt {i : Int} (h : isInt (.int i) = true) : i.natAbs.log2 < 1920 := by
  have a := isInt_abs h
  by_cases h0 : i.natAbs = 0
  · rw [h0]; decide
  · exact (Nat.log2_lt h0).mpr (Nat.lt_of_lt_of_le a (by decide))
/-- int(str(i)) -/
theorem int_back {i : Int} (h : isInt (.int i) = true) : PySem.intText? (Str.ofString (toString i)) = some i := by
  have l := str_len h
  by_cases hi : i < 0
  · have e := str_tl i
    rw [if_pos hi] at e
    have := intText_neg (x := Str.ofString (toString i)) (cs := TL.numL i.natAbs) e (TL.numL_digits _) (TL.numL_ne _) (by omega)
    rw [this, TL.numL_val]
    congr 1
    omega
  · have e := str_tl i
    rw [if_neg hi, List.nil_append] at e
    have e' : (Str.ofString (toString i)).cps.toList = TL.numL i.natAbs := e
    have := intText_digits (x := Str.ofString (toString i)) (by rw [e']; exact TL.numL_digits _) (by rw [e']; exact TL.numL_ne _) (by omega)
    rw [this, e', TL.numL_val]
    congr 1
    omega
end K49
namespace K49
open PySem PySem.Spec PyProof.Rows L2 FL
set_option autoImplicit false
variable {cI cP cE : Addr}
theorem take_mem {ds : List D} {n : Nat} {d : D} (h : d ∈ ds.take n) : d ∈ ds := List.mem_of_mem_take h
theorem split_at {ds : List D} {n : Nat} {d : D} (h : ds[n]? = some d) : ds = ds.take n ++ d :: ds.drop (n + 1) := by
  obtain ⟨hn, e⟩ := List.getElem?_eq_some_iff.mp h
  have := List.drop_eq_getElem_cons hn
  rw [← e, ← this, List.take_append_drop]
theorem atI_nat {ds : List D} {m : Int} (h0 : 0 ≤ m) (h1 : m < ds.length) : ∃ d, atI ds m = some d ∧ ds[m.toNat]? = some d := by
  unfold atI ixN
  rw [if_pos h0, if_pos h1, Option.bind_some]
  have : m.toNat < ds.length := by omega
  exact ⟨ds[m.toNat], by simp, by simp⟩
/-- one item of a tuple spoilt -/
theorem item_post {n : Nat} {ds : List D} {m : Nat} {d d' : D} (h : ∀ x ∈ ds, nest n x = true) (hn : n ≤ 39) (e : ds[m]? = some d) (p : Post d d') : Post (.tup ds) (.tup (ds.take m ++ d' :: ds.drop (m + 1))) := by
  have es := split_at e
  have hw : wtL ds = wtL (ds.take m) + (wt d + 2 + wtL (ds.drop (m + 1))) := by
    conv => lhs; rw [es]
    rw [wtL_app, wtL_cons]
  refine ⟨?_, ?_, ?_, ?_⟩
  · rw [pl_tup]
    refine plL_of fun x hx => ?_
    rcases List.mem_append.mp hx with hx | hx
    · exact nest_pl (h x (List.mem_of_mem_take hx))
    · rcases List.mem_cons.mp hx with rfl | hx
      · exact p.pl
      · exact nest_pl (h x (List.mem_of_mem_drop hx))
  · have := p.wt
    rw [wt_tup, wt_tup, wtL_app, wtL_cons]
    omega
  · rintro ⟨x, z⟩; cases z
  · intro hs
    cases m with
    | zero =>
      show cmpB d' = true
      refine p.cmp ?_
      cases ds with
      | nil => cases e
      | cons y ys =>
        obtain ⟨x, rfl⟩ := hs y ys rfl
        exact ⟨x, by simpa using e.symm⟩
    | succ m =>
      cases ds with
      | nil => cases e
      | cons y ys => exact nest_cmp (h y List.mem_cons_self) (by omega)
theorem sz2' {n : Nat} (h : n ≤ 16000000) : n ≤ sizeLine := Nat.le_trans h (by decide)
theorem seq_cut {A B : FS} {ρ : Rho} {μ : Mu} {Q : Ot → Mu → Prop} (P : Ot → Mu → Prop) (h1 : W (A ρ μ) P) (h2 : ∀ o μ', P o μ' → kS B Q o μ') : W (gSeq A B ρ μ) Q := by
  rw [flS.1]; exact h1.mono h2
theorem kS_nx (B : FS) (Q : Ot → Mu → Prop) (ρ : Rho) (μ : Mu) : kS B Q (.nx ρ) μ = W (B ρ μ) Q := flS.2.1 B Q ρ μ
theorem kS_rt (B : FS) (Q : Ot → Mu → Prop) (d : D) (μ : Mu) : kS B Q (.rt d) μ = Q (.rt d) μ := rfl
/-- either it goes on as it was, or it is over -/
def Or2 (k l c : Nat) (μ0 : Mu) (odd : List D) (ρ : Rho) (Q : D → Mu → Prop) (o : Ot) (μ : Mu) : Prop := (o = .nx ρ ∧ Sp k l c μ0 μ odd) ∨ ∃ r, o = .rt r ∧ kG μ0 Q (.rt r) μ
theorem kS_or2 {k l c : Nat} {μ0 : Mu} {odd : List D} {ρ : Rho} {Q : D → Mu → Prop} {B : FS} (h : ∀ μ, Sp k l c μ0 μ odd → W (B ρ μ) (kG μ0 Q)) : ∀ o μ, Or2 k l c μ0 odd ρ Q o μ → kS B (kG μ0 Q) o μ := by
  rintro o μ (⟨rfl, s⟩ | ⟨r, rfl, s⟩)
  · rw [kS_nx]; exact h μ s
  · rw [kS_rt]; exact s
theorem set_at {μ : Mu} {l : Nat} {o o' : Ob} (h : μ[l]? = some o) : (μ.set l o')[l]? = some o' := List.getElem?_set_self (List.getElem?_eq_some_iff.mp h).1
theorem spoilt_step {n j k c : Nat} {d : D} {μ0 : Mu} {Q : D → Mu → Prop} (hn : n ≤ 30) (hd : nest n d = true) (hw : wt d ≤ 1000000) (hx : Nx k c μ0 μ0) (hc : c + 5000 * (n + 1) < 2 ^ 100)
    (rec : ∀ (m : Nat) (x : D) (c' : Nat) (μ1 : Mu) (Q' : D → Mu → Prop), n = m + 1 → nest m x = true → wt x ≤ 1000000 → Nx k c' μ1 μ1 → c' + 5000 * (m + 1) < 2 ^ 100 → (∀ d' μ', Post x d' → Nx k (c' + 5000 * (m + 1)) μ1 μ' → Q' d' μ') → W ((gs cI cP cE (j + 5))._law_spoilt [.ref k, x] μ1) Q')
    (q : ∀ d' μ', Post d d' → Nx k (c + 5000 * (n + 1)) μ0 μ' → Q d' μ') : W ((gs cI cP cE (j + 6))._law_spoilt [.ref k, d] μ0) Q := by
  refine runG_W ?_
  show W (G__law_spoilt _ _ _ _ [some (.ref k), some d, none, none, none] μ0) _
  unfold G__law_spoilt
  have tn : Int.toNat 60 = 60 := rfl
  have hk := hx.lt
  refine seq_cut (fun o μ' => o = .nx [some (.ref k), some d, some (.ref μ0.length), none, none] ∧ μ' = μ0 ++ [Ob.lst odd0]) ?_ ?_
  · simp only [↓flS, ↓flE, ↓flO, ↓flI, ↓flQ, List.getElem?_cons_zero, List.getElem?_cons_succ, List.set_cons_zero, List.set_cons_succ, pow60, tn, true_and, dnew_W]
    exact ⟨sz (by simp), sz (by simp), sz (by simp), sz (by simp), sz (by simp), sz (by simp), rfl⟩
  rintro o μ1 ⟨rfl, rfl⟩
  rw [kS_nx]
  have g0 : (μ0 ++ [Ob.lst odd0])[μ0.length]? = some (Ob.lst odd0) := getA
  have n0 : Ng k c μ0 (μ0 ++ [Ob.lst odd0]) := hx.ng.add _
  refine seq_cut (fun o μ' => o = .nx [some (.ref k), some d, some (.ref μ0.length), none, none] ∧ μ'[μ0.length]? = some (Ob.lst (odd0 ++ [.str "zzzzzzzzz"])) ∧ Ng k c μ0 μ') ?_ ?_
  · simp only [↓flS, ↓flE, ↓flO, ↓flI, ↓flQ, List.getElem?_cons_zero, List.getElem?_cons_succ, List.set_cons_zero, List.set_cons_succ]
    refine ⟨tyR g0, ?_⟩
    rw [appR g0 (by decide)]
    exact ⟨trivial, set_at g0, n0.set (Nat.le_refl _) _⟩
  rintro o μ1 ⟨rfl, g1, n1⟩
  rw [kS_nx]
  refine seq_cut (fun o μ' => o = .nx [some (.ref k), some d, some (.ref μ0.length), none, none] ∧ ∃ odd, Sp k μ0.length (c + 600) μ0 μ' odd) ?_ ?_
  · simp only [↓flS, ↓flE, ↓flO, ↓flI, ↓flQ, List.getElem?_cons_zero, List.getElem?_cons_succ, List.set_cons_zero, List.set_cons_succ]
    refine ⟨tyR g1, sz (by simp), ?_⟩
    refine pickL_W n1.nx (by omega) (by simp) (by simp) fun d1 μ2 hd1 hx2 => ?_
    have hL : ∃ L : Nat, d1 = .int L ∧ 1 ≤ L ∧ L ≤ 17 := by
      simp only [List.mem_cons, List.not_mem_nil, or_false] at hd1
      rcases hd1 with rfl | rfl | rfl
      · exact ⟨15, rfl, by omega, by omega⟩
      · exact ⟨16, rfl, by omega, by omega⟩
      · exact ⟨17, rfl, by omega, by omega⟩
    obtain ⟨L, rfl, hL1, hL2⟩ := hL
    refine deep_W hx2 hL1 (by omega) (by omega) fun d2 μ3 a1 a2 a3 hx3 => ?_
    have g3 : μ3[μ0.length]? = some (Ob.lst (odd0 ++ [.str "zzzzzzzzz"])) := by rw [hx3.2.1 _ (by omega)]; exact g1
    have n3 := n1.step hx3
    rw [appR g3 (by decide)]
    refine ⟨trivial, _, (n3.set (Nat.le_refl _) _).up (by omega), by omega, set_at g3, Nat.le_refl _, ?_, by simp [odd0], by simp⟩
    intro x hx
    rcases List.mem_append.mp hx with hx | hx
    · rcases List.mem_append.mp hx with hx | hx
      · exact odd0_ok x hx
      · rw [List.mem_singleton.mp hx]; decide +kernel
    · rw [List.mem_singleton.mp hx]
      exact deep_odd a1 hL2 a2
  rintro o μ1 ⟨rfl, odd, s1⟩
  rw [kS_nx]
  have fin : ∀ {c' μ' d'}, c' ≤ c + 5000 * (n + 1) → Sp k μ0.length c' μ0 μ' odd → Post d d' → kG μ0 Q (.rt d') μ' := fun {c' μ' d'} e s p => s.out p fun d'' μ'' p' hx' => q d'' μ'' p' (hx'.up e)
  have last : ∀ {i c' μ'}, c' + 1 ≤ c + 5000 * (n + 1) → Sp k μ0.length c' μ0 μ' odd → W ((gs cI cP cE (i + 2))._law_pick [.ref k, .ref μ0.length] μ') fun d' μ' => kG μ0 Q (.rt d') μ' := fun {i c' μ'} e s => s.last (by omega) fun d'' μ'' p' hx' => q d'' μ'' p' (hx'.up e)
  have pickF : ∀ {i c' μ'} {xs : List D}, c' + 1 ≤ c + 5000 * (n + 1) → Sp k μ0.length c' μ0 μ' odd → xs ≠ [] → xs.length ≤ 1000 → (∀ x ∈ xs, Post d x) → W ((gs cI cP cE (i + 2))._law_pick [.ref k, .lst xs] μ') fun d' μ' => kG μ0 Q (.rt d') μ' := fun {i c' μ' xs} e s h1 h2 h3 =>
    pickL_W s.ng.nx (by omega) h1 (by omega) fun d' μ'' hd' hx' => fin e (s.step hx') (h3 d' hd')
  refine seq_cut (Or2 k μ0.length (c + 601) μ0 odd [some (.ref k), some d, some (.ref μ0.length), none, none] Q) ?_ (kS_or2 fun μ2 s2 => ?_)
  · have s1' : Sp k μ0.length (c + 601) μ0 μ1 odd := s1.step (s1.ng.nx.up (by omega))
    rcases nest_cases hd with ⟨ds, m, rfl, e, g⟩ | rfl | ⟨i, rfl, hi⟩ | ⟨x, rfl, hx⟩
    · simp only [↓flS, ↓flE, ↓flO, ↓flI, ↓flQ, List.getElem?_cons_zero, List.getElem?_cons_succ, List.set_cons_zero, List.set_cons_succ, isiT, ne_nil hd (show n ≤ 60 by omega)]
      refine ⟨sz (by simp), fun hne => ?_, fun _ => .inl ⟨rfl, s1'⟩⟩
      refine throw_W s1.ng.nx (by omega) (by decide) (by decide) fun t μ3 t0 t1 hx3 => ?_
      have s3 := s1.step hx3
      simp only [↓flS, ↓flE, ↓flO, ↓flI, ↓flQ, List.getElem?_cons_zero, List.getElem?_cons_succ, List.set_cons_zero, List.set_cons_succ]
      have hne' : ds ≠ [] := by rintro rfl; cases hne
      have hlen := len_wt ds
      have hw' := hw
      rw [wt_tup] at hw'
      have hp := List.length_pos_iff.mpr hne'
      refine ⟨fun ht => ?_, fun _ => .inl ⟨rfl, s3⟩⟩
      refine throw_W s3.ng.nx (by omega) (by omega) (Nat.lt_of_le_of_lt (m := 1000000) (by omega) (by decide)) fun t2 μ4 t2a t2b hx4 => ?_
      have s4 := s3.step hx4
      obtain ⟨x, ex, ex2⟩ := atI_nat t2a t2b
      simp only [↓flI, ↓flO, ex]
      have hxm : x ∈ ds := List.mem_of_getElem? ex2
      refine rec m x _ μ4 _ e (g x hxm) (by have := wt_mem hxm; omega) s4.ng.nx (by omega) fun d' μ5 p hx5 => ?_
      have s5 := s4.step hx5
      rw [cut_take ds t2 t2a, cut_drop ds (t2 + 1) (by omega), show (t2 + 1).toNat = t2.toNat + 1 by omega]
      have lt := List.length_take_le t2.toNat ds
      have ld : (ds.drop (t2.toNat + 1)).length ≤ ds.length := by rw [List.length_drop]; omega
      refine ⟨sz (by simp), sz2' (by rw [List.length_singleton]; omega), sz2' (by rw [List.length_append, List.length_singleton]; omega), .inr ⟨_, rfl, ?_⟩⟩
      rw [List.append_assoc, List.singleton_append]
      exact fin (by omega) s5 (item_post g (by omega) ex2 p)
    · simp only [↓flS, ↓flE, ↓flO, ↓flI, ↓flQ, List.getElem?_cons_zero, List.getElem?_cons_succ, isiN]
      exact .inl ⟨rfl, s1'⟩
    · simp only [↓flS, ↓flE, ↓flO, ↓flI, ↓flQ, List.getElem?_cons_zero, List.getElem?_cons_succ, isiI]
      exact .inl ⟨rfl, s1'⟩
    · simp only [↓flS, ↓flE, ↓flO, ↓flI, ↓flQ, List.getElem?_cons_zero, List.getElem?_cons_succ, isiS]
      exact .inl ⟨rfl, s1'⟩
  refine seq_cut (Or2 k μ0.length (c + 602) μ0 odd [some (.ref k), some d, some (.ref μ0.length), none, none] Q) ?_ (kS_or2 fun μ3 s3 => ?_)
  · have s2' : Sp k μ0.length (c + 602) μ0 μ2 odd := s2.step (s2.ng.nx.up (by omega))
    rcases nest_cases hd with ⟨ds, m, rfl, e, g⟩ | rfl | ⟨i, rfl, hi⟩ | ⟨x, rfl, hx⟩
    · simp only [↓flS, ↓flE, ↓flO, ↓flI, ↓flQ, List.getElem?_cons_zero, List.getElem?_cons_succ, List.set_cons_zero, List.set_cons_succ, isiT, rev_W, list_W]
      refine throw_W s2.ng.nx (by omega) (by decide) (by decide) fun t μ3 t0 t1 hx3 => ?_
      have s3 := s2.step hx3
      simp only [↓flS, ↓flE, ↓flO, ↓flI, ↓flQ, List.getElem?_cons_zero, List.getElem?_cons_succ, List.set_cons_zero, List.set_cons_succ]
      have hlen := len_wt ds
      have hw' := hw
      rw [wt_tup] at hw'
      refine ⟨fun ht => ?_, fun _ => .inl ⟨rfl, s3⟩⟩
      have lc := List.Sublist.length_le (l₁ := FL.cutD ds none (some 1)) (l₂ := ds) ((List.take_sublist _ _).trans (List.drop_sublist _ _))
      refine ⟨sz2' (by omega), sz (by simp), sz2' (by rw [List.length_singleton]; omega), sz (by simp), sz (by simp), ?_⟩
      have gm : ∀ {a b : Option Int} {x : D}, x ∈ FL.cutD ds a b → nest 40 x = true := fun {a b x} h => nest_le (g x (cut_mem h)) (by omega)
      have g40 : ∀ x ∈ ds, nest 40 x = true := fun x h => nest_le (g x h) (by omega)
      have w1 := cut_wt ds (some 1) none
      have w2 := cut_wt ds none (some (-1))
      have w3 := cut_wt ds none (some 1)
      refine (pickF (by omega) s3 (by simp) (by simp) fun x hx => ?_).mono fun d' μ' h => .inr ⟨d', rfl, h⟩
      simp only [List.mem_cons, List.not_mem_nil, or_false] at hx
      rcases hx with rfl | rfl | rfl | rfl | rfl | rfl | rfl
      · refine ⟨?_, by rw [wt_tup, wt_lst]; omega, ?_, fun _ => rfl⟩
        · rw [pl_lst]; exact plL_of fun x hx => nest_pl (g x hx)
        · rintro ⟨x, z⟩; cases z
      · exact tup_post g (by omega) (fun x hx => gm hx) (by omega)
      · exact tup_post g (by omega) (fun x hx => gm hx) (by omega)
      · refine tup_post g (by omega) (fun x hx => ?_) (by rw [wtL_app]; omega)
        rcases List.mem_append.mp hx with hx | hx
        · exact g40 x hx
        · exact gm hx
      · exact tup_post g (by omega) (fun x hx => g40 x (List.mem_reverse.mp hx)) (by rw [wtL_rev]; omega)
      · refine tup_post g (by omega) (fun x hx => ?_) (by rw [wtL_app, wtL_cons, wtL_nil, show wt (.int 0) = 64 from rfl]; omega)
        rcases List.mem_append.mp hx with hx | hx
        · exact g40 x hx
        · rw [List.mem_singleton.mp hx]; decide +kernel
      · refine tup_post g (by omega) (fun x hx => ?_) (by rw [wtL_cons, wtL_nil, wt_tup]; omega)
        rw [List.mem_singleton.mp hx]
        exact nest_le hd (by omega)
    · simp only [↓flS, ↓flE, ↓flO, ↓flI, ↓flQ, List.getElem?_cons_zero, List.getElem?_cons_succ, isiN]
      exact .inl ⟨rfl, s2'⟩
    · simp only [↓flS, ↓flE, ↓flO, ↓flI, ↓flQ, List.getElem?_cons_zero, List.getElem?_cons_succ, isiI]
      exact .inl ⟨rfl, s2'⟩
    · simp only [↓flS, ↓flE, ↓flO, ↓flI, ↓flQ, List.getElem?_cons_zero, List.getElem?_cons_succ, isiS]
      exact .inl ⟨rfl, s2'⟩
  refine seq_cut (Or2 k μ0.length (c + 603) μ0 odd [some (.ref k), some d, some (.ref μ0.length), none, none] Q) ?_ (kS_or2 fun μ4 s4 => ?_)
  · have s3' : Sp k μ0.length (c + 603) μ0 μ3 odd := s3.step (s3.ng.nx.up (by omega))
    rcases nest_cases hd with ⟨ds, m, rfl, e, g⟩ | rfl | ⟨i, rfl, hi⟩ | ⟨x, rfl, hx⟩
    · simp only [↓flS, ↓flE, ↓flO, ↓flI, ↓flQ, List.getElem?_cons_zero, List.getElem?_cons_succ, isiT]
      exact .inl ⟨rfl, s3'⟩
    · simp only [↓flS, ↓flE, ↓flO, ↓flI, ↓flQ, List.getElem?_cons_zero, List.getElem?_cons_succ, isiN]
      exact .inl ⟨rfl, s3'⟩
    · simp only [↓flS, ↓flE, ↓flO, ↓flI, ↓flQ, List.getElem?_cons_zero, List.getElem?_cons_succ, List.set_cons_zero, List.set_cons_succ, isiI]
      refine throw_W s3.ng.nx (by omega) (by decide) (by decide) fun t μ3 t0 t1 hx3 => ?_
      have s4 := s3.step hx3
      simp only [↓flS, ↓flE, ↓flO, ↓flI, ↓flQ, List.getElem?_cons_zero, List.getElem?_cons_succ, List.set_cons_zero, List.set_cons_succ]
      refine ⟨fun ht => ?_, fun _ => .inl ⟨rfl, s4⟩⟩
      refine ⟨log_isInt hi, sz (by simp), sz (by simp), ?_⟩
      refine (pickF (by omega) s4 (by simp) (by simp) fun x hx => ?_).mono fun d' μ' h => .inr ⟨d', rfl, h⟩
      have nos : ∀ {p : Prop}, (∃ x, D.int i = .str x) → p := fun {p} h => by obtain ⟨x, z⟩ := h; cases z
      have wi : ∀ i : Int, wt (.int i) = 64 := fun i => by rw [wt]
      simp only [List.mem_cons, List.not_mem_nil, or_false] at hx
      rcases hx with rfl | rfl | rfl | rfl | rfl | rfl
      · exact ⟨rfl, by rw [wi, wi]; omega, nos, fun _ => rfl⟩
      · exact ⟨rfl, by rw [wi, wi]; omega, nos, fun _ => rfl⟩
      · exact ⟨rfl, by rw [wi, wi]; omega, nos, fun _ => rfl⟩
      · refine ⟨?_, by rw [wi, show wt (.str (Str.ofString (toString i))) = (Str.ofString (toString i)).length + 4 by rw [wt]]; have := str_len hi; omega, nos, fun _ => rfl⟩
        rw [Pl]
        exact str_ok i
      · exact ⟨rfl, by rw [wi, show wt (.bl (decide (i = 1))) = 8 from rfl]; omega, nos, fun _ => rfl⟩
      · exact ⟨rfl, by rw [wt_lst, wtL_cons, wtL_nil, wi]; omega, nos, fun _ => rfl⟩
    · simp only [↓flS, ↓flE, ↓flO, ↓flI, ↓flQ, List.getElem?_cons_zero, List.getElem?_cons_succ, isiS]
      exact .inl ⟨rfl, s3'⟩
  simp only [↓flS, ↓flE, ↓flO, ↓flI, ↓flQ, List.getElem?_cons_zero, List.getElem?_cons_succ, List.set_cons_zero, List.set_cons_succ]
  exact last (by omega) s4
theorem spoilt_W : ∀ (n j : Nat) {k c : Nat} {d : D} {μ0 : Mu} {Q : D → Mu → Prop}, n ≤ 30 → nest n d = true → wt d ≤ 1000000 → Nx k c μ0 μ0 → c + 5000 * (n + 1) < 2 ^ 100 →
    (∀ d' μ', Post d d' → Nx k (c + 5000 * (n + 1)) μ0 μ' → Q d' μ') → W ((gs cI cP cE (n + j + 6))._law_spoilt [.ref k, d] μ0) Q
  | 0, j, k, c, d, μ0, Q, hn, hd, hw, hx, hc, q => spoilt_step hn hd hw hx hc (fun m x c' μ1 Q' e => by cases e) q
  | n + 1, j, k, c, d, μ0, Q, hn, hd, hw, hx, hc, q => by
    rw [show n + 1 + j + 6 = (n + 1 + j) + 6 by omega]
    refine spoilt_step hn hd hw hx hc (fun m x c' μ1 Q' e h1 h2 h3 h4 q' => ?_) q
    cases e
    rw [show n + 1 + j + 5 = n + j + 6 by omega]
    exact spoilt_W n j (by omega) h1 h2 h3 h4 q'
end K49
/-! the checks of the program and of the law compute the form: numbers, words, shapes -/
namespace K49
open PySem PySem.Spec PyProof.Rows L2 FL
set_option autoImplicit false
variable {cI cP cE : Addr}
def isTup : D → Bool
  | .tup _ => true
  | _ => false
def isStr : D → Bool
  | .str _ => true
  | _ => false
def isIB : D → Bool
  | .int _ => true
  | .bl _ => true
  | _ => false
def isBl : D → Bool
  | .bl _ => true
  | _ => false
theorem isi {d : D} (h : Pl d = true) (μ : Mu) : gIsi [d, .ty "tuple"] μ = .ok (.bl (isTup d)) μ ∧ gIsi [d, .ty "str"] μ = .ok (.bl (isStr d)) μ ∧ gIsi [d, .ty "int"] μ = .ok (.bl (isIB d)) μ ∧ gIsi [d, .ty "bool"] μ = .ok (.bl (isBl d)) μ := by
  cases d <;> first | exact ⟨rfl, rfl, rfl, rfl⟩ | (simp [Pl] at h)
theorem isiTup {d : D} (h : Pl d = true) (μ : Mu) : gIsi [d, .ty "tuple"] μ = .ok (.bl (isTup d)) μ := (isi h μ).1
theorem isiStr {d : D} (h : Pl d = true) (μ : Mu) : gIsi [d, .ty "str"] μ = .ok (.bl (isStr d)) μ := (isi h μ).2.1
theorem isiInt {d : D} (h : Pl d = true) (μ : Mu) : gIsi [d, .ty "int"] μ = .ok (.bl (isIB d)) μ := (isi h μ).2.2.1
theorem isiBl {d : D} (h : Pl d = true) (μ : Mu) : gIsi [d, .ty "bool"] μ = .ok (.bl (isBl d)) μ := (isi h μ).2.2.2
/-- a comprehension over data that leaves the store -/
theorem cl_map {T : FT} {F : FE} {ρ : Rho} {μ : Mu} {ds : List D} (y : D → D) (h : ∀ d ∈ ds, ∃ ρ1, T d ρ = some ρ1 ∧ F ρ1 μ = .ok (y d) μ) (hz : ds.length ≤ sizeLine) : cLoop T fYes F ρ ds [] μ = .ok (ds.map y) μ := by
  have e := cLoop_pure (t := fYes) (fun _ => true) y ds [] (fun d hd => by obtain ⟨ρ1, e1, e2⟩ := h d hd; exact ⟨ρ1, e1, rfl, fun _ => e2⟩) (by simpa using hz)
  have hf : ds.filter (fun _ : D => true) = ds := by simp
  rw [hf, List.nil_append] at e
  exact e
theorem all_W {T : FT} {F : FE} {ρ : Rho} {μ : Mu} {ds : List D} {Q : D → Mu → Prop} (p : D → Bool) (h : ∀ d ∈ ds, ∃ ρ1, T d ρ = some ρ1 ∧ F ρ1 μ = .ok (.bl (p d)) μ) (hz : ds.length ≤ sizeLine) :
    W (cLoop T fYes F ρ ds [] μ) (fun ys μ2 => W (gAll [.lst ys] μ2) Q) = Q (.bl (ds.all p)) μ := by
  rw [cl_map (fun d => .bl (p d)) h hz, W_ok, gAll_map, W_ok]
theorem filt_W {T : FT} {t : FB} {F : FE} {ρ : Rho} {μ : Mu} {ds : List D} {Q : List D → Mu → Prop} (p : D → Bool) (h : ∀ d ∈ ds, ∃ ρ1, T d ρ = some ρ1 ∧ t ρ1 μ = .ok (!p d) μ ∧ F ρ1 μ = .ok d μ) (hz : ds.length ≤ sizeLine) :
    W (cLoop T t F ρ ds [] μ) Q = Q (ds.filter fun d => !p d) μ := by
  rw [cLoop_pure (fun d => !p d) id ds [] (fun d hd => by obtain ⟨ρ1, e1, e2, e3⟩ := h d hd; exact ⟨ρ1, e1, e2, fun _ => e3⟩) (by simpa using hz), W_ok, List.nil_append, List.map_id]
theorem eq_nilL (xs : List D) (μ : Mu) : gEqq (.lst xs) (.lst []) μ = .ok (.bl xs.isEmpty) μ ∧ gNee (.lst xs) (.lst []) μ = .ok (.bl (!xs.isEmpty)) μ := by
  cases xs with
  | nil => exact ⟨rfl, rfl⟩
  | cons x xs => exact ⟨rfl, rfl⟩
theorem filt_all (p : D → Bool) : ∀ ds : List D, (ds.filter fun d => !p d).isEmpty = ds.all p
  | [] => rfl
  | d :: ds => by
    cases h : p d with
    | true => simp [h, filt_all p ds]
    | false => simp [h]
theorem loopAny_W {T : FT} {G : FS} {ρ : Rho} {μ : Mu} {ds : List D} {Q : Ot → Mu → Prop} (p : D → Bool) (r : D) (I : Rho → Prop) (h : ∀ d ∈ ds, ∀ ρ, I ρ → ∃ ρ1, T d ρ = some ρ1 ∧ (p d = true → G ρ1 μ = .ok (.rt r) μ) ∧ (p d = false → ∃ ρ2, G ρ1 μ = .ok (.nx ρ2) μ ∧ I ρ2)) (hI : I ρ)
    (q1 : ds.any p = true → Q (.rt r) μ) (q2 : ds.any p = false → ∀ ρ', I ρ' → Q (.nx ρ') μ) : W (gLoop T G ds ρ μ) Q := by
  obtain ⟨k1, k2⟩ := loop_any (G := G) (T := T) (μ := μ) p r I ds ρ h hI
  cases e : ds.any p with
  | true => rw [k1 e]; exact .mk (q1 e)
  | false =>
    obtain ⟨ρ', e1, e2⟩ := k2 e
    rw [e1]
    exact .mk (q2 e ρ' e2)
theorem br_eq {b : Bool} {P Q : Prop} (h1 : b = true → P) (h2 : b = false → Q) : br b P Q := ⟨h1, h2⟩
/-- the end of a reading that only tells -/
def IsD (d : D) (μ : Mu) (d' : D) (μ' : Mu) : Prop := d' = d ∧ μ' = μ
def IsB (b : Bool) (μ : Mu) (b' : Bool) (μ' : Mu) : Prop := b' = b ∧ μ' = μ
theorem W.eqD {r : Rs D} {d : D} {μ : Mu} (h : W r (IsD d μ)) : r = .ok d μ := W.eq h
theorem W.eqB {r : Rs Bool} {b : Bool} {μ : Mu} (h : W r (IsB b μ)) : r = .ok b μ := W.eq h
theorem isD_bl (b b' : Bool) (μ : Mu) : IsD (.bl b) μ (.bl b') μ = (b' = b) := by simp [IsD]
theorem isD_str (b b' : Str) (μ : Mu) : IsD (.str b) μ (.str b') μ = (b' = b) := by simp [IsD]
theorem isB_eq (b b' : Bool) (μ : Mu) : IsB b μ b' μ = (b' = b) := by simp [IsB]
theorem br_B (c x y b : Bool) : br c (x = b) (y = b) = (cond c x y = b) := by cases c <;> simp [br]
theorem guard_W {c : FB} {B : FS} {r : D} {ρ : Rho} {μ : Mu} {Q : Ot → Mu → Prop} (b : Bool) (hc : W (c ρ μ) (IsB b μ)) (h1 : b = true → Q (.rt r) μ) (h2 : b = false → W (B ρ μ) Q) : W (gSeq (gIf c (gRet (fC r)) gNx) B ρ μ) Q := by
  have e := W.eqB hc
  simp only [↓flS, e, W_ok]
  exact ⟨fun h => by simp only [↓flE]; exact h1 h, fun h => by exact h2 h⟩
theorem int_E {i : Nat} {d : D} {μ : Mu} (h : Pl d = true) : (gs cI cP cE (i + 1)).is_integer [d] μ = .ok (.bl (isInt d)) μ := by
  refine W.eqD (runK_W ?_)
  show W (G_is_integer [some d] μ) _
  unfold G_is_integer
  simp only [↓flS, ↓flE, ↓flO, ↓flI, ↓flQ, List.getElem?_cons_zero, isiInt h, isiBl h]
  cases d with
  | int i =>
    have e : (-999999999999999999999999999999999999999999999999999999999999 : Int) = -MX := rfl
    have e2 : (999999999999999999999999999999999999999999999999999999999999 : Int) = MX := rfl
    rw [e, e2]
    simp only [isIB, isBl, Bool.not_false, ↓flE, ↓flO, ↓flS, isD_bl, br_B, isInt]
    cases decide (-MX ≤ i) <;> rfl
  | _ => simp only [isIB, isBl, isD_bl, br_t, br_f, isInt, Bool.not_true]
theorem lint_E {i : Nat} {d : D} {μ : Mu} (h : Pl d = true) : (gs cI cP cE (i + 1))._law_integer [d] μ = .ok (.bl (isInt d)) μ := by
  refine W.eqD (runK_W ?_)
  show W (G__law_integer [some d] μ) _
  unfold G__law_integer
  simp only [↓flS, ↓flE, ↓flO, ↓flI, ↓flQ, List.getElem?_cons_zero, isiInt h, isiBl h]
  cases d with
  | int i =>
    simp only [isIB, isBl, Bool.not_false, ↓flE, ↓flO, ↓flS, pow60, tn60, true_and, isD_bl, br_B, isInt, cond_true]
    have e60 := p60
    have e' : MX = 999999999999999999999999999999999999999999999999999999999999 := rfl
    rw [Bool.eq_iff_iff, decide_eq_true_eq, Bool.and_eq_true, decide_eq_true_eq, decide_eq_true_eq]
    rw [e60, e']
    split <;> omega
  | _ => simp only [isIB, isBl, isD_bl, br_t, br_f, isInt, Bool.not_true]
/-! ### words -/
def lowD : D → Bool
  | .str y => y.cps.toList.all low
  | _ => false
theorem lowD_sign (c : Nat) : lowD (sign c) = low c := by simp [lowD, sign]
theorem lowD_all (x : Str) : (x.cps.toList.map sign).all lowD = lows x := by
  unfold lows
  rw [List.all_map]
  congr 1
  funext c
  exact lowD_sign c
theorem ne_empty (x : Str) : (!decide (x = ("" : Str))) = decide (1 ≤ x.length) := by
  rw [Bool.eq_iff_iff, Bool.not_eq_true', decide_eq_false_iff_not, decide_eq_true_eq, emp]
  constructor
  · intro h
    by_cases z : x.length = 0
    · exact absurd (TL.ext_tl (x := x) (y := ⟨#[]⟩) (by rw [(TL.len0_tl x).mp z])) h
    · omega
  · rintro h rfl
    have : (⟨#[]⟩ : Str).length = 0 := rfl
    omega
theorem wt_str (x : Str) : wt (.str x) = x.length + 4 := by rw [wt]
theorem sz2 {n : Nat} (h : n ≤ 1000000) : n ≤ sizeLine := Nat.le_trans h (by decide)
theorem in_abc (c : Nat) (μ : Mu) : gIn false (sign c) (.str ("abcdefghijklmnopqrstuvwxyz" : Str)) μ = .ok (.bl (low c)) μ ∧ gIn true (sign c) (.str ("abcdefghijklmnopqrstuvwxyz" : Str)) μ = .ok (.bl (!low c)) μ := by
  have e : ∀ neg : Bool, gIn neg (sign c) (.str ("abcdefghijklmnopqrstuvwxyz" : Str)) μ = .ok (.bl (neg ^^ decide (c ∈ (("abcdefghijklmnopqrstuvwxyz" : Str)).cps.toList))) μ := fun _ => rfl
  rw [e, e, mem_abc]
  exact ⟨by simp, by simp⟩
theorem word_E {i : Nat} {d : D} {μ : Mu} (h : Pl d = true) (hw : wt d ≤ 1000000) : (gs cI cP cE (i + 1)).is_word [d] μ = .ok (.bl (isWord d)) μ := by
  refine W.eqD (runK_W ?_)
  show W (G_is_word [some d, none] μ) _
  unfold G_is_word
  simp only [↓flS, ↓flE, ↓flO, ↓flI, ↓flQ, List.getElem?_cons_zero, isiStr h]
  cases d with
  | str x =>
    rw [wt_str] at hw
    simp only [isStr, ↓flE, ↓flS, ↓flQ, ↓flI, ne_empty, isWord]
    rw [all_W lowD]
    · simp only [lowD_all, isD_bl, br_B]
      cases decide (1 ≤ x.length) <;> rfl
    · intro d hd
      obtain ⟨c, hc, rfl⟩ := List.mem_map.mp hd
      refine ⟨_, rfl, ?_⟩
      rw [lowD_sign]
      exact ev_bin (ev_var rfl) ev_c (in_abc c μ).1
    · rw [signs_len]; exact sz2 (by omega)
  | _ => simp only [isStr, isD_bl, br_t, br_f, isWord]
def shortD (n : Nat) : D → Bool
  | .str x => decide (x.length ≤ n)
  | _ => false
theorem letters_E {i n : Nat} {d : D} {μ : Mu} (h : Pl d = true) (hw : wt d ≤ 1000000) : (gs cI cP cE (i + 1))._law_letters_alone [d, .int (n : Nat)] μ = .ok (.bl (isWord d && shortD n d)) μ := by
  refine W.eqD (runK_W ?_)
  show W (G__law_letters_alone [some d, some (.int n), none] μ) _
  unfold G__law_letters_alone
  cases d with
  | str x =>
    rw [wt_str] at hw
    have hz : x.length ≤ sizeLine := sz2 (by omega)
    refine guard_W (!(decide (1 ≤ x.length) && decide (x.length ≤ n))) ?_ (fun e => ?_) fun e => ?_
    · simp only [↓flS, ↓flE, ↓flO, ↓flI, ↓flQ, List.getElem?_cons_zero, List.getElem?_cons_succ, isiStr h, isStr, Bool.not_true, hz, true_and, isB_eq, br_B]
      have e1 : decide ((1 : Int) ≤ (x.length : Nat)) = decide (1 ≤ x.length) := by congr 1; simp; omega
      have e2 : decide (((x.length : Nat) : Int) ≤ (n : Nat)) = decide (x.length ≤ n) := by congr 1; simp
      rw [e1, e2]
      cases decide (1 ≤ x.length) <;> cases decide (x.length ≤ n) <;> rfl
    · show IsD _ _ _ _
      rw [isD_bl]
      simp only [isWord, shortD]
      cases h1 : decide (1 ≤ x.length) <;> cases h2 : decide (x.length ≤ n) <;> simp [h1, h2] at e ⊢
    · simp only [↓flS, ↓flE, ↓flO, ↓flI, ↓flQ, List.getElem?_cons_zero, List.getElem?_cons_succ]
      rw [filt_W lowD]
      · refine ⟨sz (by simp), ?_⟩
        rw [(eq_nilL _ _).1, W_ok, filt_all, lowD_all, isD_bl]
        simp only [isWord, shortD]
        cases h1 : decide (1 ≤ x.length) <;> cases h2 : decide (x.length ≤ n) <;> simp [h1, h2] at e ⊢
      · intro d hd
        obtain ⟨c, hc, rfl⟩ := List.mem_map.mp hd
        refine ⟨_, rfl, ?_, ev_var rfl⟩
        rw [lowD_sign]
        exact evb_b (ev_bin (ev_var rfl) ev_c (in_abc c _).2)
      · rw [signs_len]; exact hz
  | _ =>
    simp only [↓flS, ↓flE, ↓flO, ↓flI, ↓flQ, List.getElem?_cons_zero, List.getElem?_cons_succ, isiStr h, isStr, Bool.not_false, isD_bl, isWord, shortD]
    rfl
/-! ### shapes -/
theorem cases_tup (d : D) : (∃ ds, d = .tup ds) ∨ isTup d = false := by
  cases d with
  | tup ds => exact .inl ⟨ds, rfl⟩
  | _ => exact .inr rfl
theorem canW_atomE {n : Nat} {d : D} (h : isTup d = false) : canW n d = atomOk d := by
  cases d with
  | tup ds => cases h
  | _ => cases n <;> rfl
theorem short_atom {d : D} (h : Pl d = true) (hw : wt d ≤ 1000000) : (isWord d && shortD 1000000 d) = isWord d := by
  cases d with
  | str x =>
    rw [wt_str] at hw
    rw [show shortD 1000000 (.str x) = true from decide_eq_true (by omega), Bool.and_true]
  | _ => rfl
theorem pow6 : ((0 : Int) ≤ 6 ∧ (Builtin.Int.intBits 10 : Int) * 6 ≤ 2 ^ 27) = True := eq_true (powOk 6 (by decide))
theorem canbe_E : ∀ (n i : Nat) {d : D} {μ : Mu}, Pl d = true → wt d ≤ 1000000 → (gs cI cP cE (i + n + 2)).can_be_written [d, .int (n : Nat)] μ = .ok (.bl (canW n d)) μ := by
  intro n
  induction n with
  | zero =>
    intro i d μ h hw
    refine W.eqD (runK_W ?_)
    show W (G_can_be_written _ _ _ [some d, some (.int (0 : Nat)), none] μ) _
    unfold G_can_be_written
    rcases cases_tup d with ⟨ds, rfl⟩ | ht
    · simp only [↓flS, ↓flE, ↓flO, ↓flI, ↓flQ, List.getElem?_cons_zero, List.getElem?_cons_succ, isiTup h, isTup, Bool.not_true, isD_bl]
      exact ⟨fun z => (by cases z), fun _ => rfl⟩
    · simp only [↓flS, ↓flE, ↓flO, ↓flI, ↓flQ, List.getElem?_cons_zero, List.getElem?_cons_succ, isiTup h, ht, Bool.not_false, int_E h, word_E h hw, canW_atomE ht, atomOk, isD_bl, br_B]
      cases isN d <;> cases isInt d <;> rfl
  | succ n ih =>
    intro i d μ h hw
    refine W.eqD (runK_W ?_)
    show W (G_can_be_written _ _ _ [some d, some (.int ((n + 1 : Nat) : Int)), none] μ) _
    unfold G_can_be_written
    rcases cases_tup d with ⟨ds, rfl⟩ | ht
    · simp only [↓flS, ↓flE, ↓flO, ↓flI, ↓flQ, List.getElem?_cons_zero, List.getElem?_cons_succ, isiTup h, isTup, Bool.not_true, isD_bl]
      have hl := len_wt ds
      rw [wt_tup] at hw
      rw [pl_tup] at h
      refine ⟨fun _ => ?_, fun z => absurd (of_decide_eq_false z) (by omega)⟩
      rw [all_W (canW n)]
      · rw [isD_bl]; rfl
      · intro x hx
        refine ⟨_, rfl, ?_⟩
        refine ev_call (eva_2 (ev_var rfl) (ev_bin (ev_var rfl) ev_c rfl)) ?_
        rw [show ((n + 1 : Nat) : Int) - 1 = (n : Nat) by omega]
        exact ih i (plL_mem h hx) (by have := wt_mem hx; omega)
      · exact sz2 (by omega)
    · simp only [↓flS, ↓flE, ↓flO, ↓flI, ↓flQ, List.getElem?_cons_zero, List.getElem?_cons_succ, isiTup h, ht, Bool.not_false, int_E h, word_E h hw, canW_atomE ht, atomOk, isD_bl, br_B]
      cases isN d <;> cases isInt d <;> rfl
theorem text_E : ∀ (n i : Nat) {d : D} {μ : Mu}, Pl d = true → wt d ≤ 1000000 → (gs cI cP cE (i + n + 2))._law_has_text [d, .int (n : Nat)] μ = .ok (.bl (canW n d)) μ := by
  have t6 : Int.toNat 6 = 6 := rfl
  have e6 : (10 : Int) ^ 6 = ((1000000 : Nat) : Int) := by decide
  intro n
  induction n with
  | zero =>
    intro i d μ h hw
    refine W.eqD (runK_W ?_)
    show W (G__law_has_text _ _ _ [some d, some (.int (0 : Nat)), none] μ) _
    unfold G__law_has_text
    rcases cases_tup d with ⟨ds, rfl⟩ | ht
    · simp only [↓flS, ↓flE, ↓flO, ↓flI, ↓flQ, List.getElem?_cons_zero, List.getElem?_cons_succ, isiTup h, isTup, Bool.not_true, isD_bl]
      exact ⟨fun z => (by cases z), fun _ => rfl⟩
    · simp only [↓flS, ↓flE, ↓flO, ↓flI, ↓flQ, List.getElem?_cons_zero, List.getElem?_cons_succ, isiTup h, ht, Bool.not_false, lint_E h, pow6, t6, e6, true_and, letters_E h hw, short_atom h hw, canW_atomE ht, atomOk, isD_bl, br_B]
      cases isN d <;> cases isInt d <;> rfl
  | succ n ih =>
    intro i d μ h hw
    refine W.eqD (runK_W ?_)
    show W (G__law_has_text _ _ _ [some d, some (.int ((n + 1 : Nat) : Int)), none] μ) _
    unfold G__law_has_text
    rcases cases_tup d with ⟨ds, rfl⟩ | ht
    · simp only [↓flS, ↓flE, ↓flO, ↓flI, ↓flQ, List.getElem?_cons_zero, List.getElem?_cons_succ, isiTup h, isTup, Bool.not_true, isD_bl]
      have hl := len_wt ds
      rw [wt_tup] at hw
      rw [pl_tup] at h
      refine ⟨fun _ => ?_, fun z => absurd (of_decide_eq_false z) (by omega)⟩
      rw [filt_W (canW n)]
      · refine ⟨sz (by simp), ?_⟩
        rw [(eq_nilL _ _).1, W_ok, filt_all, isD_bl]; rfl
      · intro x hx
        refine ⟨_, rfl, ?_, ev_var rfl⟩
        refine evb_not (evb_tru (ev_call (eva_2 (ev_var rfl) (ev_bin (ev_var rfl) ev_c rfl)) ?_))
        rw [show ((n + 1 : Nat) : Int) - 1 = (n : Nat) by omega]
        exact ih i (plL_mem h hx) (by have := wt_mem hx; omega)
      · exact sz2 (by omega)
    · simp only [↓flS, ↓flE, ↓flO, ↓flI, ↓flQ, List.getElem?_cons_zero, List.getElem?_cons_succ, isiTup h, ht, Bool.not_false, lint_E h, pow6, t6, e6, true_and, letters_E h hw, short_atom h hw, canW_atomE ht, atomOk, isD_bl, br_B]
      cases isN d <;> cases isInt d <;> rfl
end K49
/-! the checks compute the form: stands -/
namespace K49
open PySem PySem.Spec PyProof.Rows L2 FL
set_option autoImplicit false
variable {cI cP cE : Addr}
/-- the end of a loop's body: it goes on, or returns r -/
def IsP (b : Bool) (ρ : Rho) (r : D) (μ : Mu) (o : Ot) (μ' : Mu) : Prop := μ' = μ ∧ o = cond b (.nx ρ) (.rt r)
theorem isP_rt (b : Bool) (ρ : Rho) (r : D) (μ : Mu) : IsP b ρ r μ (.rt r) μ = (false = b) := by cases b <;> simp [IsP]
theorem isP_nx (b : Bool) (ρ : Rho) (r : D) (μ : Mu) : IsP b ρ r μ (.nx ρ) μ = (true = b) := by cases b <;> simp [IsP]
theorem loopF_W {T : FT} {G : FS} {ρ : Rho} {μ : Mu} {ds : List D} {Q : Ot → Mu → Prop} (p : D → Bool) (r : D) (I : Rho → Prop) (h : ∀ d ∈ ds, ∀ ρ, I ρ → ∃ ρ1, T d ρ = some ρ1 ∧ I ρ1 ∧ W (G ρ1 μ) (IsP (p d) ρ1 r μ)) (hI : I ρ)
    (q1 : ds.all p = false → Q (.rt r) μ) (q2 : ds.all p = true → ∀ ρ', I ρ' → Q (.nx ρ') μ) : W (gLoop T G ds ρ μ) Q := by
  have e : ds.any (fun d => !p d) = !ds.all p := List.not_all_eq_any_not.symm
  refine loopAny_W (fun d => !p d) r I (fun d hd ρ hρ => ?_) hI (fun z => q1 ?_) fun z => q2 ?_
  · obtain ⟨ρ1, e1, e2, e3⟩ := h d hd ρ hρ
    obtain ⟨o, μ', e4, e5, e6⟩ := e3.ex
    subst e5
    refine ⟨ρ1, e1, fun z => ?_, fun z => ⟨ρ1, ?_, e2⟩⟩
    · rw [e4, e6]; simp at z; rw [z]; rfl
    · rw [e4, e6]; simp at z; rw [z]; rfl
  · rw [e] at z; simpa using z
  · rw [e] at z; simpa using z
theorem decN (a b : Nat) : decide ((a : Int) = (b : Int)) = decide (a = b) := decide_eq_decide.mpr (by omega)
theorem decLe (a b : Nat) : decide ((a : Int) ≤ (b : Int)) = decide (a ≤ b) := decide_eq_decide.mpr (by omega)
theorem mul_sz {ds : List D} (h : wt (.tup ds) ≤ 1000000) : ds.length ≤ sizeLine := by
  have := len_wt ds
  rw [wt_tup] at h
  exact sz2 (by omega)
theorem tup_in {ds : List D} {x : D} (h : wt (.tup ds) ≤ 1000000) (p : Pl (.tup ds) = true) (hx : x ∈ ds) : Pl x = true ∧ wt x ≤ 1000000 := by
  rw [wt_tup] at h
  rw [pl_tup] at p
  exact ⟨plL_mem p hx, by have := wt_mem hx; omega⟩
theorem rowOf_no {n : Nat} {d : D} (h : isTup d = false) : rowOf n d = false := by
  cases d with
  | tup ds => cases h
  | _ => rfl
theorem rows_E {i : Nat} {d : D} {μ : Mu} (h : Pl d = true) (hw : wt d ≤ 1000000) : (gs cI cP cE (i + 2)).are_rows [d] μ = .ok (.bl (rowsD d)) μ := by
  refine W.eqD (runK_W ?_)
  show W (G_are_rows _ [some d, none, none] μ) _
  unfold G_are_rows
  rcases cases_tup d with ⟨ds, rfl⟩ | ht
  · refine guard_W (!(decide (1 ≤ ds.length) && decide (ds.length ≤ 13))) ?_ (fun e => ?_) fun e => ?_
    · simp only [↓flS, ↓flE, ↓flO, ↓flI, ↓flQ, List.getElem?_cons_zero, List.getElem?_cons_succ, isiTup h, isTup, Bool.not_true, isB_eq, br_B]
      have e1 := decLe 1 ds.length
      have e2 := decLe ds.length 13
      rw [show ((12 : Int) + 1) = ((13 : Nat) : Int) from rfl, e2, show (1 : Int) = ((1 : Nat) : Int) from rfl, e1]
      cases decide (1 ≤ ds.length) <;> cases decide (ds.length ≤ 13) <;> rfl
    · show IsD _ _ _ _
      rw [Bool.not_eq_true'] at e
      rw [isD_bl, rowsD, e, Bool.false_and]
    · have eb : rowsD (.tup ds) = ds.all (rowOf ds.length) := by
        rw [rowsD]
        rw [Bool.not_eq_false'] at e
        rw [e, Bool.true_and]
      rw [eb]
      simp only [↓flS, ↓flE, ↓flI, List.getElem?_cons_zero]
      refine loopF_W (rowOf ds.length) (.bl false) (fun ρ => ∃ o o2, ρ = [some (.tup ds), o, o2]) ?_ ⟨_, _, rfl⟩ (fun z => ?_) fun z ρ' hρ => ?_
      · rintro x hx _ ⟨o, o2, rfl⟩
        obtain ⟨px, wx⟩ := tup_in hw h hx
        refine ⟨_, rfl, ⟨_, _, rfl⟩, ?_⟩
        rcases cases_tup x with ⟨is, rfl⟩ | ht
        · simp only [↓flS, ↓flE, ↓flO, ↓flI, ↓flQ, List.getElem?_cons_zero, List.getElem?_cons_succ, List.set_cons_zero, List.set_cons_succ, isiTup px, isTup, Bool.not_true, wipeR]
          rw [all_W isInt]
          · simp only [↓flE, isP_rt, isP_nx, br_B, decN, rowOf]
            cases decide (is.length = ds.length) <;> cases is.all isInt <;> rfl
          · intro y hy
            exact ⟨_, rfl, ev_call (eva_1 (ev_var rfl)) (int_E (tup_in wx px hy).1)⟩
          · exact mul_sz wx
        · simp only [↓flS, ↓flE, ↓flO, ↓flI, ↓flQ, List.getElem?_cons_zero, List.getElem?_cons_succ, List.set_cons_zero, List.set_cons_succ, isiTup px, ht, Bool.not_false, isP_rt, rowOf_no ht]
      · simp only [↓flS, isD_bl, z]
      · simp only [↓flS, ↓flE, isD_bl, z]
  · have e : rowsD d = false := by
      cases d with
      | tup ds => cases ht
      | _ => rfl
    simp only [↓flS, ↓flE, ↓flO, ↓flI, ↓flQ, List.getElem?_cons_zero, List.getElem?_cons_succ, isiTup h, ht, Bool.not_false, isD_bl, e]
theorem standD_no {d : D} (h : isTup d = false) : standD d = false := by
  cases d with
  | tup ds => cases h
  | _ => rfl
theorem standD_len {ds : List D} (h : ds.length ≠ 4) : standD (.tup ds) = false := by
  match ds, h with
  | [], _ => rfl
  | [_], _ => rfl
  | [_, _], _ => rfl
  | [_, _, _], _ => rfl
  | [_, _, _, _], h => exact absurd rfl h
  | _ :: _ :: _ :: _ :: _ :: _, _ => rfl
theorem four_of {ds : List D} (h : ds.length = 4) : ∃ a b c r, ds = [a, b, c, r] := by
  match ds, h with
  | [a, b, c, r], _ => exact ⟨a, b, c, r, rfl⟩
theorem isTupI_no {d : D} (h : isTup d = false) : isTupI d = false := by
  cases d with
  | tup ds => cases h
  | _ => rfl
theorem stand_E {i : Nat} {d : D} {μ : Mu} (h : Pl d = true) (hw : wt d ≤ 1000000) : (gs cI cP cE (i + 23)).has_stand_form [d] μ = .ok (.bl (standD d)) μ := by
  refine W.eqD (runK_W ?_)
  show W (G_has_stand_form _ _ _ [some d, none, none, none, none] μ) _
  unfold G_has_stand_form
  rcases cases_tup d with ⟨ds, rfl⟩ | ht
  · refine guard_W (!(decide (ds.length = 4) && canW 20 (.tup ds))) ?_ (fun e => ?_) fun e => ?_
    · have ce := canbe_E (cI := cI) (cP := cP) (cE := cE) 20 i (μ := μ) h hw
      simp only [↓flS, ↓flE, ↓flO, ↓flI, ↓flQ, List.getElem?_cons_zero, List.getElem?_cons_succ, isiTup h, isTup, Bool.not_true, isB_eq, br_B]
      rw [show ((20 : Int)) = ((20 : Nat) : Int) from rfl, ce]
      simp only [↓flE, isB_eq, br_B]
      rw [show ((4 : Int)) = ((4 : Nat) : Int) from rfl, decN]
      cases decide (ds.length = 4) <;> cases canW 20 (.tup ds) <;> rfl
    · show IsD _ _ _ _
      rw [isD_bl]
      by_cases hl : ds.length = 4
      · obtain ⟨a, b, c, r, rfl⟩ := four_of hl
        simp only [List.length_cons, List.length_nil, decide_true, Bool.true_and, Bool.not_eq_true'] at e
        rw [standD, e, Bool.false_and, Bool.false_and]
      · rw [standD_len hl]
    · rw [Bool.not_eq_false', Bool.and_eq_true, decide_eq_true_eq] at e
      obtain ⟨hl, hc⟩ := e
      obtain ⟨a, b, c, r, rfl⟩ := four_of hl
      have pc := tup_in hw h (x := c) (by simp)
      have pr := tup_in hw h (x := r) (by simp)
      have eT : tgStar 3 (tgCons (tgN 1) (tgCons (tgN 2) (tgCons (tgN 3) tgNil))) (.tup [a, b, c, r]) [some (.tup [a, b, c, r]), none, none, none, none] = some [some (.tup [a, b, c, r]), some (.lst [a, b]), some c, some r, none] := rfl
      simp only [↓flS, ↓flE, W_set, List.getElem?_cons_zero, eT, setR_some]
      rw [standD, hc, Bool.true_and]
      rcases cases_tup c with ⟨cs, rfl⟩ | ht
      · simp only [↓flS, ↓flE, ↓flO, ↓flI, ↓flQ, List.getElem?_cons_zero, List.getElem?_cons_succ, List.set_cons_zero, List.set_cons_succ, isiTup pc.1, isTup, wipeR]
        rw [all_W isInt]
        · simp only [↓flE, rows_E pr.1 pr.2, isD_bl, br_B, isTupI]
          cases cs.all isInt <;> rfl
        · intro y hy
          exact ⟨_, rfl, ev_call (eva_1 (ev_var rfl)) (int_E (tup_in pc.2 pc.1 hy).1)⟩
        · exact mul_sz pc.2
      · simp only [↓flS, ↓flE, ↓flO, ↓flI, ↓flQ, List.getElem?_cons_zero, List.getElem?_cons_succ, List.set_cons_zero, List.set_cons_succ, isiTup pc.1, ht, isD_bl, isTupI_no ht, Bool.false_and]
  · simp only [↓flS, ↓flE, ↓flO, ↓flI, ↓flQ, List.getElem?_cons_zero, List.getElem?_cons_succ, isiTup h, ht, Bool.not_false, isD_bl, standD_no ht]
theorem standsD_no {d : D} (h : isTup d = false) : standsD d = false := by
  cases d with
  | tup ds => cases h
  | _ => rfl
theorem stands_E {i : Nat} {d : D} {μ : Mu} (h : Pl d = true) (hw : wt d ≤ 1000000) : (gs cI cP cE (i + 24)).are_stand_forms [d] μ = .ok (.bl (standsD d)) μ := by
  refine W.eqD (runK_W ?_)
  show W (G_are_stand_forms _ [some d, none] μ) _
  unfold G_are_stand_forms
  rcases cases_tup d with ⟨ds, rfl⟩ | ht
  · simp only [↓flS, ↓flE, ↓flO, ↓flI, ↓flQ, List.getElem?_cons_zero, List.getElem?_cons_succ, List.set_cons_zero, List.set_cons_succ, isiTup h, isTup, wipeR]
    rw [all_W standD]
    · simp only [↓flE, isD_bl, standsD]
    · intro y hy
      have py := tup_in hw h hy
      exact ⟨_, rfl, ev_call (eva_1 (ev_var rfl)) (stand_E py.1 py.2)⟩
    · exact mul_sz hw
  · simp only [↓flS, ↓flE, ↓flO, ↓flI, ↓flQ, List.getElem?_cons_zero, List.getElem?_cons_succ, isiTup h, ht, isD_bl, standsD_no ht]
/-! ### the law's own -/
theorem at4 {a b c d : D} : atI [a, b, c, d] 0 = some a ∧ atI [a, b, c, d] 1 = some b ∧ atI [a, b, c, d] 2 = some c ∧ atI [a, b, c, d] 3 = some d := ⟨rfl, rfl, rfl, rfl⟩
theorem lstand_E {i : Nat} {d : D} {μ : Mu} (h : Pl d = true) (hw : wt d ≤ 1000000) : (gs cI cP cE (i + 23))._law_is_stand [d] μ = .ok (.bl (standD d)) μ := by
  refine W.eqD (runK_W ?_)
  show W (G__law_is_stand _ _ [some d, none, none, none] μ) _
  unfold G__law_is_stand
  rcases cases_tup d with ⟨ds, rfl⟩ | ht
  · refine guard_W (!(decide (ds.length = 4) && canW 20 (.tup ds))) ?_ (fun e => ?_) fun e => ?_
    · have ce := text_E (cI := cI) (cP := cP) (cE := cE) 20 i (μ := μ) h hw
      simp only [↓flS, ↓flE, ↓flO, ↓flI, ↓flQ, List.getElem?_cons_zero, List.getElem?_cons_succ, isiTup h, isTup, Bool.not_true, isB_eq, br_B]
      rw [show ((20 : Int)) = ((20 : Nat) : Int) from rfl, ce]
      simp only [↓flE, isB_eq, br_B]
      rw [show ((4 : Int)) = ((4 : Nat) : Int) from rfl, decN]
      cases decide (ds.length = 4) <;> cases canW 20 (.tup ds) <;> rfl
    · show IsD _ _ _ _
      rw [isD_bl]
      by_cases hl : ds.length = 4
      · obtain ⟨a, b, c, r, rfl⟩ := four_of hl
        simp only [List.length_cons, List.length_nil, decide_true, Bool.true_and, Bool.not_eq_true'] at e
        rw [standD, e, Bool.false_and, Bool.false_and]
      · rw [standD_len hl]
    · rw [Bool.not_eq_false', Bool.and_eq_true, decide_eq_true_eq] at e
      obtain ⟨hl, hc⟩ := e
      obtain ⟨a, b, c, r, rfl⟩ := four_of hl
      have pc := tup_in hw h (x := c) (by simp)
      have pr := tup_in hw h (x := r) (by simp)
      rw [standD, hc, Bool.true_and]
      refine guard_W (!isTupI c) ?_ (fun e => ?_) fun e => ?_
      · rcases cases_tup c with ⟨cs, rfl⟩ | ht
        · simp only [↓flS, ↓flE, ↓flO, ↓flI, ↓flQ, List.getElem?_cons_zero, List.getElem?_cons_succ, at4, isiTup pc.1, isTup, Bool.not_true, wipeR]
          rw [filt_W isInt]
          · refine ⟨sz (by simp), ?_⟩
            rw [(eq_nilL _ _).2, W_ok]
            simp only [↓flE, isB_eq, filt_all, isTupI]
          · intro y hy
            exact ⟨_, rfl, evb_not (evb_tru (ev_call (eva_1 (ev_var rfl)) (lint_E (tup_in pc.2 pc.1 hy).1))), ev_var rfl⟩
          · exact mul_sz pc.2
        · simp only [↓flS, ↓flE, ↓flO, ↓flI, ↓flQ, List.getElem?_cons_zero, List.getElem?_cons_succ, at4, isiTup pc.1, ht, Bool.not_false, isB_eq, isTupI_no ht]
      · show IsD _ _ _ _
        rw [Bool.not_eq_true'] at e
        rw [isD_bl, e, Bool.false_and]
      · rw [Bool.not_eq_false'] at e
        rw [e, Bool.true_and]
        refine seq_cut (fun o μ' => o = .nx [some (.tup [a, b, c, r]), none, some r, none] ∧ μ' = μ) ?_ ?_
        · simp only [↓flS, ↓flE, ↓flO, W_set, List.getElem?_cons_zero, at4, List.set_cons_zero, List.set_cons_succ, setR_some, and_self]
        rintro o μ' ⟨rfl, rfl⟩
        rw [kS_nx]
        rcases cases_tup r with ⟨rs, rfl⟩ | ht
        · refine guard_W (!(decide (1 ≤ rs.length) && decide (rs.length ≤ 13))) ?_ (fun e => ?_) fun e => ?_
          · simp only [↓flS, ↓flE, ↓flO, ↓flI, ↓flQ, List.getElem?_cons_zero, List.getElem?_cons_succ, isiTup pr.1, isTup, Bool.not_true, isB_eq, br_B]
            have e1 := decLe 1 rs.length
            have e2 := decLe rs.length 13
            rw [show (13 : Int) = ((13 : Nat) : Int) from rfl, e2, show (1 : Int) = ((1 : Nat) : Int) from rfl, e1]
            cases decide (1 ≤ rs.length) <;> cases decide (rs.length ≤ 13) <;> rfl
          · show IsD _ _ _ _
            rw [Bool.not_eq_true'] at e
            rw [isD_bl, rowsD, e, Bool.false_and]
          · have eb : rowsD (.tup rs) = rs.all (rowOf rs.length) := by
              rw [rowsD]
              rw [Bool.not_eq_false'] at e
              rw [e, Bool.true_and]
            rw [eb]
            simp only [↓flS, ↓flE, ↓flI, List.getElem?_cons_zero, List.getElem?_cons_succ]
            refine loopF_W (rowOf rs.length) (.bl false) (fun ρ => ∃ o o2 o3, ρ = [o, o2, some (.tup rs), o3]) ?_ ⟨_, _, _, rfl⟩ (fun z => ?_) fun z ρ' hρ => ?_
            · rintro x hx _ ⟨o, o2, o3, rfl⟩
              obtain ⟨px, wx⟩ := tup_in pr.2 pr.1 hx
              refine ⟨_, rfl, ⟨_, _, _, rfl⟩, ?_⟩
              rcases cases_tup x with ⟨is, rfl⟩ | ht
              · simp only [↓flS, ↓flE, ↓flO, ↓flI, ↓flQ, List.getElem?_cons_zero, List.getElem?_cons_succ, List.set_cons_zero, List.set_cons_succ, isiTup px, isTup, Bool.not_true, wipeR]
                rw [filt_W isInt]
                · simp only [(eq_nilL _ _).2, ↓flE, isP_rt, isP_nx, br_B, decN, rowOf, filt_all, List.length_nil, Nat.zero_le, true_and]
                  cases decide (is.length = rs.length) <;> cases is.all isInt <;> rfl
                · intro y hy
                  exact ⟨_, rfl, evb_not (evb_tru (ev_call (eva_1 (ev_var rfl)) (lint_E (tup_in wx px hy).1))), ev_var rfl⟩
                · exact mul_sz wx
              · simp only [↓flS, ↓flE, ↓flO, ↓flI, ↓flQ, List.getElem?_cons_zero, List.getElem?_cons_succ, List.set_cons_zero, List.set_cons_succ, isiTup px, ht, Bool.not_false, isP_rt, rowOf_no ht]
            · simp only [↓flS, isD_bl, z]
            · simp only [↓flS, ↓flE, isD_bl, z]
        · have e : rowsD r = false := by
            cases r with
            | tup ds => cases ht
            | _ => rfl
          simp only [↓flS, ↓flE, ↓flO, ↓flI, ↓flQ, List.getElem?_cons_zero, List.getElem?_cons_succ, isiTup pr.1, ht, Bool.not_false, isD_bl, e]
  · simp only [↓flS, ↓flE, ↓flO, ↓flI, ↓flQ, List.getElem?_cons_zero, List.getElem?_cons_succ, isiTup h, ht, Bool.not_false, isD_bl, standD_no ht]
theorem lstands_E {i : Nat} {d : D} {μ : Mu} (h : Pl d = true) (hw : wt d ≤ 1000000) : (gs cI cP cE (i + 24))._law_are_stands [d] μ = .ok (.bl (standsD d)) μ := by
  refine W.eqD (runK_W ?_)
  show W (G__law_are_stands _ [some d, none] μ) _
  unfold G__law_are_stands
  rcases cases_tup d with ⟨ds, rfl⟩ | ht
  · simp only [↓flS, ↓flE, ↓flO, ↓flI, ↓flQ, List.getElem?_cons_zero, List.getElem?_cons_succ, List.set_cons_zero, List.set_cons_succ, isiTup h, isTup, wipeR]
    rw [filt_W standD]
    · simp only [(eq_nilL _ _).1, ↓flE, isD_bl, standsD, filt_all, List.length_nil, Nat.zero_le, true_and]
    · intro y hy
      have py := tup_in hw h hy
      exact ⟨_, rfl, evb_not (evb_tru (ev_call (eva_1 (ev_var rfl)) (lstand_E py.1 py.2))), ev_var rfl⟩
    · exact mul_sz hw
  · simp only [↓flS, ↓flE, ↓flO, ↓flI, ↓flQ, List.getElem?_cons_zero, List.getElem?_cons_succ, isiTup h, ht, isD_bl, standsD_no ht]
end K49
/-! the checks compute the form: events, papers -/
namespace K49
open PySem PySem.Spec PyProof.Rows L2 FL
set_option autoImplicit false
variable {cI cP cE : Addr}
theorem inT_strs {x : Str} {xs : List Str} {neg : Bool} {μ : Mu} : gIn neg (.str x) (.tup (xs.map .str)) μ = .ok (.bl (neg ^^ decide (x ∈ xs))) μ := by
  rw [← inV_strs]
  unfold gIn
  have e : inD (.str x) (.tup (xs.map .str)) = some (inV (.str x) (xs.map V.str)) := by
    show (match (D.str x).sc, (D.tup (xs.map .str)).items.bind scL with
      | some x, some vs => some (inV x vs)
      | _, _ => none) = _
    rw [show (D.tup (xs.map .str)).items.bind scL = scL (xs.map .str) from rfl, scL_strs]
    rfl
  rw [e]
theorem cases_str (d : D) : (∃ x, d = .str x) ∨ isStr d = false := by
  cases d with
  | str x => exact .inl ⟨x, rfl⟩
  | _ => exact .inr rfl
theorem cases_int (d : D) : (∃ x, d = .int x) ∨ isInt d = false := by
  cases d with
  | int x => exact .inl ⟨x, rfl⟩
  | _ => exact .inr rfl
theorem nameD_no {d : D} (h : isStr d = false) : nameD d = false := by
  cases d with
  | str ds => cases h
  | _ => rfl
theorem letterD_no {d : D} (h : isStr d = false) : letterD d = false := by
  cases d with
  | str ds => cases h
  | _ => rfl
theorem timeD_no {d : D} (h : isInt d = false) : timeD d = false := by
  cases d with
  | int i =>
    have m0 : (0 : Int) ≤ MX := by decide
    simp only [isInt, Bool.and_eq_false_iff, decide_eq_false_iff_not] at h
    simp only [timeD, Bool.and_eq_false_iff, decide_eq_false_iff_not]
    omega
  | _ => rfl
theorem timeD_int (i : Int) : (isInt (.int i) && decide (0 ≤ i)) = timeD (.int i) := by
  have m0 : (0 : Int) ≤ MX := by decide
  rw [Bool.eq_iff_iff]
  simp only [isInt, timeD, Bool.and_eq_true, decide_eq_true_eq]
  omega
theorem time_E {i : Nat} {d : D} {μ : Mu} (h : Pl d = true) : (gs cI cP cE (i + 2)).is_time [d] μ = .ok (.bl (timeD d)) μ := by
  refine W.eqD (runK_W ?_)
  show W (G_is_time _ [some d] μ) _
  unfold G_is_time
  simp only [↓flS, ↓flE, ↓flO, ↓flI, ↓flQ, List.getElem?_cons_zero, int_E h]
  rcases cases_int d with ⟨x, rfl⟩ | hi
  · simp only [↓flO, isD_bl, br_B]
    rw [← timeD_int]
    cases isInt (.int x) <;> rfl
  · simp only [hi, br_f, isD_bl, timeD_no hi]
theorem letter_E {i : Nat} {d : D} {μ : Mu} (h : Pl d = true) (hw : wt d ≤ 1000000) : (gs cI cP cE (i + 1)).is_letter [d] μ = .ok (.bl (letterD d)) μ := by
  refine W.eqD (runK_W ?_)
  show W (G_is_letter [some d] μ) _
  unfold G_is_letter
  simp only [↓flS, ↓flE, ↓flO, ↓flI, ↓flQ, List.getElem?_cons_zero, isiStr h]
  rcases cases_str d with ⟨x, rfl⟩ | hs
  · rw [wt_str] at hw
    have hz : x.length ≤ sizeLine := sz2 (by omega)
    simp only [isStr, br_t, ↓flO, ↓flE, ↓flQ, hz, true_and, isD_bl]
    rw [show (1 : Int) = ((1 : Nat) : Int) from rfl, decN, letterD]
    refine ⟨fun h1 => ?_, fun h1 => by rw [h1]; rfl⟩
    have l1 := of_decide_eq_true h1
    obtain ⟨c, rfl⟩ : ∃ c, x = ⟨#[c]⟩ := by
      obtain ⟨c, e⟩ := List.length_eq_one_iff.mp (show x.cps.toList.length = 1 by rw [Array.length_toList]; exact l1)
      exact ⟨c, TL.ext_tl e⟩
    have := (in_abc c μ).1
    rw [show D.str ⟨#[c]⟩ = sign c from rfl, this, W_ok, isD_bl, h1, Bool.true_and]
    simp [lows]
  · simp only [hs, br_f, isD_bl, letterD_no hs]
theorem name_E {i : Nat} {d : D} {μ : Mu} (h : Pl d = true) (hw : wt d ≤ 1000000) : (gs cI cP cE (i + 1)).is_name [d] μ = .ok (.bl (nameD d)) μ := by
  refine W.eqD (runK_W ?_)
  show W (G_is_name [some d, none] μ) _
  unfold G_is_name
  rcases cases_str d with ⟨x, rfl⟩ | hs
  · rw [wt_str] at hw
    have hz : x.length ≤ sizeLine := sz2 (by omega)
    refine guard_W (!(decide (1 ≤ x.length) && decide (x.length ≤ 8))) ?_ (fun e => ?_) fun e => ?_
    · simp only [↓flS, ↓flE, ↓flO, ↓flI, ↓flQ, List.getElem?_cons_zero, List.getElem?_cons_succ, isiStr h, isStr, Bool.not_true, hz, true_and, isB_eq, br_B]
      have e1 := decLe 1 x.length
      have e2 := decLe x.length 8
      rw [show ((8 : Int)) = ((8 : Nat) : Int) from rfl, e2, show (1 : Int) = ((1 : Nat) : Int) from rfl, e1]
      cases decide (1 ≤ x.length) <;> cases decide (x.length ≤ 8) <;> rfl
    · show IsD _ _ _ _
      rw [Bool.not_eq_true'] at e
      rw [isD_bl, nameD, nameS, e, Bool.false_and, Bool.false_and]
    · rw [Bool.not_eq_false'] at e
      simp only [↓flS, ↓flE, ↓flI, List.getElem?_cons_zero]
      have el : (x.cps.toList.map sign).all lowD = lows x := lowD_all x
      refine loopF_W lowD (.bl false) (fun ρ => ∃ o, ρ = [some (.str x), o]) ?_ ⟨_, rfl⟩ (fun z => ?_) fun z ρ' hρ => ?_
      · rintro y hy _ ⟨o, rfl⟩
        obtain ⟨c, hc, rfl⟩ := List.mem_map.mp hy
        refine ⟨_, rfl, ⟨_, rfl⟩, ?_⟩
        simp only [↓flS, ↓flE, ↓flO, ↓flI, List.getElem?_cons_zero, List.getElem?_cons_succ, List.set_cons_zero, List.set_cons_succ, (in_abc c μ).2, lowD_sign, isP_rt, isP_nx, br_B]
        cases low c <;> rfl
      · rw [el] at z
        simp only [↓flS, isD_bl, nameD, nameS, z, Bool.and_false, Bool.false_and]
      · rw [el] at z
        obtain ⟨o, rfl⟩ := hρ
        simp only [↓flS, ↓flE, List.getElem?_cons_zero]
        unfold wordsD
        rw [inT_strs, W_ok, isD_bl, nameD, nameS, e, z]
        simp
  · simp only [↓flS, ↓flE, ↓flO, ↓flI, ↓flQ, List.getElem?_cons_zero, List.getElem?_cons_succ, isiStr h, hs, Bool.not_false, isD_bl, nameD_no hs]
theorem eventD_no {d : D} (h : isTup d = false) : eventD d = false := by
  cases d with
  | tup ds => cases h
  | _ => rfl
theorem eventD_len {ds : List D} (h : ds.length ≠ 4) : eventD (.tup ds) = false := by
  match ds, h with
  | [], _ => rfl
  | [_], _ => rfl
  | [_, _], _ => rfl
  | [_, _, _], _ => rfl
  | [_, _, _, _], h => exact absurd rfl h
  | _ :: _ :: _ :: _ :: _ :: _, _ => rfl
theorem event_E {i : Nat} {d : D} {μ : Mu} (h : Pl d = true) (hw : wt d ≤ 1000000) : (gs cI cP cE (i + 3)).is_event [d] μ = .ok (.bl (eventD d)) μ := by
  refine W.eqD (runK_W ?_)
  show W (G_is_event _ _ _ _ [some d] μ) _
  unfold G_is_event
  rcases cases_tup d with ⟨ds, rfl⟩ | ht
  · refine guard_W (!decide (ds.length = 4)) ?_ (fun e => ?_) fun e => ?_
    · simp only [↓flS, ↓flE, ↓flO, ↓flI, ↓flQ, List.getElem?_cons_zero, List.getElem?_cons_succ, isiTup h, isTup, Bool.not_true, isB_eq]
      rw [show ((4 : Int)) = ((4 : Nat) : Int) from rfl, decN]
    · show IsD _ _ _ _
      rw [Bool.not_eq_true', decide_eq_false_iff_not] at e
      rw [isD_bl, eventD_len e]
    · rw [Bool.not_eq_false', decide_eq_true_eq] at e
      obtain ⟨t, s, l, v, rfl⟩ := four_of e
      have pt := tup_in hw h (x := t) (by simp)
      have ps := tup_in hw h (x := s) (by simp)
      have pl := tup_in hw h (x := l) (by simp)
      have pv := tup_in hw h (x := v) (by simp)
      simp only [↓flS, ↓flE, ↓flO, ↓flI, ↓flQ, List.getElem?_cons_zero, at4, time_E pt.1, name_E ps.1 ps.2, letter_E pl.1 pl.2, int_E pv.1, isD_bl, br_B, eventD]
      cases timeD t <;> cases nameD s <;> cases letterD l <;> cases isInt v <;> rfl
  · simp only [↓flS, ↓flE, ↓flO, ↓flI, ↓flQ, List.getElem?_cons_zero, List.getElem?_cons_succ, isiTup h, ht, Bool.not_false, isD_bl, eventD_no ht]
theorem levent_E {i : Nat} {d : D} {μ : Mu} (h : Pl d = true) (hw : wt d ≤ 1000000) : (gs cI cP cE (i + 3))._law_is_event [d] μ = .ok (.bl (eventD d)) μ := by
  refine W.eqD (runK_W ?_)
  show W (G__law_is_event _ _ _ [some d] μ) _
  unfold G__law_is_event
  rcases cases_tup d with ⟨ds, rfl⟩ | ht
  · by_cases hl : ds.length = 4
    · obtain ⟨t, s, l, v, rfl⟩ := four_of hl
      have pt := tup_in hw h (x := t) (by simp)
      have ps := tup_in hw h (x := s) (by simp)
      have pl := tup_in hw h (x := l) (by simp)
      have pv := tup_in hw h (x := v) (by simp)
      refine guard_W (!timeD t) ?_ (fun e => ?_) fun e => ?_
      · simp only [↓flS, ↓flE, ↓flO, ↓flI, ↓flQ, List.getElem?_cons_zero, List.getElem?_cons_succ, isiTup h, isTup, Bool.not_true, isB_eq, at4, lint_E pt.1, List.length_cons, List.length_nil]
        rcases cases_int t with ⟨x, rfl⟩ | hi
        · simp only [↓flO, ↓flE, isB_eq]
          rw [← timeD_int]
          have e4 : decide (((0 + 1 + 1 + 1 + 1 : Nat) : Int) = 4) = true := by decide
          have e5 : decide (x < 0) = !decide (0 ≤ x) := by rw [← decide_not]; exact decide_eq_decide.mpr (by omega)
          rw [e4, e5]
          simp only [Bool.not_true, br_f, br_B]
          cases isInt (.int x) <;> cases decide (0 ≤ x) <;> rfl
        · simp only [hi, timeD_no hi, Bool.not_false]
          refine ⟨fun _ => trivial, fun _ => ?_⟩
          first | trivial | simp [br]
      · show IsD _ _ _ _
        rw [Bool.not_eq_true'] at e
        rw [isD_bl, eventD, e]; rfl
      · rw [Bool.not_eq_false'] at e
        refine guard_W (!nameD s) ?_ (fun e2 => ?_) fun e2 => ?_
        · have le := letters_E (cI := cI) (cP := cP) (cE := cE) (i := i + 1) (n := 8) (μ := μ) ps.1 ps.2
          have we : (gs cI cP cE (i + 2))._law_words [] μ = _ := words_eq (cI := cI) (cP := cP) (cE := cE) (i := i + 1) μ
          simp only [↓flS, ↓flE, ↓flO, ↓flI, ↓flQ, List.getElem?_cons_zero, List.getElem?_cons_succ, at4]
          rw [show (8 : Int) = ((8 : Nat) : Int) from rfl, le]
          simp only [↓flE, we]
          rcases cases_str s with ⟨x, rfl⟩ | hs
          · rw [in_strs, inV_strs]
            simp only [↓flE, isB_eq, br_B, nameD, nameS, isWord, shortD]
            cases decide (1 ≤ x.length) <;> cases lows x <;> cases decide (x.length ≤ 8) <;> cases decide (x ∈ wordsS) <;> rfl
          · have : isWord s = false := by
              cases s with
              | str x => cases hs
              | _ => rfl
            simp only [this, Bool.false_and, Bool.not_false, br_t, isB_eq, nameD_no hs]
        · show IsD _ _ _ _
          rw [Bool.not_eq_true'] at e2
          rw [isD_bl, eventD, e2, Bool.and_false]; rfl
        · rw [Bool.not_eq_false'] at e2
          have le := letters_E (cI := cI) (cP := cP) (cE := cE) (i := i + 1) (n := 1) (μ := μ) pl.1 pl.2
          simp only [↓flS, ↓flE, ↓flO, ↓flI, ↓flQ, List.getElem?_cons_zero, List.getElem?_cons_succ, at4]
          rw [show (1 : Int) = ((1 : Nat) : Int) from rfl, le]
          simp only [↓flE, lint_E pv.1, isD_bl, br_B, eventD, e, e2, Bool.true_and]
          have el : (isWord l && shortD 1 l) = letterD l := by
            cases l with
            | str x =>
              rw [Bool.eq_iff_iff]
              simp only [isWord, shortD, letterD, Bool.and_eq_true, decide_eq_true_eq]
              constructor
              · rintro ⟨⟨a, b⟩, c⟩; exact ⟨by omega, b⟩
              · rintro ⟨a, b⟩; exact ⟨⟨by omega, b⟩, by omega⟩
            | _ => rfl
          rw [el]
          cases letterD l <;> cases isInt v <;> rfl
    · refine guard_W true ?_ (fun e => ?_) fun e => by cases e
      · simp only [↓flS, ↓flE, ↓flO, ↓flI, ↓flQ, List.getElem?_cons_zero, List.getElem?_cons_succ, isiTup h, isTup, Bool.not_true, isB_eq]
        rw [show ((4 : Int)) = ((4 : Nat) : Int) from rfl, decN, decide_eq_false hl]
        simp only [Bool.not_false, br_t]
      · show IsD _ _ _ _
        rw [isD_bl, eventD_len hl]
  · simp only [↓flS, ↓flE, ↓flO, ↓flI, ↓flQ, List.getElem?_cons_zero, List.getElem?_cons_succ, isiTup h, ht, Bool.not_false, isD_bl, eventD_no ht]
end K49
/-! the checks compute the form: rows of events, papers -/
namespace K49
open PySem PySem.Spec PyProof.Rows L2 FL
set_option autoImplicit false
variable {cI cP cE : Addr}
theorem zip_W (Fs : FA) (ρ : Rho) (μ : Mu) (Q : List D → Mu → Prop) : W (fItZ Fs ρ μ) Q = W (Fs ρ μ) fun ds μ1 => W (match ds with
    | [.tup xs, .tup ys] => Rs.ok ((xs.zip ys).map fun p => D.tup [p.1, p.2]) μ1
    | [.lst xs, .lst ys] => .ok ((xs.zip ys).map fun p => .tup [p.1, p.2]) μ1
    | _ => .no) Q := W_bind _ _ _
def leD : D → Bool
  | .tup [a, b] => decide (timeOf a ≤ timeOf b)
  | _ => false
theorem zip_incr : ∀ es : List D, (((es.zip (es.drop 1)).map fun p => D.tup [p.1, p.2]).all leD) = incr (es.map timeOf)
  | [] => rfl
  | [a] => rfl
  | a :: b :: r => by
    have ih := zip_incr (b :: r)
    show (leD (.tup [a, b]) && (((b :: r).zip r).map fun p => D.tup [p.1, p.2]).all leD) = (decide (timeOf a ≤ timeOf b) && incr ((b :: r).map timeOf))
    rw [← ih]
    rfl
theorem zip_mem {es : List D} {x : D} (h : x ∈ (es.zip (es.drop 1)).map fun p => D.tup [p.1, p.2]) : ∃ a b, x = .tup [a, b] ∧ a ∈ es ∧ b ∈ es := by
  obtain ⟨⟨a, b⟩, hp, rfl⟩ := List.mem_map.mp h
  have := List.of_mem_zip hp
  exact ⟨a, b, rfl, this.1, List.mem_of_mem_drop this.2⟩
theorem eventsD_no {d : D} (h : isTup d = false) : eventsD d = false := by
  cases d with
  | tup ds => cases h
  | _ => rfl
theorem events_E {i : Nat} {d : D} {μ : Mu} (h : Pl d = true) (hw : wt d ≤ 1000000) : (gs cI cP cE (i + 4)).are_events [d] μ = .ok (.bl (eventsD d)) μ := by
  refine W.eqD (runK_W ?_)
  show W (G_are_events _ [some d, none, none] μ) _
  unfold G_are_events
  rcases cases_tup d with ⟨ds, rfl⟩ | ht
  · refine guard_W (!ds.all eventD) ?_ (fun e => ?_) fun e => ?_
    · simp only [↓flS, ↓flE, ↓flO, ↓flI, ↓flQ, List.getElem?_cons_zero, List.getElem?_cons_succ, isiTup h, isTup, Bool.not_true, wipeR, List.set_cons_zero, List.set_cons_succ]
      rw [all_W eventD]
      · simp only [↓flE, isB_eq]
      · intro y hy
        have py := tup_in hw h hy
        exact ⟨_, rfl, ev_call (eva_1 (ev_var rfl)) (event_E py.1 py.2)⟩
      · exact mul_sz hw
    · show IsD _ _ _ _
      rw [Bool.not_eq_true'] at e
      rw [isD_bl, eventsD, e, Bool.false_and]
    · rw [Bool.not_eq_false'] at e
      have ev := List.all_eq_true.mp e
      rw [eventsD, e, Bool.true_and]
      simp only [↓flS, ↓flE, ↓flI, List.getElem?_cons_zero, zip_W]
      have ez := zip_incr ds
      rw [cut_drop ds 1 (by omega), show Int.toNat 1 = 1 from rfl, W_ok]
      refine loopF_W leD (.bl false) (fun ρ => ∃ o o2, ρ = [some (.tup ds), o, o2]) ?_ ⟨_, _, rfl⟩ (fun z => ?_) fun z ρ' hρ => ?_
      · rintro x hx _ ⟨o, o2, rfl⟩
        obtain ⟨a, b, rfl, ha, hb⟩ := zip_mem hx
        obtain ⟨ta, xa, ya, va, rfl, _⟩ := event_ex (ev a ha)
        obtain ⟨tb, xb, yb, vb, rfl, _⟩ := event_ex (ev b hb)
        refine ⟨_, rfl, ⟨_, _, rfl⟩, ?_⟩
        simp only [↓flS, ↓flE, ↓flO, ↓flI, List.getElem?_cons_zero, List.getElem?_cons_succ, List.set_cons_zero, List.set_cons_succ, at4, isP_rt, isP_nx, br_B, leD, timeOf]
        have e5 : decide (tb < ta) = !decide (ta ≤ tb) := by rw [← decide_not]; exact decide_eq_decide.mpr (by omega)
        rw [e5]
        by_cases hq : ta ≤ tb <;> simp [hq]
      · rw [ez] at z
        simp only [↓flS, isD_bl, z]
      · rw [ez] at z
        simp only [↓flS, ↓flE, isD_bl, z]
  · simp only [↓flS, ↓flE, ↓flO, ↓flI, ↓flQ, List.getElem?_cons_zero, List.getElem?_cons_succ, isiTup h, ht, Bool.not_false, isD_bl, eventsD_no ht]
theorem last_E {i : Nat} {es : List D} {μ : Mu} (h : ∀ e ∈ es, eventD e = true) : (gs cI cP cE (i + 1)).last_time [.tup es] μ = .ok (.int (lastT es)) μ := by
  refine W.eqD (runK_W ?_)
  show W (G_last_time [some (.tup es)] μ) _
  unfold G_last_time
  simp only [↓flS, ↓flE, ↓flO, ↓flI, ↓flQ, List.getElem?_cons_zero]
  refine ⟨fun he => ?_, fun he => ?_⟩
  · have hne : es ≠ [] := fun z => by rw [z] at he; cases he
    obtain ⟨e, eq⟩ : ∃ e, es.getLast? = some e := ⟨es.getLast hne, List.getLast?_eq_some_getLast hne⟩
    obtain ⟨t, x, y, v, rfl, _⟩ := event_ex (h e (List.mem_of_getLast? eq))
    rw [atI_last hne, eq]
    simp only [↓flO, at4]
    refine ⟨?_, rfl⟩
    unfold lastT; rw [eq]; rfl
  · have hne : es = [] := by cases es with
      | nil => rfl
      | cons a b => cases he
    rw [hne]
    exact ⟨rfl, rfl⟩
theorem rowD_no1 {e l r : D} (h : eventsD e = false) : rowD e l r = false := by
  unfold rowD
  split
  · rw [h]; rfl
  · rfl
theorem rowD_no2 {e l r : D} (h : isInt l = false) : rowD e l r = false := by
  unfold rowD
  split
  · rw [h]; simp
  · rfl
theorem rowD_no3 {e l r : D} (h : isTup r = false) : rowD e l r = false := by
  unfold rowD
  split
  · cases h
  · rfl
theorem row_E {i : Nat} {e l r : D} {μ : Mu} (he : Pl e = true) (we : wt e ≤ 1000000) (hl : Pl l = true) (hr : Pl r = true) (wr : wt r ≤ 1000000) : (gs cI cP cE (i + 25)).has_row_form [e, l, r] μ = .ok (.bl (rowD e l r)) μ := by
  refine W.eqD (runK_W ?_)
  show W (G_has_row_form _ _ _ _ [some e, some l, some r, none] μ) _
  unfold G_has_row_form
  by_cases h1 : eventsD e = true
  · by_cases h2 : isInt l = true
    · obtain ⟨j, rfl⟩ := isInt_ex h2
      rcases cases_tup e with ⟨es, rfl⟩ | ht
      · have h1' := h1
        rw [eventsD, Bool.and_eq_true, List.all_eq_true] at h1'
        refine guard_W (!decide (lastT es ≤ j)) ?_ (fun e => ?_) fun e => ?_
        · simp only [↓flS, ↓flE, ↓flO, ↓flI, ↓flQ, List.getElem?_cons_zero, List.getElem?_cons_succ, events_E he we, int_E hl, h1, h2, Bool.not_true, last_E h1'.1, isB_eq]
          rw [← decide_not]; exact decide_eq_decide.mpr (by omega)
        · show IsD _ _ _ _
          rw [Bool.not_eq_true'] at e
          rw [isD_bl]
          symm
          cases r <;> first | rfl | (rw [rowD, e]; simp)
        · rw [Bool.not_eq_false'] at e
          rcases cases_tup r with ⟨rs, rfl⟩ | ht
          · refine guard_W (!decide (rs.length = es.length)) ?_ (fun e2 => ?_) fun e2 => ?_
            · simp only [↓flS, ↓flE, ↓flO, ↓flI, ↓flQ, List.getElem?_cons_zero, List.getElem?_cons_succ, isiTup hr, isTup, Bool.not_true, isB_eq, decN]
            · show IsD _ _ _ _
              rw [Bool.not_eq_true'] at e2
              rw [isD_bl, rowD, e2]; simp
            · rw [Bool.not_eq_false'] at e2
              rw [rowD, h1, h2, e, e2]
              simp only [↓flS, ↓flE, ↓flO, ↓flI, ↓flQ, List.getElem?_cons_zero, List.getElem?_cons_succ, wipeR, List.set_cons_zero, List.set_cons_succ]
              rw [all_W standsD]
              · simp only [isD_bl, Bool.and_self, Bool.true_and]
              · intro y hy
                have py := tup_in wr hr hy
                exact ⟨_, rfl, ev_call (eva_1 (ev_var rfl)) (stands_E py.1 py.2)⟩
              · exact mul_sz wr
          · simp only [↓flS, ↓flE, ↓flO, ↓flI, ↓flQ, List.getElem?_cons_zero, List.getElem?_cons_succ, isiTup hr, ht, Bool.not_false, isD_bl, rowD_no3 ht]
      · rw [eventsD_no ht] at h1; cases h1
    · rw [Bool.not_eq_true] at h2
      refine guard_W true ?_ (fun _ => ?_) fun z => by cases z
      · simp only [↓flS, ↓flE, ↓flO, ↓flI, ↓flQ, List.getElem?_cons_zero, List.getElem?_cons_succ, events_E he we, int_E hl, h1, h2, Bool.not_true, Bool.not_false, isB_eq]
      · show IsD _ _ _ _
        rw [isD_bl, rowD_no2 h2]
  · rw [Bool.not_eq_true] at h1
    refine guard_W true ?_ (fun _ => ?_) fun z => by cases z
    · simp only [↓flS, ↓flE, ↓flO, ↓flI, ↓flQ, List.getElem?_cons_zero, List.getElem?_cons_succ, events_E he we, h1, Bool.not_false, isB_eq]
    · show IsD _ _ _ _
      rw [isD_bl, rowD_no1 h1]
theorem formD_no {d : D} (h : isTup d = false) : formD d = false := by
  cases d with
  | tup ds => cases h
  | _ => rfl
theorem formD_hd {x : D} {ds : List D} (h : isStr x = false) : formD (.tup (x :: ds)) = false := by
  unfold formD
  split <;> rename_i e <;> first | (cases e; cases h) | rfl
theorem formD_2 {x : Str} {ds : List D} : formD (.tup (.str x :: ds)) = match ds with
    | [s] => decide (x = ("list" : Str)) && standsD s
    | [e, l, r] => decide (x = ("row" : Str)) && rowD e l r
    | _ => false := by
  match ds with
  | [] => rfl
  | [_] => rfl
  | [_, _] => rfl
  | [_, _, _] => rfl
  | _ :: _ :: _ :: _ :: _ => rfl
theorem three_of {ds : List D} (h : ds.length = 3) : ∃ a b c, ds = [a, b, c] := by
  match ds, h with
  | [a, b, c], _ => exact ⟨a, b, c, rfl⟩
theorem list_row : ("list" : Str) ≠ ("row" : Str) := by decide +kernel
theorem form_E {i : Nat} {d : D} {μ : Mu} (h : Pl d = true) (hw : wt d ≤ 1000000) : (gs cI cP cE (i + 26)).has_paper_form [d] μ = .ok (.bl (formD d)) μ := by
  refine W.eqD (runK_W ?_)
  show W (G_has_paper_form _ _ [some d, none, none, none] μ) _
  unfold G_has_paper_form
  rcases cases_tup d with ⟨ds, rfl⟩ | ht
  · have at0 : ∀ {x : D} {ds : List D}, atI (x :: ds) 0 = some x := fun {x ds} => by
      unfold atI ixN
      rw [if_pos (by omega), if_pos (by rw [List.length_cons]; omega)]
      rfl
    cases ds with
    | nil =>
      refine guard_W true ?_ (fun _ => ?_) fun z => by cases z
      · simp only [↓flS, ↓flE, ↓flO, ↓flI, ↓flQ, List.getElem?_cons_zero, List.getElem?_cons_succ, isiTup h, isTup, Bool.not_true, isB_eq, List.length_nil]
        rw [show decide (((0 : Nat) : Int) = 0) = true from rfl]
        simp only [br_t]
      · show IsD _ _ _ _
        rw [isD_bl]; rfl
    | cons x ds =>
      have px := tup_in hw h (x := x) (by simp)
      have l0 : decide (((x :: ds).length : Int) = 0) = false := decide_eq_false (by rw [List.length_cons]; omega)
      refine guard_W (!isStr x) ?_ (fun e => ?_) fun e => ?_
      · simp only [↓flS, ↓flE, ↓flO, ↓flI, ↓flQ, List.getElem?_cons_zero, List.getElem?_cons_succ, isiTup h, isTup, Bool.not_true, isB_eq, l0, at0, isiStr px.1]
      · show IsD _ _ _ _
        rw [Bool.not_eq_true'] at e
        rw [isD_bl, formD_hd e]
      · rcases cases_str x with ⟨x, rfl⟩ | hs
        · rw [formD_2]
          by_cases hx : x = ("list" : Str)
          · simp only [↓flS, ↓flE, ↓flO, ↓flI, ↓flQ, List.getElem?_cons_zero, List.getElem?_cons_succ, at0, hx, decide_true]
            rw [show (2 : Int) = ((2 : Nat) : Int) from rfl, decN]
            by_cases hl : (D.str ("list" : Str) :: ds).length = 2
            · obtain ⟨s, rfl⟩ := List.length_eq_one_iff.mp (show ds.length = 1 by rw [List.length_cons] at hl; omega)
              have ps := tup_in hw h (x := s) (by simp)
              have a1 : atI [D.str ("list" : Str), s] 1 = some s := rfl
              simp only [hl, decide_true, br_t, a1, ↓flO, stands_E ps.1 ps.2, W_ok, isD_bl, Bool.true_and]
            · rw [decide_eq_false hl]
              simp only [br_f, isD_bl]
              match ds, hl with
              | [], _ => rfl
              | [_], hl => exact absurd rfl hl
              | [_, _], _ => rfl
              | [_, _, _], _ => rw [decide_eq_false list_row]; rfl
              | _ :: _ :: _ :: _ :: _, _ => rfl
          · have hx' := decide_eq_false hx
            refine seq_cut (fun o μ' => o = .nx [some (.tup (.str x :: ds)), none, none, none] ∧ μ' = μ) ?_ ?_
            · simp only [↓flS, ↓flE, ↓flO, ↓flI, ↓flQ, List.getElem?_cons_zero, List.getElem?_cons_succ, at0, hx', and_self]
            rintro o μ' ⟨rfl, rfl⟩
            rw [kS_nx]
            refine guard_W (!(decide (x = ("row" : Str)) && decide (ds.length = 3))) ?_ (fun e => ?_) fun e => ?_
            · simp only [↓flS, ↓flE, ↓flO, ↓flI, ↓flQ, List.getElem?_cons_zero, List.getElem?_cons_succ, at0, isB_eq, br_B]
              have e4 : decide (((D.str x :: ds).length : Int) = 4) = decide (ds.length = 3) := decide_eq_decide.mpr (by rw [List.length_cons]; omega)
              rw [e4]
              cases decide (x = ("row" : Str)) <;> cases decide (ds.length = 3) <;> rfl
            · show IsD _ _ _ _
              rw [Bool.not_eq_true'] at e
              rw [isD_bl]
              match ds, e with
              | [], _ => rfl
              | [_], _ => rw [hx']; rfl
              | [_, _], _ => rfl
              | [_, _, _], e => simp only [List.length_cons, List.length_nil, decide_true, Bool.and_true] at e; rw [e]; rfl
              | _ :: _ :: _ :: _ :: _, _ => rfl
            · rw [Bool.not_eq_false', Bool.and_eq_true, decide_eq_true_eq, decide_eq_true_eq] at e
              obtain ⟨hr, hl⟩ := e
              subst hr
              obtain ⟨e, l, r, rfl⟩ := three_of hl
              have pe := tup_in hw h (x := e) (by simp)
              have pl := tup_in hw h (x := l) (by simp)
              have pr := tup_in hw h (x := r) (by simp)
              have ec : FL.cutD [.str ("row" : Str), e, l, r] (some 1) none = [e, l, r] := cut_drop _ 1 (by omega)
              have eT : tgT 3 (tgCons (tgN 1) (tgCons (tgN 2) (tgCons (tgN 3) tgNil))) (.tup [e, l, r]) [some (.tup [.str ("row" : Str), e, l, r]), none, none, none] = some [some (.tup [.str ("row" : Str), e, l, r]), some e, some l, some r] := rfl
              simp only [↓flS, ↓flE, ↓flO, ↓flI, ↓flQ, List.getElem?_cons_zero, List.getElem?_cons_succ, W_set, ec, eT, setR_some, row_E pe.1 pe.2 pl.1 pr.1 pr.2, isD_bl, decide_true, Bool.true_and]
        · rw [hs] at e; cases e
  · simp only [↓flS, ↓flE, ↓flO, ↓flI, ↓flQ, List.getElem?_cons_zero, List.getElem?_cons_succ, isiTup h, ht, Bool.not_false, isD_bl, formD_no ht]
/-! ### the law's own check of papers -/
theorem incr_iff : ∀ {ts : List Int}, incr ts = true ↔ ts.Pairwise (· ≤ ·)
  | [] => ⟨fun _ => .nil, fun _ => rfl⟩
  | [a] => ⟨fun _ => by simp, fun _ => rfl⟩
  | a :: b :: r => by
    have ih := incr_iff (ts := b :: r)
    show (decide (a ≤ b) && incr (b :: r)) = true ↔ _
    rw [Bool.and_eq_true, decide_eq_true_eq, ih]
    constructor
    · rintro ⟨h1, h2⟩
      refine List.pairwise_cons.mpr ⟨fun x hx => ?_, h2⟩
      rcases List.mem_cons.mp hx with rfl | hx
      · exact h1
      · exact Int.le_trans h1 ((List.pairwise_cons.mp h2).1 x hx)
    · intro h
      obtain ⟨h1, h2⟩ := List.pairwise_cons.mp h
      exact ⟨h1 b List.mem_cons_self, h2⟩
theorem sort_iff (ts : List Int) : (ts = ts.mergeSort fun i j => decide (i ≤ j)) ↔ incr ts = true := by
  have tr : ∀ a b c : Int, decide (a ≤ b) = true → decide (b ≤ c) = true → decide (a ≤ c) = true := fun a b c h1 h2 => decide_eq_true (Int.le_trans (of_decide_eq_true h1) (of_decide_eq_true h2))
  have to : ∀ a b : Int, (decide (a ≤ b) || decide (b ≤ a)) = true := fun a b => by
    rw [Bool.or_eq_true, decide_eq_true_eq, decide_eq_true_eq]; omega
  have s := List.pairwise_mergeSort tr to ts
  rw [incr_iff]
  constructor
  · intro h
    rw [h]
    exact s.imp fun h => of_decide_eq_true h
  · intro h
    have := List.mergeSort_of_pairwise (le := fun i j : Int => decide (i ≤ j)) (h.imp fun h => decide_eq_true h)
    exact this.symm
theorem inL_ints : ∀ ts : List Int, inL (ts.map .int) = some ts
  | [] => rfl
  | t :: ts => by
    show (inL (ts.map .int)).map _ = _
    rw [inL_ints ts]; rfl
theorem pyL_ints : ∀ ts : List Int, pyL (ts.map .int) = some (ts.map PyData.int)
  | [] => rfl
  | t :: ts => by
    show (D.py (.int t)).bind (fun x => (pyL (ts.map .int)).map fun xs => x :: xs) = _
    rw [pyL_ints ts]; rfl
theorem eqv_ints : ∀ ts us : List Int, PyData.eqvAll (ts.map PyData.int) (us.map PyData.int) = decide (ts = us)
  | [], [] => rfl
  | [], _ :: _ => rfl
  | _ :: _, [] => rfl
  | t :: ts, u :: us => by
    show ((t == u) && PyData.eqvAll (ts.map PyData.int) (us.map PyData.int)) = _
    rw [eqv_ints ts us, Bool.eq_iff_iff]
    simp
theorem shaped_ints (ts : List Int) : SeqAt.shaped (.list (ts.map PyData.int)) = true := by
  have c : ∀ ts : List Int, PyData.canLayAll0 (ts.map PyData.int) = true := by
    intro ts
    induction ts with
    | nil => rfl
    | cons t ts ih => show (true && _) = true; rw [ih]; rfl
  have dp : ∀ ts : List Int, PyData.depthAll (ts.map PyData.int) ≤ 1 := by
    intro ts
    induction ts with
    | nil => show PyData.depthAll [] ≤ _; unfold PyData.depthAll; omega
    | cons t ts ih =>
      show max (PyData.depth (.int t)) (PyData.depthAll _) ≤ _
      have : PyData.depth (.int t) ≤ 1 := by unfold PyData.depth; omega
      omega
  unfold SeqAt.shaped
  rw [show PyData.canLay0 (.list (ts.map PyData.int)) = PyData.canLayAll0 (ts.map PyData.int) from rfl, c, Bool.true_and]
  have := dp ts
  exact decide_eq_true (by show PyData.depthAll _ + 1 ≤ _; omega)
theorem ne_sort (ts : List Int) (μ : Mu) : gNee (.lst (ts.map .int)) (.lst ((ts.mergeSort fun i j => decide (i ≤ j)).map .int)) μ = .ok (.bl (!incr ts)) μ := by
  have hl : lenNe (.lst (ts.map .int)) (.lst ((ts.mergeSort fun i j => decide (i ≤ j)).map .int)) = false := by
    simp [lenNe, List.length_mergeSort]
  unfold gNee
  rw [hl, if_neg Bool.false_ne_true]
  have p1 : (D.lst (ts.map .int)).py = some (.list (ts.map PyData.int)) := by
    show (pyL _).map _ = _
    rw [pyL_ints]; rfl
  have p2 : (D.lst ((ts.mergeSort fun i j => decide (i ≤ j)).map .int)).py = some (.list ((ts.mergeSort fun i j => decide (i ≤ j)).map PyData.int)) := by
    show (pyL _).map _ = _
    rw [pyL_ints]; rfl
  have eq : eqD (.lst (ts.map .int)) (.lst ((ts.mergeSort fun i j => decide (i ≤ j)).map .int)) = some (incr ts) := by
    unfold eqD
    show (match (D.lst (ts.map .int)).py, (D.lst ((ts.mergeSort fun i j => decide (i ≤ j)).map .int)).py with
      | some p, some q => if SeqAt.shaped p = true ∧ SeqAt.shaped q = true then some (PyData.eqv p q) else none
      | _, _ => _) = _
    rw [p1, p2]
    simp only [shaped_ints, and_self, if_true]
    show some (PyData.eqvAll _ _) = _
    rw [eqv_ints]
    congr 1
    rw [Bool.eq_iff_iff, decide_eq_true_eq]
    exact sort_iff ts
  unfold gNe
  rw [eq]
end K49
/-! the law's own check of papers computes the form -/
namespace K49
open PySem PySem.Spec PyProof.Rows L2 FL
set_option autoImplicit false
variable {cI cP cE : Addr}
theorem in24 (n : Nat) (μ : Mu) : gIn true (.int (n : Int)) (.tup [.int 2, .int 4]) μ = .ok (.bl (!(decide (n = 2) || decide (n = 4)))) μ := by
  have e : inD (.int (n : Int)) (.tup [.int 2, .int 4]) = some (decide (n = 2) || decide (n = 4)) := by
    show some (eqV (.int 2) (.int n) || (eqV (.int 4) (.int n) || false)) = _
    have e2 : eqV (.int 2) (.int (n : Int)) = decide (n = 2) := by
      rw [Bool.eq_iff_iff]; simp [eqV]; omega
    have e4 : eqV (.int 4) (.int (n : Int)) = decide (n = 4) := by
      rw [Bool.eq_iff_iff]; simp [eqV]; omega
    rw [e2, e4, Bool.or_false]
  unfold gIn
  rw [e]
  simp
theorem incr0 {ts : List Int} (h : ∀ t ∈ ts, 0 ≤ t) : incr (0 :: ts) = incr ts := by
  cases ts with
  | nil => rfl
  | cons t ts =>
    show (decide (0 ≤ t) && incr (t :: ts)) = _
    rw [decide_eq_true (h t List.mem_cons_self), Bool.true_and]
theorem lastT_at (es : List D) : atI (D.int 0 :: es.map fun e => .int (timeOf e)) (-1) = some (.int (lastT es)) := by
  rw [atI_last (by simp)]
  cases h : es.getLast? with
  | none =>
    have : es = [] := List.getLast?_eq_none_iff.mp h
    subst this
    rfl
  | some e =>
    rw [List.getLast?_cons]
    have e2 : (es.map fun e => D.int (timeOf e)).getLast? = some (.int (timeOf e)) := by rw [List.getLast?_map, h]; rfl
    rw [e2]
    unfold lastT
    rw [h]
    rfl
def evsD : D → Bool
  | .tup es => es.all eventD
  | _ => false
theorem evsD_no {d : D} (h : isTup d = false) : evsD d = false := by
  cases d with
  | tup ds => cases h
  | _ => rfl
theorem rowD_no4 {e l r : D} (h : evsD e = false) : rowD e l r = false := by
  refine rowD_no1 ?_
  cases e with
  | tup es => rw [eventsD, show es.all eventD = false from h, Bool.false_and]
  | _ => rfl
theorem sortI_W (ts : List Int) (μ : Mu) (Q : D → Mu → Prop) : W (gSortedI [.lst (ts.map .int)] μ) Q = Q (.lst ((ts.mergeSort fun i j => decide (i ≤ j)).map .int)) μ := by
  show W (match inL (ts.map .int) with
    | some ns => Rs.ok (D.lst ((ns.mergeSort fun i j => decide (i ≤ j)).map .int)) μ
    | none => .no) Q = _
  rw [inL_ints]
  exact W_ok _ _ _
def leI (t : Int) : D → Bool
  | .int j => decide (t ≤ j)
  | _ => false
theorem formD_l2 (x : Str) (s : D) : formD (.tup [.str x, s]) = (decide (x = ("list" : Str)) && standsD s) := rfl
theorem formD_l4 (x : Str) (e l r : D) : formD (.tup [.str x, e, l, r]) = (decide (x = ("row" : Str)) && rowD e l r) := rfl
theorem lpaper_E {i : Nat} {d : D} {μ : Mu} (h : Pl d = true) (hw : wt d ≤ 1000000) (hd : hdB d = true) : (gs cI cP cE (i + 25))._law_is_paper [d] μ = .ok (.bl (formD d)) μ := by
  refine W.eqD (runK_W ?_)
  show W (G__law_is_paper _ _ _ [some d, none, none, none, none, none] μ) _
  unfold G__law_is_paper
  rcases cases_tup d with ⟨ds, rfl⟩ | ht
  · by_cases h2 : ds.length = 2
    · obtain ⟨x, s, rfl⟩ : ∃ x s, ds = [x, s] := by
        match ds, h2 with
        | [x, s], _ => exact ⟨x, s, rfl⟩
      have ps := tup_in hw h (x := s) (by simp)
      have a0 : atI [x, s] 0 = some x := rfl
      have a1 : atI [x, s] 1 = some s := rfl
      have l2 : (([x, s] : List D).length : Int) = ((2 : Nat) : Int) := rfl
      have al : atI [D.str ("" : Str), .str ("list" : Str), .str ("" : Str), .str ("row" : Str)] (((2 : Nat) : Int) - 1) = some (.str ("list" : Str)) := rfl
      have hx : cmpB x = true := hd
      have i2 : gIn true (.int ((2 : Nat) : Int)) (.tup [.int 2, .int 4]) μ = .ok (.bl false) μ := in24 2 μ
      refine guard_W (!isStrB ("list" : Str) x) ?_ (fun e => ?_) fun e => ?_
      · simp only [↓flS, ↓flE, ↓flO, ↓flI, ↓flQ, List.getElem?_cons_zero, List.getElem?_cons_succ, isiTup h, isTup, Bool.not_true, isB_eq, a0, l2, al, i2, cmp_ne hx words_ok.1]
        exact ⟨sz (by simp), sz (by simp), trivial⟩
      · show IsD _ _ _ _
        rw [Bool.not_eq_true'] at e
        rw [isD_bl]
        symm
        rcases cases_str x with ⟨x, rfl⟩ | hs
        · rw [formD_l2, show decide (x = ("list" : Str)) = false from e, Bool.false_and]
        · exact formD_hd hs
      · rw [Bool.not_eq_false'] at e
        have ex : x = .str ("list" : Str) := by
          cases x with
          | str y => rw [of_decide_eq_true e]
          | _ => cases e
        subst ex
        simp only [↓flS, ↓flE, ↓flO, ↓flI, ↓flQ, List.getElem?_cons_zero, List.getElem?_cons_succ, l2, a1]
        rw [show decide (((2 : Nat) : Int) = 2) = true from rfl]
        simp only [br_t, lstands_E ps.1 ps.2, W_ok, isD_bl]
        rw [formD_l2, decide_eq_true rfl, Bool.true_and]
    · by_cases h4 : ds.length = 4
      · obtain ⟨x, e, l, r, rfl⟩ := four_of h4
        have pe := tup_in hw h (x := e) (by simp)
        have pl := tup_in hw h (x := l) (by simp)
        have pr := tup_in hw h (x := r) (by simp)
        have l4 : (([x, e, l, r] : List D).length : Int) = ((4 : Nat) : Int) := rfl
        have al : atI [D.str ("" : Str), .str ("list" : Str), .str ("" : Str), .str ("row" : Str)] (((4 : Nat) : Int) - 1) = some (.str ("row" : Str)) := rfl
        have hx : cmpB x = true := hd
        have i4 : gIn true (.int ((4 : Nat) : Int)) (.tup [.int 2, .int 4]) μ = .ok (.bl false) μ := in24 4 μ
        refine guard_W (!isStrB ("row" : Str) x) ?_ (fun e => ?_) fun ex => ?_
        · simp only [↓flS, ↓flE, ↓flO, ↓flI, ↓flQ, List.getElem?_cons_zero, List.getElem?_cons_succ, isiTup h, isTup, Bool.not_true, isB_eq, at4, l4, al, i4, cmp_ne hx words_ok.2]
          exact ⟨sz (by simp), sz (by simp), trivial⟩
        · show IsD _ _ _ _
          rw [Bool.not_eq_true'] at e
          rw [isD_bl]
          symm
          rcases cases_str x with ⟨x, rfl⟩ | hs
          · rw [formD_l4, show decide (x = ("row" : Str)) = false from e, Bool.false_and]
          · exact formD_hd hs
        · rw [Bool.not_eq_false'] at ex
          have ex : x = .str ("row" : Str) := by
            cases x with
            | str y => rw [of_decide_eq_true ex]
            | _ => cases ex
          subst ex
          rw [formD_l4, decide_eq_true rfl, Bool.true_and]
          refine seq_cut (fun o μ' => o = .nx [some (.tup [.str ("row" : Str), e, l, r]), none, none, none, none, none] ∧ μ' = μ) ?_ ?_
          · simp only [↓flS, ↓flE, ↓flO, ↓flI, ↓flQ, List.getElem?_cons_zero, List.getElem?_cons_succ, l4]
            rw [show decide (((4 : Nat) : Int) = 2) = false from rfl]
            simp only [br_f, and_self]
          rintro o μ' ⟨rfl, rfl⟩
          rw [kS_nx]
          refine seq_cut (fun o μ1 => o = .nx [some (.tup [.str ("row" : Str), e, l, r]), some e, some l, some r, none, none] ∧ μ1 = μ') ?_ ?_
          · have ec : FL.cutD [.str ("row" : Str), e, l, r] (some 1) none = [e, l, r] := cut_drop _ 1 (by omega)
            have eT : tgT 3 (tgCons (tgN 1) (tgCons (tgN 2) (tgCons (tgN 3) tgNil))) (.tup [e, l, r]) [some (.tup [.str ("row" : Str), e, l, r]), none, none, none, none, none] = some [some (.tup [.str ("row" : Str), e, l, r]), some e, some l, some r, none, none] := rfl
            simp only [↓flS, ↓flE, ↓flO, ↓flI, ↓flQ, List.getElem?_cons_zero, List.getElem?_cons_succ, W_set, ec, eT, setR_some, and_self]
          rintro o μ1 ⟨rfl, rfl⟩
          rw [kS_nx]
          refine guard_W (!evsD e) ?_ (fun z => ?_) fun z => ?_
          · rcases cases_tup e with ⟨es, rfl⟩ | ht
            · simp only [↓flS, ↓flE, ↓flO, ↓flI, ↓flQ, List.getElem?_cons_zero, List.getElem?_cons_succ, isiTup pe.1, isTup, Bool.not_true, wipeR, List.set_cons_zero, List.set_cons_succ]
              rw [filt_W eventD]
              · simp only [(eq_nilL _ _).2, ↓flE, isB_eq, filt_all, List.length_nil, Nat.zero_le, true_and, evsD]
              · intro y hy
                have py := tup_in pe.2 pe.1 hy
                exact ⟨_, rfl, evb_not (evb_tru (ev_call (eva_1 (ev_var rfl)) (levent_E py.1 py.2))), ev_var rfl⟩
              · exact mul_sz pe.2
            · simp only [↓flS, ↓flE, ↓flO, ↓flI, ↓flQ, List.getElem?_cons_zero, List.getElem?_cons_succ, isiTup pe.1, ht, Bool.not_false, isB_eq, evsD_no ht]
          · show IsD _ _ _ _
            rw [Bool.not_eq_true'] at z
            rw [isD_bl, rowD_no4 z]
          · rw [Bool.not_eq_false'] at z
            rcases cases_tup e with ⟨es, rfl⟩ | ht
            · have ev : ∀ x ∈ es, eventD x = true := List.all_eq_true.mp z
              have evs : eventsD (.tup es) = incr (es.map timeOf) := by rw [eventsD, show es.all eventD = true from z, Bool.true_and]
              have hl := len_wt es
              have hwe := pe.2
              rw [wt_tup] at hwe
              refine seq_cut (fun o μ' => o = .nx [some (.tup [.str ("row" : Str), .tup es, l, r]), some (.tup es), some l, some r, none, some (.lst ((0 :: es.map timeOf).map .int))] ∧ μ' = μ1) ?_ ?_
              · simp only [↓flS, ↓flE, ↓flO, ↓flI, ↓flQ, List.getElem?_cons_zero, List.getElem?_cons_succ, wipeR, List.set_cons_zero, List.set_cons_succ]
                refine ⟨sz (by simp), ?_⟩
                rw [cl_map (fun e => .int (timeOf e))]
                · rw [W_ok]
                  refine ⟨sz2 (by rw [List.length_map, List.length_singleton]; omega), ?_, rfl⟩
                  rw [List.map_cons, List.map_map]
                  rfl
                · intro y hy
                  obtain ⟨t, x, y, v, rfl, _⟩ := event_ex (ev y hy)
                  exact ⟨_, rfl, ev_bin (ev_var rfl) ev_c rfl⟩
                · exact sz2 (by omega)
              rintro o μ' ⟨rfl, rfl⟩
              rw [kS_nx]
              have inc : incr (0 :: es.map timeOf) = incr (es.map timeOf) := incr0 fun t ht => by
                obtain ⟨e, he, rfl⟩ := List.mem_map.mp ht
                obtain ⟨t, x, y, v, rfl, h0, _⟩ := event_ex (ev e he)
                exact h0
              refine guard_W (!(incr (es.map timeOf) && isInt l && leI (lastT es) l)) ?_ (fun z => ?_) fun z => ?_
              · have la : atI ((0 :: es.map timeOf).map D.int) (-1) = some (.int (lastT es)) := by
                  have := lastT_at es
                  rw [List.map_cons, List.map_map]
                  exact this
                simp only [↓flS, ↓flE, ↓flO, ↓flI, ↓flQ, List.getElem?_cons_zero, List.getElem?_cons_succ, sortI_W, ne_sort, lint_E pl.1, inc, isB_eq]
                rcases cases_int l with ⟨j, rfl⟩ | hi
                · have e5 : decide (j < lastT es) = !decide (lastT es ≤ j) := by rw [← decide_not]; exact decide_eq_decide.mpr (by omega)
                  simp only [la, ↓flO, ↓flE, isB_eq, br_B, e5, leI]
                  cases incr (es.map timeOf) <;> cases isInt (.int j) <;> cases decide (lastT es ≤ j) <;> rfl
                · rw [hi]
                  simp only [Bool.not_false, br_t, Bool.and_false, Bool.false_and, br_B]
                  exact ⟨fun _ => trivial, fun _ => trivial⟩
              · show IsD _ _ _ _
                rw [isD_bl]
                symm
                rcases cases_int l with ⟨j, rfl⟩ | hi
                · rw [Bool.not_eq_true', leI] at z
                  unfold rowD
                  split
                  · rename_i es' i' rs' a1 a2
                    cases a1; cases a2
                    rw [evs, z, Bool.false_and, Bool.false_and]
                  · rfl
                · exact rowD_no2 hi
              · rw [Bool.not_eq_false', Bool.and_eq_true, Bool.and_eq_true] at z
                obtain ⟨j, rfl⟩ := isInt_ex z.1.2
                rcases cases_tup r with ⟨rs, rfl⟩ | ht
                · refine guard_W (!decide (rs.length = es.length)) ?_ (fun e2 => ?_) fun e2 => ?_
                  · simp only [↓flS, ↓flE, ↓flO, ↓flI, ↓flQ, List.getElem?_cons_zero, List.getElem?_cons_succ, isiTup pr.1, isTup, Bool.not_true, isB_eq, decN]
                  · show IsD _ _ _ _
                    rw [Bool.not_eq_true'] at e2
                    rw [isD_bl, rowD, e2]; simp
                  · rw [Bool.not_eq_false'] at e2
                    rw [rowD, evs, z.1.1, z.1.2, show decide (lastT es ≤ j) = true from z.2, e2]
                    simp only [↓flS, ↓flE, ↓flO, ↓flI, ↓flQ, List.getElem?_cons_zero, List.getElem?_cons_succ, wipeR, List.set_cons_zero, List.set_cons_succ]
                    rw [filt_W standsD]
                    · simp only [(eq_nilL _ _).1, ↓flE, isD_bl, filt_all, List.length_nil, Nat.zero_le, true_and, Bool.and_self, Bool.true_and]
                    · intro y hy
                      have py := tup_in pr.2 pr.1 hy
                      exact ⟨_, rfl, evb_not (evb_tru (ev_call (eva_1 (ev_var rfl)) (lstands_E py.1 py.2))), ev_var rfl⟩
                    · exact mul_sz pr.2
                · simp only [↓flS, ↓flE, ↓flO, ↓flI, ↓flQ, List.getElem?_cons_zero, List.getElem?_cons_succ, isiTup pr.1, ht, Bool.not_false, isD_bl, rowD_no3 ht]
            · rw [evsD_no ht] at z; cases z
      · refine guard_W true ?_ (fun e => ?_) fun e => by cases e
        · simp only [↓flS, ↓flE, ↓flO, ↓flI, ↓flQ, List.getElem?_cons_zero, List.getElem?_cons_succ, isiTup h, isTup, Bool.not_true, isB_eq, in24, decide_eq_false h2, decide_eq_false h4, Bool.or_false, Bool.not_false, br_t]
          exact ⟨sz (by simp), trivial⟩
        · show IsD _ _ _ _
          rw [isD_bl]
          symm
          match ds, h2, h4 with
          | [], _, _ => rfl
          | [_], _, _ => unfold formD; split <;> rename_i e <;> first | cases e | rfl
          | [_, _], h2, _ => exact absurd rfl h2
          | [_, _, _], _, _ => unfold formD; split <;> rename_i e <;> first | cases e | rfl
          | [_, _, _, _], _, h4 => exact absurd rfl h4
          | _ :: _ :: _ :: _ :: _ :: _, _, _ => unfold formD; split <;> rename_i e <;> first | cases e | rfl
  · simp only [↓flS, ↓flE, ↓flO, ↓flI, ↓flQ, List.getElem?_cons_zero, List.getElem?_cons_succ, isiTup h, ht, Bool.not_false, isD_bl, formD_no ht]
end K49
/-! the texts of values -/
namespace K49
open PySem PySem.Spec PyProof.Rows L2 FL
set_option autoImplicit false
variable {cI cP cE : Addr}
mutual
def txtD : D → Str
  | .tup ds => ("(" : Str) ++ Txt.join (" " : Str) (txtL ds) ++ (")" : Str)
  | .non => ("-" : Str)
  | .int i => Str.ofString (toString i)
  | .str x => x
  | _ => Str.empty
def txtL : List D → List Str
  | [] => []
  | d :: ds => txtD d :: txtL ds
end
theorem txtL_map : ∀ ds : List D, txtL ds = ds.map txtD
  | [] => by rw [txtL]; rfl
  | d :: ds => by rw [txtL, txtL_map ds]; rfl
theorem txt_tup (ds : List D) : txtD (.tup ds) = ("(" : Str) ++ Txt.join (" " : Str) (ds.map txtD) ++ (")" : Str) := by rw [txtD, txtL_map]
theorem joinL_len (S : List Nat) : ∀ ps : List (List Nat), (TL.joinL S ps).length ≤ (ps.map List.length).sum + ps.length * S.length
  | [] => by simp [TL.joinL]
  | [p] => by simp [TL.joinL]
  | p :: q :: r => by
    have ih := joinL_len S (q :: r)
    show (p ++ (S ++ TL.joinL S (q :: r))).length ≤ _
    rw [List.length_append, List.length_append, List.map_cons, List.sum_cons, List.length_cons, Nat.succ_mul]
    omega
theorem join_len (a : Str) (xs : List Str) : (Txt.join a xs).length ≤ (xs.map (·.length)).sum + xs.length * a.length := by
  rw [TL.join_eq, TL.len_tl, TL.tl_join]
  have h := joinL_len (TL.tl a) (xs.map TL.tl)
  rw [List.length_map, List.map_map, ← TL.len_tl] at h
  have e : (List.length ∘ TL.tl) = fun x : Str => x.length := by funext x; exact (TL.len_tl x).symm
  rw [e] at h
  exact h
theorem len1s : ("(" : Str).length = 1 ∧ (")" : Str).length = 1 ∧ (" " : Str).length = 1 ∧ ("-" : Str).length = 1 ∧ ("\n" : Str).length = 1 := by decide +kernel
/-- the sum of the texts' lengths -/
theorem txt_sum {n : Nat} : ∀ {ds : List D}, (∀ d ∈ ds, canW n d = true → (txtD d).length ≤ wt d) → (∀ d ∈ ds, canW n d = true) → ((ds.map txtD).map (·.length)).sum + 2 * ds.length ≤ wtL ds
  | [], _, _ => by simp
  | d :: ds, h, g => by
    have ih := txt_sum (fun x hx => h x (List.mem_cons_of_mem _ hx)) fun x hx => g x (List.mem_cons_of_mem _ hx)
    have := h d List.mem_cons_self (g d List.mem_cons_self)
    rw [List.map_cons, List.map_cons, List.sum_cons, wtL_cons, List.length_cons]
    omega
theorem txt_atom {n : Nat} {d : D} (h : canW n d = true) (ht : isTup d = false) : (txtD d).length ≤ wt d := by
  rw [canW_atomE ht] at h
  cases d with
  | tup ds => cases ht
  | non => rw [txtD, len1s.2.2.2.1, show wt .non = 8 from rfl]; omega
  | int i =>
    have hi : isInt (.int i) = true := by simpa [atomOk, isN, isWord] using h
    rw [txtD, show wt (.int i) = 64 by rw [wt]]
    have := str_len hi
    omega
  | str x => rw [txtD, wt_str]; omega
  | _ => cases h
theorem txt_len : ∀ {n : Nat} {d : D}, canW n d = true → (txtD d).length ≤ wt d := by
  intro n
  induction n with
  | zero =>
    intro d h
    rcases cases_tup d with ⟨ds, rfl⟩ | ht
    · cases h
    · exact txt_atom h ht
  | succ n ih =>
    intro d h
    rcases cases_tup d with ⟨ds, rfl⟩ | ht
    · rw [canW, List.all_eq_true] at h
      have s := txt_sum (fun d hd => ih) h
      have j := join_len (" " : Str) (ds.map txtD)
      rw [txt_tup, len_app, len_app, len1s.1, len1s.2.1, wt_tup]
      rw [len1s.2.2.1, List.length_map] at j
      omega
    · exact txt_atom h ht
theorem stL_map (f : D → Str) : ∀ ds : List D, stL (ds.map fun d => .str (f d)) = some (ds.map f)
  | [] => rfl
  | d :: ds => by
    show (stL (ds.map fun d => .str (f d))).map _ = _
    rw [stL_map f ds]; rfl
theorem join_tup {n : Nat} {ds : List D} {μ : Mu} (h : ∀ d ∈ ds, canW n d = true) (hw : wt (.tup ds) ≤ 1000000) : gJoin (.str (" " : Str)) [.lst (ds.map fun d => .str (txtD d))] μ = .ok (.str (Txt.join (" " : Str) (ds.map txtD))) μ ∧ (Txt.join (" " : Str) (ds.map txtD)).length + 2 ≤ 1000000 := by
  have s := txt_sum (fun d hd => txt_len) h
  have j := join_len (" " : Str) (ds.map txtD)
  rw [wt_tup] at hw
  rw [len1s.2.2.1, List.length_map] at j
  refine ⟨gJoin_ok (stL_map txtD ds) ?_, by omega⟩
  rw [len1s.2.2.1, List.length_map]
  omega
theorem text_atom {n : Nat} {d : D} {μ : Mu} (h : canW n d = true) (ht : isTup d = false) : isN d = false → gStr [d] μ = .ok (.str (txtD d)) μ := by
  rw [canW_atomE ht] at h
  intro hn
  cases d with
  | tup ds => cases ht
  | non => cases hn
  | int i =>
    have hi : isInt (.int i) = true := by simpa [atomOk, isN, isWord] using h
    rw [txtD]
    show (if i.natAbs.log2 < 1920 then Rs.ok (D.str (toString i)) μ else .no) = _
    rw [if_pos (log_isInt hi)]
  | str x => rw [txtD]; rfl
  | _ => cases h
theorem isN_txt {d : D} (h : isN d = true) : txtD d = ("-" : Str) := by
  cases d with
  | non => rw [txtD]
  | _ => cases h
theorem value_E : ∀ (n i : Nat) {d : D} {μ : Mu}, canW n d = true → wt d ≤ 1000000 → (gs cI cP cE (i + n + 1)).value_text [d] μ = .ok (.str (txtD d)) μ := by
  intro n
  induction n with
  | zero =>
    intro i d μ h hw
    refine W.eqD (runK_W ?_)
    show W (G_value_text _ [some d, none] μ) _
    unfold G_value_text
    rcases cases_tup d with ⟨ds, rfl⟩ | ht
    · cases h
    · simp only [↓flS, ↓flE, ↓flO, ↓flI, ↓flQ, List.getElem?_cons_zero, List.getElem?_cons_succ, isiTup (canW_pl h), ht]
      refine ⟨fun hn => ?_, fun hn => ?_⟩
      · rw [isD_str, isN_txt hn]
      · rw [text_atom h ht hn, W_ok, isD_str]
  | succ n ih =>
    intro i d μ h hw
    refine W.eqD (runK_W ?_)
    show W (G_value_text _ [some d, none] μ) _
    unfold G_value_text
    rcases cases_tup d with ⟨ds, rfl⟩ | ht
    · simp only [↓flS, ↓flE, ↓flO, ↓flI, ↓flQ, List.getElem?_cons_zero, List.getElem?_cons_succ, List.set_cons_zero, List.set_cons_succ, isiTup (canW_pl h), isTup, wipeR]
      have h' := h
      rw [canW, List.all_eq_true] at h'
      obtain ⟨j1, j2⟩ := join_tup (μ := μ) h' hw
      refine ⟨by decide, ?_⟩
      rw [cl_map (fun d => .str (txtD d)), W_ok, j1, W_ok]
      · simp only [↓flO, isD_str]
        rw [txt_tup]
        have l1 := len1s.1
        have l2 := len1s.2.1
        refine ⟨sz2 (by omega), sz2 ?_, rfl⟩
        rw [len_app]; omega
      · intro y hy
        refine ⟨_, rfl, ev_call (eva_1 (ev_var rfl)) ?_⟩
        exact ih i (h' y hy) (by have := wt_mem hy; rw [wt_tup] at hw; omega)
      · exact mul_sz hw
    · simp only [↓flS, ↓flE, ↓flO, ↓flI, ↓flQ, List.getElem?_cons_zero, List.getElem?_cons_succ, isiTup (canW_pl h), ht]
      refine ⟨fun hn => ?_, fun hn => ?_⟩
      · rw [isD_str, isN_txt hn]
      · rw [text_atom h ht hn, W_ok, isD_str]
theorem ltext_E : ∀ (n i : Nat) {d : D} {μ : Mu}, canW n d = true → wt d ≤ 1000000 → (gs cI cP cE (i + n + 1))._law_text [d] μ = .ok (.str (txtD d)) μ := by
  intro n
  induction n with
  | zero =>
    intro i d μ h hw
    refine W.eqD (runK_W ?_)
    show W (G__law_text _ [some d, none] μ) _
    unfold G__law_text
    rcases cases_tup d with ⟨ds, rfl⟩ | ht
    · cases h
    · simp only [↓flS, ↓flE, ↓flO, ↓flI, ↓flQ, List.getElem?_cons_zero, List.getElem?_cons_succ, isiTup (canW_pl h), ht, Bool.not_false]
      refine ⟨fun hn => ?_, fun hn => ?_⟩
      · rw [isD_str, isN_txt hn]
      · rw [text_atom h ht hn, W_ok, isD_str]
  | succ n ih =>
    intro i d μ h hw
    refine W.eqD (runK_W ?_)
    show W (G__law_text _ [some d, none] μ) _
    unfold G__law_text
    rcases cases_tup d with ⟨ds, rfl⟩ | ht
    · simp only [↓flS, ↓flE, ↓flO, ↓flI, ↓flQ, List.getElem?_cons_zero, List.getElem?_cons_succ, List.set_cons_zero, List.set_cons_succ, isiTup (canW_pl h), isTup, Bool.not_true, wipeR]
      have h' := h
      rw [canW, List.all_eq_true] at h'
      obtain ⟨j1, j2⟩ := join_tup (μ := μ) h' hw
      refine ⟨by decide, ?_⟩
      rw [cl_map (fun d => .str (txtD d)), W_ok, j1, W_ok]
      · simp only [↓flO, isD_str]
        rw [txt_tup]
        have l1 := len1s.1
        have l2 := len1s.2.1
        refine ⟨sz2 (by omega), sz2 ?_, rfl⟩
        rw [len_app]; omega
      · intro y hy
        refine ⟨_, rfl, ev_call (eva_1 (ev_var rfl)) ?_⟩
        exact ih i (h' y hy) (by have := wt_mem hy; rw [wt_tup] at hw; omega)
      · exact mul_sz hw
    · simp only [↓flS, ↓flE, ↓flO, ↓flI, ↓flQ, List.getElem?_cons_zero, List.getElem?_cons_succ, isiTup (canW_pl h), ht, Bool.not_false]
      refine ⟨fun hn => ?_, fun hn => ?_⟩
      · rw [isD_str, isN_txt hn]
      · rw [text_atom h ht hn, W_ok, isD_str]
end K49
/-! the lines of a paper -/
namespace K49
open PySem PySem.Spec PyProof.Rows L2 FL
set_option autoImplicit false
variable {cI cP cE : Addr}
def strI (i : Int) : Str := Str.ofString (toString i)
def intOf : D → Int
  | .int i => i
  | _ => 0
def strOf : D → Str
  | .str x => x
  | _ => Str.empty
def evTxt : D → Str
  | .tup [t, s, l, v] => Txt.join (" " : Str) [strI (intOf t), strOf s, strOf l, strI (intOf v)]
  | _ => Str.empty
def untilT (i : Int) : Str := ("until" : Str) ++ (" " : Str) ++ strI i
def itemsD : D → List D
  | .tup ds => ds
  | _ => []
def roundL (r : D) : List Str := ("round" : Str) :: (itemsD r).map txtD
def linesD : D → List Str
  | .tup [_, s] => ("list" : Str) :: (itemsD s).map txtD
  | .tup [_, e, l, r] => ("row" : Str) :: (itemsD e).map evTxt ++ (untilT (intOf l) :: (itemsD r).flatMap roundL)
  | _ => []
/-! ### how long they are -/
def lsum (xs : List Str) : Nat := (xs.map (·.length)).sum + xs.length
theorem lsum_nil : lsum [] = 0 := rfl
theorem lsum_cons (x : Str) (xs : List Str) : lsum (x :: xs) = x.length + 1 + lsum xs := by
  unfold lsum
  rw [List.map_cons, List.sum_cons, List.length_cons]; omega
theorem lsum_app : ∀ xs ys : List Str, lsum (xs ++ ys) = lsum xs + lsum ys
  | [], ys => by rw [List.nil_append, lsum_nil]; omega
  | x :: xs, ys => by rw [List.cons_append, lsum_cons, lsum_cons, lsum_app xs ys]; omega
theorem lsum_map {f : D → Str} : ∀ {ds : List D}, (∀ d ∈ ds, (f d).length ≤ wt d + 1) → lsum (ds.map f) ≤ wtL ds
  | [], _ => by rw [List.map_nil, lsum_nil]; omega
  | d :: ds, h => by
    have := h d List.mem_cons_self
    have ih := lsum_map fun x hx => h x (List.mem_cons_of_mem _ hx)
    rw [List.map_cons, lsum_cons, wtL_cons]; omega
theorem lsum_flat {f : D → List Str} : ∀ {ds : List D}, (∀ d ∈ ds, lsum (f d) ≤ wt d + 10) → lsum (ds.flatMap f) ≤ wtL ds + 8 * ds.length
  | [], _ => by rw [List.flatMap_nil, lsum_nil]; omega
  | d :: ds, h => by
    have := h d List.mem_cons_self
    have ih := lsum_flat fun x hx => h x (List.mem_cons_of_mem _ hx)
    rw [List.flatMap_cons, lsum_app, wtL_cons, List.length_cons]; omega
theorem stand_can {d : D} (h : standD d = true) : canW 20 d = true := by
  obtain ⟨a, b, c, r, rfl, h, _⟩ := standD_ex h
  exact h
theorem words_len : ("list" : Str).length = 4 ∧ ("row" : Str).length = 3 ∧ ("round" : Str).length = 5 ∧ ("until" : Str).length = 5 := by decide +kernel
theorem join4 (a b c d : Str) : (Txt.join (" " : Str) [a, b, c, d]) = a ++ (" " : Str) ++ b ++ (" " : Str) ++ c ++ (" " : Str) ++ d := by
  refine TL.ext_tl ?_
  rw [TL.join_eq, TL.tl_join]
  simp only [TL.tl_append, List.map_cons, List.map_nil, TL.joinL, List.append_assoc]
theorem event_ex2 {e : D} (h : eventD e = true) : ∃ (t : Int) (x y : Str) (v : Int), e = .tup [.int t, .str x, .str y, .int v] ∧ 0 ≤ t ∧ isInt (.int t) = true ∧ nameS x = true ∧ letterD (.str y) = true ∧ isInt (.int v) = true := by
  obtain ⟨t, x, y, v, rfl, h0, h1, h2, h3, h4⟩ := event_ex h
  obtain ⟨j, rfl⟩ := isInt_ex h4
  have m0 : (0 : Int) ≤ MX := by decide
  refine ⟨t, x, y, j, rfl, h0, ?_, h2, h3, h4⟩
  simp only [isInt, Bool.and_eq_true, decide_eq_true_eq]
  omega
theorem evTxt_len {e : D} (h : eventD e = true) : (evTxt e).length ≤ wt e + 1 ∧ (evTxt e).length ≤ 134 := by
  obtain ⟨t, x, y, v, rfl, h0, h1, h2, h3, h4⟩ := event_ex2 h
  have a := str_len h1
  have b := str_len h4
  have c := name_low h2
  have d := lows_letter h3
  rw [evTxt, join4]
  simp only [len_app, len1s.2.2.1, intOf, strOf, strI, wt_tup, wtL_cons, wtL_nil, wt_str, show ∀ i : Int, wt (.int i) = 64 from fun i => by rw [wt]]
  omega
theorem until_len {i : Int} (h : isInt (.int i) = true) : (untilT i).length ≤ 67 := by
  have := str_len h
  unfold untilT strI
  rw [len_app, len_app, len1s.2.2.1, words_len.2.2.2]
  omega
theorem round_len {r : D} (h : standsD r = true) : lsum (roundL r) ≤ wt r + 10 := by
  obtain ⟨ss, rfl, g⟩ := standsD_ex h
  unfold roundL
  have := lsum_map (f := txtD) (ds := ss) fun d hd => by have := txt_len (stand_can (g d hd)); omega
  rw [lsum_cons, words_len.2.2.1, wt_tup]
  show _ + lsum (ss.map txtD) ≤ _
  omega
theorem lines_len {d : D} (h : formD d = true) : lsum (linesD d) ≤ 5 * wt d + 200 := by
  rcases formD_ex h with ⟨ds, rfl, g⟩ | ⟨es, i, rs, rfl, g1, g2, g3, g4, g5⟩
  · have := lsum_map (f := txtD) (ds := ds) fun d hd => by have := txt_len (stand_can (g d hd)); omega
    show lsum (_ :: ds.map txtD) ≤ _
    rw [lsum_cons, words_len.1]
    simp only [wt_tup, wtL_cons, wtL_nil]
    omega
  · have a := lsum_map (f := evTxt) (ds := es) fun d hd => (evTxt_len ((events_ex g1).1 d hd)).1
    have b := lsum_flat (f := roundL) (ds := rs) fun d hd => round_len (g5 d hd)
    have c := len_wt rs
    have d := until_len g2
    show lsum (_ :: es.map evTxt ++ (untilT i :: rs.flatMap roundL)) ≤ _
    rw [lsum_app, lsum_cons, lsum_cons, words_len.2.1]
    simp only [wt_tup, wtL_cons, wtL_nil]
    omega
theorem lsum_n (xs : List Str) : xs.length ≤ lsum xs := by unfold lsum; omega
/-! ### texts of events -/
def jsD (Fs : List FE) (acc : Str) (ρ : Rho) (d : D) (μ : Mu) : Rs D := match d with
  | .str y => if (acc ++ y).length ≤ sizeLine then fJs Fs (acc ++ y) ρ μ else .no
  | _ => .no
def fmtD (d : D) (μ : Mu) : Rs D := match d with
  | .str y => if y.length ≤ sizeLine then .ok (.str y) μ else .no
  | .int i => if i.natAbs.log2 < 1920 then .ok (.str (toString i)) μ else .no
  | _ => .no
theorem flJ : (∀ (F : FE) (Fs : List FE) (acc : Str) (ρ : Rho) (μ : Mu) (Q : D → Mu → Prop), W (fJs (F :: Fs) acc ρ μ) Q = W (F ρ μ) fun d μ1 => W (jsD Fs acc ρ d μ1) Q)
  ∧ (∀ (acc : Str) (ρ : Rho) (μ : Mu) (Q : D → Mu → Prop), W (fJs [] acc ρ μ) Q = Q (.str acc) μ)
  ∧ (∀ (Fs : List FE) (acc y : Str) (ρ : Rho) (μ : Mu) (Q : D → Mu → Prop), W (jsD Fs acc ρ (.str y) μ) Q = ((acc ++ y).length ≤ sizeLine ∧ W (fJs Fs (acc ++ y) ρ μ) Q))
  ∧ (∀ (F : FE) (ρ : Rho) (μ : Mu) (Q : D → Mu → Prop), W (fFmt F ρ μ) Q = W (F ρ μ) fun d μ1 => W (fmtD d μ1) Q)
  ∧ (∀ (y : Str) (μ : Mu) (Q : D → Mu → Prop), W (fmtD (.str y) μ) Q = (y.length ≤ sizeLine ∧ Q (.str y) μ))
  ∧ (∀ (i : Int) (μ : Mu) (Q : D → Mu → Prop), W (fmtD (.int i) μ) Q = (i.natAbs.log2 < 1920 ∧ Q (.str (toString i)) μ)) :=
  ⟨fun _ _ _ _ _ _ => W_bind _ _ _, fun _ _ _ _ => W_ok _ _ _, fun _ _ _ _ _ _ => W_ite _ _ _, fun _ _ _ _ => W_bind _ _ _, fun _ _ _ => W_iteQ _ _ _ _, fun _ _ _ => W_iteQ _ _ _ _⟩
theorem emp_app (x : Str) : Str.empty ++ x = x := TL.ext_tl (by rw [TL.tl_append]; rfl)
theorem evtext_E {i : Nat} {e : D} {μ : Mu} (h : eventD e = true) : (gs cI cP cE (i + 1)).event_text [e] μ = .ok (.str (evTxt e)) μ := by
  have hl := evTxt_len h
  obtain ⟨t, x, y, v, rfl, h0, h1, h2, h3, h4⟩ := event_ex2 h
  rw [evTxt, join4] at hl ⊢
  have a := str_len h1
  have b := str_len h4
  have c := name_low h2
  have d := lows_letter h3
  refine W.eqD (runK_W ?_)
  show W (G_event_text [some _, none, none, none, none] μ) _
  unfold G_event_text
  have eT : tgT 4 (tgCons (tgN 1) (tgCons (tgN 2) (tgCons (tgN 3) (tgCons (tgN 4) tgNil)))) (.tup [.int t, .str x, .str y, .int v]) [some (.tup [.int t, .str x, .str y, .int v]), none, none, none, none] = some [some (.tup [.int t, .str x, .str y, .int v]), some (.int t), some (.str x), some (.str y), some (.int v)] := rfl
  simp only [↓flS, ↓flE, ↓flJ, W_set, List.getElem?_cons_zero, List.getElem?_cons_succ, eT, setR_some, isD_str, emp_app, intOf, strOf, strI]
  simp only [len_app, len1s.2.2.1, intOf, strOf, strI] at hl
  refine ⟨log_isInt h1, sz (by omega), sz (by rw [len_app, len1s.2.2.1]; omega), sz (by omega), ?_⟩
  refine ⟨sz (by simp only [len_app, len1s.2.2.1]; omega), sz (by simp only [len_app, len1s.2.2.1]; omega), sz (by omega), sz (by simp only [len_app, len1s.2.2.1]; omega), sz (by simp only [len_app, len1s.2.2.1]; omega), log_isInt h4, sz (by simp only [len_app, len1s.2.2.1]; omega), trivial⟩
end K49
/-! the lines that are yielded, and the law's own -/
namespace K49
open PySem PySem.Spec PyProof.Rows L2 FL
set_option autoImplicit false
variable {cI cP cE : Addr}
section
variable {μ : Mu} {zs zs1 : List D} {ρ ρ1 : Rho}
theorem ySeq_ok {G1 G2 : FY} {r : Rs (List D × Ot)} (h : G1 zs ρ μ = .ok (zs1, .nx ρ1) μ) (k : G2 zs1 ρ1 μ = r) : ySeq G1 G2 zs ρ μ = r := by
  unfold ySeq; rw [h]; exact k
theorem yY_ok {F : FE} {d : D} (h : F ρ μ = .ok d μ) (hz : zs.length < sizeLine) : yY F zs ρ μ = .ok (zs ++ [d], .nx ρ) μ := by
  unfold yY; rw [h, bind_ok, if_pos hz]
theorem yNx_ok : yNx zs ρ μ = .ok (zs, .nx ρ) μ := rfl
theorem yIf_ok {c : FB} {G1 G2 : FY} {b : Bool} {r : Rs (List D × Ot)} (h : EvB c ρ μ b) (h1 : b = true → G1 zs ρ μ = r) (h2 : b = false → G2 zs ρ μ = r) : yIf c G1 G2 zs ρ μ = r := by
  unfold yIf
  rw [h, bind_ok]
  cases b with
  | true => rw [if_pos rfl]; exact h1 rfl
  | false => rw [if_neg Bool.false_ne_true]; exact h2 rfl
theorem yLoop_ok {T : FT} {G : FY} {B : Nat} (f : D → List D) (I : Rho → Prop) : ∀ (ds zs : List D) (ρ : Rho), I ρ → (∀ d ∈ ds, ∀ (ρ : Rho) (zs : List D), I ρ → zs.length + (f d).length ≤ B → ∃ ρ1 ρ2, T d ρ = some ρ1 ∧ G zs ρ1 μ = .ok (zs ++ f d, .nx ρ2) μ ∧ I ρ2) → zs.length + (ds.flatMap f).length ≤ B → ∃ ρ', I ρ' ∧ yLoop T G ds zs ρ μ = .ok (zs ++ ds.flatMap f, .nx ρ') μ
  | [], zs, ρ, hI, _, _ => ⟨ρ, hI, by simp [yLoop]⟩
  | d :: ds, zs, ρ, hI, h, hz => by
    rw [List.flatMap_cons, List.length_append] at hz
    obtain ⟨ρ1, ρ2, e1, e2, e3⟩ := h d List.mem_cons_self ρ zs hI (by omega)
    obtain ⟨ρ', f1, f2⟩ := yLoop_ok f I ds (zs ++ f d) ρ2 e3 (fun x hx => h x (List.mem_cons_of_mem _ hx)) (by rw [List.length_append]; omega)
    refine ⟨ρ', f1, ?_⟩
    rw [yLoop, e1]
    simp only
    rw [e2]
    simp only
    rw [f2, List.flatMap_cons, List.append_assoc]
theorem yFor_ok {Fi : FA} {T : FT} {G : FY} {B : Nat} {ds : List D} (f : D → List D) (I : Rho → Prop) (hi : EvA Fi ρ μ ds) (hI : I ρ) (h : ∀ d ∈ ds, ∀ (ρ : Rho) (zs : List D), I ρ → zs.length + (f d).length ≤ B → ∃ ρ1 ρ2, T d ρ = some ρ1 ∧ G zs ρ1 μ = .ok (zs ++ f d, .nx ρ2) μ ∧ I ρ2) (hz : zs.length + (ds.flatMap f).length ≤ B) :
    ∃ ρ', I ρ' ∧ yFor Fi T G zs ρ μ = .ok (zs ++ ds.flatMap f, .nx ρ') μ := by
  obtain ⟨ρ', f1, f2⟩ := yLoop_ok f I ds zs ρ hI h hz
  exact ⟨ρ', f1, by unfold yFor; rw [hi, bind_ok]; exact f2⟩
end
theorem flat_one (f : D → Str) (ds : List D) : ds.flatMap (fun d => [D.str (f d)]) = (ds.map f).map .str := by
  induction ds with
  | nil => rfl
  | cons d ds ih => rw [List.flatMap_cons, ih]; rfl
theorem flat_rounds : ∀ rs : List D, (rs.flatMap fun d => (roundL d).map D.str) = (rs.flatMap roundL).map D.str
  | [] => rfl
  | r :: rs => by rw [List.flatMap_cons, List.flatMap_cons, List.map_append, flat_rounds rs]
theorem row_eq : gEqq (.str ("row" : Str)) (.str ("list" : Str)) = fun μ => .ok (.bl false) μ := by
  funext μ
  show Rs.ok (D.bl (decide (V.str ("row" : Str) = V.str ("list" : Str)))) μ = _
  rw [show decide (V.str ("row" : Str) = V.str ("list" : Str)) = false by decide +kernel]
theorem list_eq : gEqq (.str ("list" : Str)) (.str ("list" : Str)) = fun μ => .ok (.bl true) μ := by
  funext μ
  show Rs.ok (D.bl (decide (V.str ("list" : Str) = V.str ("list" : Str)))) μ = _
  rw [decide_eq_true rfl]
theorem ySeq_ex {μ : Mu} {zs zs1 zs2 : List D} {ρ ρ1 : Rho} {G1 G2 : FY} (h : G1 zs ρ μ = .ok (zs1, .nx ρ1) μ) (k : ∃ ρ', G2 zs1 ρ1 μ = .ok (zs2, .nx ρ') μ) : ∃ ρ', ySeq G1 G2 zs ρ μ = .ok (zs2, .nx ρ') μ := by
  obtain ⟨ρ', k⟩ := k
  exact ⟨ρ', ySeq_ok h k⟩
theorem ySeq_rt {μ : Mu} {zs zs1 : List D} {ρ : Rho} {G1 G2 : FY} {d : D} (h : G1 zs ρ μ = .ok (zs1, .rt d) μ) : ySeq G1 G2 zs ρ μ = .ok (zs1, .rt d) μ := by
  unfold ySeq; rw [h]
theorem yPl_set {μ : Mu} {zs : List D} {ρ ρ1 : Rho} {F : FE} {T : FT} {d : D} (h : F ρ μ = .ok d μ) (hT : T d ρ = some ρ1) : yPl (gSet F T) zs ρ μ = .ok (zs, .nx ρ1) μ := by
  unfold yPl gSet
  rw [h, bind_ok, hT, bind_ok]
/-- the texts of stands, one line each -/
theorem ystands_ok {i n : Nat} {ds zs : List D} {μ : Mu} {ρ : Rho} {Fi : FA} (hi : EvA Fi ρ μ ds) (g : ∀ x ∈ ds, standD x = true) (hw : wt (.tup ds) ≤ 1000000) (I : Rho → Prop) (hI : I ρ) (hI2 : ∀ ρ d, I ρ → I (ρ.set 1 (some d)) ∧ (ρ.set 1 (some d))[1]? = some (some d)) (hz : zs.length + ds.length ≤ sizeLine) :
    ∃ ρ', I ρ' ∧ yFor Fi (tgN 1) (ySeq (yY (fCall (gs cI cP cE (i + 22)).value_text (fCons (fVar 1) fNil))) yNx) zs ρ μ = .ok (zs ++ (ds.map txtD).map .str, .nx ρ') μ := by
  rw [← flat_one]
  refine yFor_ok (B := sizeLine) (fun d => [.str (txtD d)]) I hi hI (fun x hx ρ zs hI hz => ?_) (by rw [flat_one, List.length_map, List.length_map]; exact hz)
  have hv := value_E (cI := cI) (cP := cP) (cE := cE) (μ := μ) 20 (i + 1) (stand_can (g x hx)) (by have := wt_mem hx; rw [wt_tup] at hw; omega)
  obtain ⟨h1, h2⟩ := hI2 ρ x hI
  refine ⟨_, _, rfl, ySeq_ok (yY_ok (ev_call (eva_1 (ev_var h2)) hv) ?_) yNx_ok, h1⟩
  rw [List.length_singleton] at hz
  omega
theorem until_E {j : Int} {ρ : Rho} {μ : Mu} (hi : isInt (.int j) = true) (h : ρ[3]? = some (some (.int j))) : fJs [(fFmt (fC (.str "until"))), (fC (.str " ")), (fFmt (fVar 3))] Str.empty ρ μ = .ok (.str (untilT j)) μ := by
  have l := until_len hi
  unfold untilT strI at l ⊢
  simp only [len_app] at l
  have l2 := words_len.2.2.2
  have l3 := len1s.2.2.1
  refine W.eqD ?_
  simp only [↓flJ, ↓flE, h, emp_app, isD_str]
  refine ⟨sz (by omega), sz (by omega), ?_⟩
  refine ⟨sz (by rw [len_app]; omega), log_isInt hi, sz (by rw [len_app, len_app]; omega), trivial⟩
theorem plines_E {i : Nat} {d : D} {μ : Mu} (h : formD d = true) (hw : wt d ≤ 1000000) : (gs cI cP cE (i + 23)).paper_lines [d] μ = .ok (.lst ((linesD d).map .str)) μ := by
  have hl := lines_len h
  have hn := lsum_n (linesD d)
  show runY 5 (G_paper_lines _ _) [d] μ = _
  rcases formD_ex h with ⟨ds, rfl, g⟩ | ⟨es, j, rs, rfl, g1, g2, g3, g4, g5⟩
  · have hs : wt (.tup ds) ≤ 1000000 := by simp only [wt_tup, wtL_cons, wtL_nil] at hw ⊢; omega
    have hl2 : (linesD (.tup [.str ("list" : Str), .tup ds])).length = 1 + ds.length := by
      show (_ :: ds.map txtD).length = _
      rw [List.length_cons, List.length_map]; omega
    have key : G_paper_lines (gs cI cP cE (i + 22)).value_text (gs cI cP cE (i + 22)).event_text [] (enter 5 [.tup [.str ("list" : Str), .tup ds]]) μ = .ok ((linesD (.tup [.str ("list" : Str), .tup ds])).map .str, .rt .non) μ := by
      unfold G_paper_lines
      refine ySeq_ok (yY_ok (ev_bin (ev_var rfl) ev_c rfl) (by decide)) ?_
      refine ySeq_rt (yIf_ok (b := true) (evb_b (ev_bin (ev_bin (ev_var rfl) ev_c rfl) ev_c (congrFun list_eq μ))) (fun _ => ?_) fun z => by cases z)
      obtain ⟨ρ', hI, e⟩ := ystands_ok (cI := cI) (cP := cP) (cE := cE) (i := i) (n := 0) (μ := μ) (zs := [] ++ [.str ("list" : Str)]) (Fi := fItT (fBin gIx (fVar 0) (fC (.int 1)))) (ρ := enter 5 [.tup [.str ("list" : Str), .tup ds]]) (eva_tup (ev_bin (ev_var rfl) ev_c rfl)) g hs (fun ρ => ∃ o, ρ = [some (.tup [.str ("list" : Str), .tup ds]), o, none, none, none]) ⟨_, rfl⟩ (fun ρ d ⟨o, h⟩ => by subst h; exact ⟨⟨_, rfl⟩, rfl⟩) (sz2' (by rw [List.length_append, List.length_singleton, List.length_nil]; omega))
      refine ySeq_ok e ?_
      exact ySeq_rt rfl
    unfold runY
    rw [key]
  · have he : wt (.tup es) ≤ 1000000 := by simp only [wt_tup, wtL_cons, wtL_nil] at hw ⊢; omega
    have hr : wt (.tup rs) ≤ 1000000 := by simp only [wt_tup, wtL_cons, wtL_nil] at hw ⊢; omega
    have ev := (events_ex g1).1
    have hl2 : (linesD (.tup [.str ("row" : Str), .tup es, .int j, .tup rs])).length = 2 + es.length + (rs.flatMap roundL).length := by
      show (_ :: es.map evTxt ++ (_ :: rs.flatMap roundL)).length = _
      rw [List.length_append, List.length_cons, List.length_cons, List.length_map]; omega
    have key : ∃ ρ', G_paper_lines (gs cI cP cE (i + 22)).value_text (gs cI cP cE (i + 22)).event_text [] (enter 5 [.tup [.str ("row" : Str), .tup es, .int j, .tup rs]]) μ = .ok ((linesD (.tup [.str ("row" : Str), .tup es, .int j, .tup rs])).map .str, .nx ρ') μ := by
      unfold G_paper_lines
      refine ySeq_ex (yY_ok (ev_bin (ev_var rfl) ev_c rfl) (by decide)) ?_
      refine ySeq_ex (yIf_ok (b := false) (evb_b (ev_bin (ev_bin (ev_var rfl) ev_c rfl) ev_c (congrFun row_eq μ))) (fun z => by cases z) fun _ => yNx_ok) ?_
      obtain ⟨ρ1, ⟨o1, o2, rfl⟩, e1⟩ := yFor_ok (T := tgN 2) (G := ySeq (yY (fCall (gs cI cP cE (i + 22)).event_text (fCons (fVar 2) fNil))) yNx) (B := sizeLine) (μ := μ) (zs := [] ++ [.str ("row" : Str)]) (Fi := fItT (fBin gIx (fVar 0) (fC (.int 1)))) (ρ := enter 5 [.tup [.str ("row" : Str), .tup es, .int j, .tup rs]])
        (fun d => [.str (evTxt d)]) (fun ρ => ∃ o1 o2, ρ = [some (.tup [.str ("row" : Str), .tup es, .int j, .tup rs]), o1, o2, none, none]) (ds := es) (eva_tup (ev_bin (ev_var rfl) ev_c rfl)) ⟨_, _, rfl⟩ (fun x hx ρ zs hI hz => by
          obtain ⟨o1, o2, rfl⟩ := hI
          refine ⟨_, _, rfl, ySeq_ok (yY_ok (ev_call (eva_1 (ev_var rfl)) (evtext_E (ev x hx))) ?_) yNx_ok, _, _, rfl⟩
          rw [List.length_singleton] at hz
          omega) (by rw [flat_one, List.length_append, List.length_singleton, List.length_map, List.length_map, List.length_nil]; exact sz2' (by omega))
      refine ySeq_ex e1 ?_
      refine ySeq_ex (yPl_set (d := .int j) (ev_bin (ev_var rfl) ev_c rfl) rfl) ?_
      refine ySeq_ex (yY_ok (until_E g2 rfl) (Nat.lt_of_le_of_lt (m := 6000000) (by rw [flat_one, List.length_append, List.length_append, List.length_singleton, List.length_map, List.length_map, List.length_nil]; omega) (by decide))) ?_
      obtain ⟨ρ2, _, e2⟩ := yFor_ok (T := tgN 4) (G := ySeq (yY (fC (.str ("round" : Str)))) (ySeq (yFor (fItT (fVar 4)) (tgN 1) (ySeq (yY (fCall (gs cI cP cE (i + 22)).value_text (fCons (fVar 1) fNil))) yNx)) yNx)) (B := sizeLine) (μ := μ) (zs := [] ++ [.str ("row" : Str)] ++ es.flatMap (fun d => [.str (evTxt d)]) ++ [.str (untilT j)]) (Fi := fItT (fBin gIx (fVar 0) (fC (.int 3)))) (ρ := [some (.tup [.str ("row" : Str), .tup es, .int j, .tup rs]), o1, o2, some (.int j), none])
        (fun d => (roundL d).map .str) (fun ρ => ∃ o1 o2 o4, ρ = [some (.tup [.str ("row" : Str), .tup es, .int j, .tup rs]), o1, o2, some (.int j), o4]) (ds := rs) (eva_tup (ev_bin (ev_var rfl) ev_c rfl)) ⟨_, _, _, rfl⟩ (fun x hx ρ zs hI hz => by
          obtain ⟨o1, o2, o4, rfl⟩ := hI
          obtain ⟨ss, rfl, gss⟩ := standsD_ex (g5 x hx)
          have hz' : zs.length + (1 + ss.length) ≤ sizeLine := by
            have : ((roundL (.tup ss)).map D.str).length = 1 + ss.length := by
              show ((_ :: ss.map txtD).map D.str).length = _
              rw [List.length_map, List.length_cons, List.length_map]; omega
            rw [this] at hz
            exact hz
          obtain ⟨ρ3, hI3, e3⟩ := ystands_ok (cI := cI) (cP := cP) (cE := cE) (i := i) (n := 0) (μ := μ) (zs := zs ++ [.str ("round" : Str)]) (Fi := fItT (fVar 4)) (ρ := [some (.tup [.str ("row" : Str), .tup es, .int j, .tup rs]), o1, o2, some (.int j), some (.tup ss)]) (ds := ss) (eva_tup (ev_var rfl)) gss (by have := wt_mem hx; rw [wt_tup rs] at hr; omega)
            (fun ρ => ∃ o1 o2 o4, ρ = [some (.tup [.str ("row" : Str), .tup es, .int j, .tup rs]), o1, o2, some (.int j), o4]) ⟨_, _, _, rfl⟩ (fun ρ d h => by obtain ⟨o1, o2, o4, rfl⟩ := h; exact ⟨⟨_, _, _, rfl⟩, rfl⟩) (by rw [List.length_append, List.length_singleton]; omega)
          refine ⟨_, ρ3, rfl, ?_, hI3⟩
          refine ySeq_ok (yY_ok ev_c (by omega)) ?_
          refine ySeq_ok e3 ?_
          rw [List.append_assoc]
          rfl) (by
            rw [flat_rounds, flat_one]
            simp only [List.length_append, List.length_singleton, List.length_map, List.length_nil]
            exact sz2' (by omega))
      refine ySeq_ex e2 ⟨ρ2, ?_⟩
      rw [flat_one]
      rw [flat_rounds]
      show Rs.ok _ _ = Rs.ok ((("row" : Str) :: es.map evTxt ++ (untilT j :: rs.flatMap roundL)).map D.str, _) _
      rw [List.map_append, List.map_cons, List.map_cons]
      simp only [List.nil_append, List.append_assoc, List.singleton_append, List.cons_append]
    obtain ⟨ρ', key⟩ := key
    unfold runY
    rw [key]
end K49
/-! what is written; the law's own lines -/
namespace K49
open PySem PySem.Spec PyProof.Rows L2 FL
set_option autoImplicit false
variable {cI cP cE : Addr}
def paperT (d : D) : Str := Txt.join ("\n" : Str) (linesD d)
theorem stL_strs : ∀ xs : List Str, stL (xs.map .str) = some xs
  | [] => rfl
  | x :: xs => by
    show (stL (xs.map .str)).map _ = _
    rw [stL_strs xs]; rfl
theorem sum_lsum {xs : List Str} {n : Nat} (h : lsum xs ≤ n) : (xs.map (·.length)).sum + xs.length * ("\n" : Str).length ≤ n := by
  rw [len1s.2.2.2.2, Nat.mul_one]
  exact h
theorem write_E {i : Nat} {d : D} {μ : Mu} (h : Pl d = true) (hw : wt d ≤ 1000000) : (gs cI cP cE (i + 27)).write_paper [d] μ = if formD d = true then .ok (.str (paperT d)) μ else .ex cI [] μ := by
  show runX 1 (G_write_paper _ _ _) [d] μ = _
  unfold runX G_write_paper
  have hf := form_E (cI := cI) (cP := cP) (cE := cE) (i := i) (μ := μ) h hw
  have cond : EvB (fNot (fTru (fCall (gs cI cP cE (i + 26)).has_paper_form (fCons (fVar 0) fNil)))) (enter 1 [d]) μ (!formD d) := evb_not (evb_tru (ev_call (eva_1 (ev_var rfl)) hf))
  by_cases hd : formD d = true
  · rw [if_pos hd]
    have e : gSeq (gIf (fNot (fTru (fCall (gs cI cP cE (i + 26)).has_paper_form (fCons (fVar 0) fNil)))) (gRaise cI) gNx) (gRet (fJoinY (fC (.str "\n")) (gs cI cP cE (i + 26)).paper_lines (fCons (fVar 0) fNil))) (enter 1 [d]) μ = .ok (.rt (.str (paperT d))) μ := by
      refine st_seq (st_if cond (fun z => by rw [hd] at z; cases z) fun _ => rfl) (st_ret ?_)
      have hp := plines_E (cI := cI) (cP := cP) (cE := cE) (i := i + 3) (μ := μ) hd hw
      have hl := lines_len hd
      unfold fJoinY
      rw [show (fC (.str ("\n" : Str)) : FE) (enter 1 [d]) μ = .ok (.str ("\n" : Str)) μ from rfl, bind_ok]
      show (fCall _ _ _ μ).bind (gJoinY ("\n" : Str)) = _
      rw [ev_call (eva_1 (ev_var rfl)) hp, bind_ok]
      show (match stL ((linesD d).map .str) with
        | some ss => if (ss.map fun x : Str => x.length).sum + ss.length * ("\n" : Str).length ≤ 16777216 then Rs.ok (D.str (Txt.join ("\n" : Str) ss)) μ else .no
        | none => .no) = _
      rw [stL_strs]
      show (if ((linesD d).map fun x : Str => x.length).sum + (linesD d).length * ("\n" : Str).length ≤ 16777216 then Rs.ok (D.str (Txt.join ("\n" : Str) (linesD d))) μ else .no) = _
      rw [if_pos (sum_lsum (by omega))]
      rfl
    rw [e]
  · rw [if_neg hd]
    rw [Bool.not_eq_true] at hd
    have e : gIf (fNot (fTru (fCall (gs cI cP cE (i + 26)).has_paper_form (fCons (fVar 0) fNil)))) (gRaise cI) gNx (enter 1 [d]) μ = .ex cI [] μ := by
      unfold gIf
      rw [cond, bind_ok, hd]
      rfl
    unfold gSeq
    rw [e]
/-! ### the law's lines -/
theorem set_last {μ : Mu} {o o' : Ob} : (μ ++ [o]).set μ.length o' = μ ++ [o'] := by
  rw [List.set_append_right _ _ (Nat.le_refl _), Nat.sub_self]
  rfl
theorem extR {μ : Mu} {l : Nat} {ds es : List D} {Q : D → Mu → Prop} (h : μ[l]? = some (.lst ds)) (hz : ds.length + es.length ≤ sizeLine) : W (gExtend (.ref l) [.lst es] μ) Q = Q .non (μ.set l (.lst (ds ++ es))) := by
  unfold gExtend
  simp only [h]
  rw [if_pos hz, W_ok]
theorem take_last {μ : Mu} {o : Ob} : (μ ++ [o]).take μ.length = μ := List.take_left
theorem fit_last {μ : Mu} {o : Ob} : Fit μ (μ ++ [o]) := fun k o' hk e => .inl (by rwa [List.getElem?_append_left hk] at e)
theorem out_last {μ : Mu} {ds : List D} {Q : D → Mu → Prop} (h : PlL ds = true) (q : Q (.lst ds) μ) : kG μ Q (.rt (.ref μ.length)) (μ ++ [.lst ds]) := by
  refine ⟨fit_last, ?_⟩
  show if μ.length ≤ μ.length then _ else _
  rw [if_pos (Nat.le_refl _)]
  rw [getA]
  exact ⟨plL_inn h, by rw [take_last]; exact q⟩
theorem until_lit : ("until " : Str) = ("until" : Str) ++ (" " : Str) := by decide +kernel
theorem loop_for {Fi : FA} {T : FT} {G : FS} {ρ : Rho} {μ : Mu} {Q : Ot → Mu → Prop} : W (gFor Fi T G ρ μ) Q = W (Fi ρ μ) fun ds μ1 => W (gLoop T G ds ρ μ1) Q := W_bind _ _ _
theorem pl_strs (xs : List Str) (h : ∀ x ∈ xs, okS x = true) : PlL (xs.map .str) = true := plL_of fun d hd => by
  obtain ⟨x, hx, rfl⟩ := List.mem_map.mp hd
  rw [Pl]
  exact h x hx
theorem okS_app (x y : Str) : okS (x ++ y) = (okS x && okS y) := by
  show ((x.cps ++ y.cps).toList.all _) = _
  rw [Array.toList_append, List.all_append]
  rfl
theorem lits_ok : okS ("(" : Str) = true ∧ okS (")" : Str) = true ∧ okS (" " : Str) = true ∧ okS ("-" : Str) = true ∧ okS ("until" : Str) = true ∧ okS ("round" : Str) = true := by decide +kernel
theorem joinL_mem {S : List Nat} {c : Nat} : ∀ {ps : List (List Nat)}, c ∈ TL.joinL S ps → c ∈ S ∨ ∃ p ∈ ps, c ∈ p
  | [], h => by cases h
  | [p], h => .inr ⟨p, List.mem_singleton.mpr rfl, h⟩
  | p :: q :: r, h => by
    have h : c ∈ p ++ (S ++ TL.joinL S (q :: r)) := h
    rcases List.mem_append.mp h with h | h
    · exact .inr ⟨p, List.mem_cons_self, h⟩
    · rcases List.mem_append.mp h with h | h
      · exact .inl h
      · rcases joinL_mem h with h | ⟨p', h1, h2⟩
        · exact .inl h
        · exact .inr ⟨p', List.mem_cons_of_mem _ h1, h2⟩
theorem join_mem {a : Str} {xs : List Str} {c : Nat} (h : c ∈ (Txt.join a xs).cps.toList) : c ∈ a.cps.toList ∨ ∃ x ∈ xs, c ∈ x.cps.toList := by
  have h : c ∈ TL.tl (Txt.join a xs) := h
  rw [TL.join_eq, TL.tl_join] at h
  rcases joinL_mem h with h | ⟨p, h1, h2⟩
  · exact .inl h
  · obtain ⟨x, hx, rfl⟩ := List.mem_map.mp h1
    exact .inr ⟨x, hx, h2⟩
/-- the signs of a value's text -/
def sgn (c : Nat) : Bool := decide (c = 32) || decide (c = 40) || decide (c = 41) || decide (c = 45) || (decide (48 ≤ c) && decide (c ≤ 57)) || low c
theorem low_sgn {c : Nat} (h : low c = true) : sgn c = true := by unfold sgn; rw [h]; simp
theorem lit_tl : TL.tl ("(" : Str) = [40] ∧ TL.tl (")" : Str) = [41] ∧ TL.tl (" " : Str) = [32] ∧ TL.tl ("-" : Str) = [45] ∧ TL.tl ("\n" : Str) = [10] := by decide +kernel
theorem str_sgn {i : Int} {c : Nat} (h : c ∈ (strI i).cps.toList) : sgn c = true := by
  rcases str_mem h with rfl | h
  · decide
  · unfold sgn; simp only [Bool.or_eq_true, Bool.and_eq_true, decide_eq_true_eq]; omega
theorem txt_sgn : ∀ {n : Nat} {d : D}, canW n d = true → ∀ c ∈ (txtD d).cps.toList, sgn c = true := by
  have at0 : ∀ {n : Nat} {d : D}, canW n d = true → isTup d = false → ∀ c ∈ (txtD d).cps.toList, sgn c = true := by
    intro n d h ht c hc
    rw [canW_atomE ht] at h
    cases d with
    | tup ds => cases ht
    | non =>
      rw [txtD] at hc
      have hc : c ∈ TL.tl ("-" : Str) := hc
      rw [lit_tl.2.2.2.1] at hc
      rw [List.mem_singleton.mp hc]; decide
    | int i => rw [txtD] at hc; exact str_sgn hc
    | str x =>
      rw [txtD] at hc
      simp only [atomOk, isN, isInt, isWord, Bool.false_or, Bool.and_eq_true] at h
      exact low_sgn (lows_mem h.2 hc)
    | _ => cases h
  intro n
  induction n with
  | zero =>
    intro d h
    rcases cases_tup d with ⟨ds, rfl⟩ | ht
    · cases h
    · exact at0 h ht
  | succ n ih =>
    intro d h
    rcases cases_tup d with ⟨ds, rfl⟩ | ht
    · rw [canW, List.all_eq_true] at h
      intro c hc
      rw [txt_tup] at hc
      have hc : c ∈ TL.tl (("(" : Str) ++ Txt.join (" " : Str) (ds.map txtD) ++ (")" : Str)) := hc
      rw [TL.tl_append, TL.tl_append, lit_tl.1, lit_tl.2.1] at hc
      rcases List.mem_append.mp hc with hc | hc
      · rcases List.mem_append.mp hc with hc | hc
        · rw [List.mem_singleton.mp hc]; decide
        · rcases join_mem hc with hc | ⟨x, hx, hc⟩
          · have hc : c ∈ TL.tl (" " : Str) := hc
            rw [lit_tl.2.2.1] at hc
            rw [List.mem_singleton.mp hc]; decide
          · obtain ⟨d, hd, rfl⟩ := List.mem_map.mp hx
            exact ih (h d hd) c hc
      · rw [List.mem_singleton.mp hc]; decide
    · exact at0 h ht
theorem sgn_ok {x : Str} (h : ∀ c ∈ x.cps.toList, sgn c = true) : okS x = true := by
  unfold okS
  rw [List.all_eq_true]
  intro c hc
  have := h c hc
  simp only [sgn, low, Bool.or_eq_true, Bool.and_eq_true, decide_eq_true_eq] at this
  exact decide_eq_true (by omega)
theorem ev_sgn {e : D} (h : eventD e = true) : ∀ c ∈ (evTxt e).cps.toList, sgn c = true := by
  obtain ⟨t, x, y, v, rfl, h0, h1, h2, h3, h4⟩ := event_ex2 h
  intro c hc
  rw [evTxt] at hc
  rcases join_mem hc with h5 | ⟨z, hz, h5⟩
  · have h5 : c ∈ TL.tl (" " : Str) := h5
    rw [lit_tl.2.2.1] at h5
    rw [List.mem_singleton.mp h5]; decide
  · simp only [List.mem_cons, List.not_mem_nil, or_false] at hz
    rcases hz with rfl | rfl | rfl | rfl
    · exact str_sgn h5
    · exact low_sgn (lows_mem (name_low h2).1 h5)
    · exact low_sgn (lows_mem (lows_letter h3).2 h5)
    · exact str_sgn h5
theorem low_words : lows ("until" : Str) = true ∧ lows ("round" : Str) = true ∧ lows ("list" : Str) = true ∧ lows ("row" : Str) = true := by decide +kernel
theorem until_sgn {i : Int} : ∀ c ∈ (untilT i).cps.toList, sgn c = true := by
  intro c hc
  have hc : c ∈ TL.tl (("until" : Str) ++ (" " : Str) ++ strI i) := hc
  rw [TL.tl_append, TL.tl_append, lit_tl.2.2.1] at hc
  rcases List.mem_append.mp hc with hc | hc
  · rcases List.mem_append.mp hc with hc | hc
    · exact low_sgn (lows_mem low_words.1 hc)
    · rw [List.mem_singleton.mp hc]; decide
  · exact str_sgn hc
theorem lines_sgn {d : D} (h : formD d = true) : ∀ x ∈ linesD d, ∀ c ∈ x.cps.toList, sgn c = true := by
  rcases formD_ex h with ⟨ds, rfl, g⟩ | ⟨es, j, rs, rfl, g1, g2, g3, g4, g5⟩
  · intro x hx
    rcases List.mem_cons.mp (show x ∈ ("list" : Str) :: ds.map txtD from hx) with rfl | hx
    · exact fun c hc => low_sgn (lows_mem low_words.2.2.1 hc)
    · obtain ⟨d, hd, rfl⟩ := List.mem_map.mp hx
      exact txt_sgn (stand_can (g d hd))
  · intro x hx
    rcases List.mem_append.mp (show x ∈ ("row" : Str) :: es.map evTxt ++ (untilT j :: rs.flatMap roundL) from hx) with hx | hx
    · rcases List.mem_cons.mp hx with rfl | hx
      · exact fun c hc => low_sgn (lows_mem low_words.2.2.2 hc)
      · obtain ⟨e, he, rfl⟩ := List.mem_map.mp hx
        exact ev_sgn ((events_ex g1).1 e he)
    · rcases List.mem_cons.mp hx with rfl | hx
      · exact until_sgn
      · obtain ⟨r, hr, hx⟩ := List.mem_flatMap.mp hx
        obtain ⟨ss, rfl, gs⟩ := standsD_ex (g5 r hr)
        rcases List.mem_cons.mp (show x ∈ ("round" : Str) :: ss.map txtD from hx) with rfl | hx
        · exact fun c hc => low_sgn (lows_mem low_words.2.1 hc)
        · obtain ⟨d, hd, rfl⟩ := List.mem_map.mp hx
          exact txt_sgn (stand_can (gs d hd))
end K49
/-! the law's own lines -/
namespace K49
open PySem PySem.Spec PyProof.Rows L2 FL
set_option autoImplicit false
variable {cI cP cE : Addr}
theorem out_data {μ : Mu} {ds : List D} {Q : D → Mu → Prop} (h : PlL ds = true) (q : Q (.lst ds) μ) : kG μ Q (.rt (.lst ds)) μ := by
  refine ⟨fun k o hk e => .inl e, ?_⟩
  show D.inn μ.length (.lst ds) = true ∧ Q (.lst ds) (μ.take μ.length)
  rw [List.take_length]
  exact ⟨pl_inn (by rw [pl_lst]; exact h), q⟩
theorem nee_row : ∀ μ, gEqq (.str ("row" : Str)) (.str ("list" : Str)) μ = .ok (.bl false) μ := fun μ => congrFun row_eq μ
theorem eqq_list : ∀ μ, gEqq (.str ("list" : Str)) (.str ("list" : Str)) μ = .ok (.bl true) μ := fun μ => congrFun list_eq μ
theorem ev_app (t x y v : Str) : t ++ (" " : Str) ++ x ++ (" " : Str) ++ y ++ (" " : Str) ++ v = Txt.join (" " : Str) [t, x, y, v] := (join4 t x y v).symm
theorem llines_E {i : Nat} {d : D} {μ : Mu} (h : formD d = true) (hw : wt d ≤ 1000000) : (gs cI cP cE (i + 22))._law_lines [d] μ = .ok (.lst ((linesD d).map .str)) μ := by
  have hl := lines_len h
  have hn := lsum_n (linesD d)
  have hpl : PlL ((linesD d).map .str) = true := pl_strs _ fun x hx => sgn_ok (lines_sgn h x hx)
  refine W.eqD (runG_W ?_)
  show W (G__law_lines _ [some d, none, none, none, none, none, none, none] μ) _
  unfold G__law_lines
  rcases formD_ex h with ⟨ds, rfl, g⟩ | ⟨es, j, rs, rfl, g1, g2, g3, g4, g5⟩
  · have a0 : atI [D.str ("list" : Str), .tup ds] 0 = some (.str ("list" : Str)) := rfl
    have a1 : atI [D.str ("list" : Str), .tup ds] 1 = some (.tup ds) := rfl
    have hs : wt (.tup ds) ≤ 1000000 := by simp only [wt_tup, wtL_cons, wtL_nil] at hw ⊢; omega
    have hlen := len_wt ds
    simp only [↓flS, ↓flE, ↓flO, ↓flI, List.getElem?_cons_zero, List.getElem?_cons_succ, a0, a1, eqq_list, wipeR, List.set_cons_zero, List.set_cons_succ]
    refine ⟨sz (by simp), ?_⟩
    rw [cl_map (fun d => .str (txtD d)), W_ok]
    · rw [wt_tup] at hs
      refine ⟨sz2' (by rw [List.length_map, List.length_singleton]; omega), ?_⟩
      have e : [D.str ("list" : Str)] ++ ds.map (fun d => .str (txtD d)) = (linesD (.tup [.str ("list" : Str), .tup ds])).map .str := by
        show _ = (("list" : Str) :: ds.map txtD).map D.str
        rw [List.map_cons, List.map_map]; rfl
      rw [e]
      exact out_data hpl ⟨rfl, rfl⟩
    · intro y hy
      refine ⟨_, rfl, ev_call (eva_1 (ev_var rfl)) ?_⟩
      exact ltext_E (cI := cI) (cP := cP) (cE := cE) 20 i (stand_can (g y hy)) (by have := wt_mem hy; rw [wt_tup] at hs; omega)
    · exact mul_sz hs
  · have a0 : atI [D.str ("row" : Str), .tup es, .int j, .tup rs] 0 = some (.str ("row" : Str)) := rfl
    have a1 : atI [D.str ("row" : Str), .tup es, .int j, .tup rs] 1 = some (.tup es) := rfl
    have a2 : atI [D.str ("row" : Str), .tup es, .int j, .tup rs] 2 = some (.int j) := rfl
    have a3 : atI [D.str ("row" : Str), .tup es, .int j, .tup rs] 3 = some (.tup rs) := rfl
    have he : wt (.tup es) ≤ 1000000 := by simp only [wt_tup, wtL_cons, wtL_nil] at hw ⊢; omega
    have hr : wt (.tup rs) ≤ 1000000 := by simp only [wt_tup, wtL_cons, wtL_nil] at hw ⊢; omega
    have ev := (events_ex g1).1
    have hlen := len_wt es
    have hl2 : (linesD (.tup [.str ("row" : Str), .tup es, .int j, .tup rs])).length = 2 + es.length + (rs.flatMap roundL).length := by
      show (_ :: es.map evTxt ++ (_ :: rs.flatMap roundL)).length = _
      rw [List.length_append, List.length_cons, List.length_cons, List.length_map]; omega
    -- not a list
    refine seq_cut (fun o μ' => o = .nx [some (.tup [.str ("row" : Str), .tup es, .int j, .tup rs]), none, none, none, none, none, none, none] ∧ μ' = μ) ?_ ?_
    · simp only [↓flS, ↓flE, ↓flO, ↓flI, List.getElem?_cons_zero, List.getElem?_cons_succ, a0, nee_row, and_self]
    rintro o μ' ⟨rfl, rfl⟩
    rw [kS_nx]
    -- found = ["row"]
    refine seq_cut (fun o μ1 => o = .nx [some (.tup [.str ("row" : Str), .tup es, .int j, .tup rs]), none, some (.ref μ'.length), none, none, none, none, none] ∧ μ1 = μ' ++ [.lst [.str ("row" : Str)]]) ?_ ?_
    · simp only [↓flS, ↓flE, ↓flO, ↓flI, List.getElem?_cons_zero, List.getElem?_cons_succ, List.set_cons_zero, List.set_cons_succ, and_true]
      exact sz (by simp)
    rintro o μ1 ⟨rfl, rfl⟩
    rw [kS_nx]
    -- the events
    refine seq_cut (fun o μ1 => (∃ o3 o4 o5 o6, o = .nx [some (.tup [.str ("row" : Str), .tup es, .int j, .tup rs]), none, some (.ref μ'.length), o3, o4, o5, o6, none]) ∧ μ1 = μ' ++ [.lst ((("row" : Str) :: es.map evTxt).map .str)]) ?_ ?_
    · rw [loop_for]
      simp only [↓flI, ↓flE, ↓flO, List.getElem?_cons_zero, a1]
      refine loop_W (fun rest ρ μ1 => ∃ done, es = done ++ rest ∧ (∃ o3 o4 o5 o6, ρ = [some (.tup [.str ("row" : Str), .tup es, .int j, .tup rs]), none, some (.ref μ'.length), o3, o4, o5, o6, none]) ∧ μ1 = μ' ++ [.lst ((("row" : Str) :: done.map evTxt).map .str)]) ?_ ?_ _ _ _ ⟨[], rfl, ⟨_, _, _, _, rfl⟩, rfl⟩
      · rintro e rest ρ μ1 ⟨done, ed, ⟨o3, o4, o5, o6, rfl⟩, rfl⟩
        have hee := ev e (by rw [ed]; simp)
        have hlv := (evTxt_len hee).2
        obtain ⟨t, x, y, v, rfl, h0, h1, h2, h3, h4⟩ := event_ex2 hee
        have gt := getA (μ := μ') (o := .lst ((("row" : Str) :: done.map evTxt).map .str))
        have hdl : done.length + 1 ≤ es.length := by rw [ed]; simp
        have b1 := str_len h1
        have b4 := str_len h4
        have b2 := name_low h2
        have b3 := lows_letter h3
        refine ⟨_, rfl, ?_⟩
        simp only [↓flS, ↓flE, ↓flO, ↓flI, List.getElem?_cons_zero, List.getElem?_cons_succ, List.set_cons_zero, List.set_cons_succ]
        refine ⟨tyR gt, log_isInt h1, sz (by rw [len1s.2.2.1]; omega), sz (by rw [len_app, len1s.2.2.1]; omega), sz (by simp only [len_app, len1s.2.2.1]; omega), sz (by simp only [len_app, len1s.2.2.1]; omega), sz (by simp only [len_app, len1s.2.2.1]; omega), log_isInt h4, sz (by simp only [len_app, len1s.2.2.1]; omega), ?_⟩
        rw [wt_tup] at he
        rw [appR gt (Nat.lt_of_le_of_lt (m := 2000000) (by rw [List.length_map, List.length_cons, List.length_map]; omega) (by decide))]
        refine ⟨done ++ [.tup [.int t, .str x, .str y, .int v]], by rw [ed, List.append_assoc]; rfl, ⟨_, _, _, _, rfl⟩, ?_⟩
        rw [set_last, ev_app]
        simp only [List.map_append, List.map_cons, List.map_nil, List.cons_append]
        rfl
      · rintro ρ μ1 ⟨done, ed, h1, rfl⟩
        rw [List.append_nil] at ed
        subst ed
        exact ⟨by obtain ⟨o3, o4, o5, o6, rfl⟩ := h1; exact ⟨_, _, _, _, rfl⟩, rfl⟩
    rintro o μ1 ⟨⟨o3, o4, o5, o6, rfl⟩, rfl⟩
    rw [kS_nx]
    -- until
    have gt := getA (μ := μ') (o := .lst ((("row" : Str) :: es.map evTxt).map .str))
    have ul := until_len g2
    have ull := ul
    unfold untilT at ull
    rw [wt_tup] at he
    refine seq_cut (fun o μ1 => o = .nx [some (.tup [.str ("row" : Str), .tup es, .int j, .tup rs]), none, some (.ref μ'.length), o3, o4, o5, o6, none] ∧ μ1 = μ' ++ [.lst ((("row" : Str) :: es.map evTxt ++ [untilT j]).map .str)]) ?_ ?_
    · simp only [↓flS, ↓flE, ↓flO, ↓flI, List.getElem?_cons_zero, List.getElem?_cons_succ, List.set_cons_zero, List.set_cons_succ, a2]
      rw [until_lit]
      refine ⟨tyR gt, log_isInt g2, sz (by rw [← len_app]; exact Nat.le_trans ull (by omega)), ?_⟩
      rw [appR gt (Nat.lt_of_le_of_lt (m := 2000000) (by rw [List.length_map, List.length_cons, List.length_map]; omega) (by decide))]
      refine ⟨trivial, ?_⟩
      rw [set_last, List.map_append]
      rfl
    rintro o μ1 ⟨rfl, rfl⟩
    rw [kS_nx]
    -- the rounds
    refine seq_cut (fun o μ1 => (∃ o1 o7, o = .nx [some (.tup [.str ("row" : Str), .tup es, .int j, .tup rs]), o1, some (.ref μ'.length), o3, o4, o5, o6, o7]) ∧ μ1 = μ' ++ [.lst ((linesD (.tup [.str ("row" : Str), .tup es, .int j, .tup rs])).map .str)]) ?_ ?_
    · rw [loop_for]
      simp only [↓flI, ↓flE, ↓flO, List.getElem?_cons_zero, a3]
      refine loop_W (fun rest ρ μ1 => ∃ done, rs = done ++ rest ∧ (∃ o1 o7, ρ = [some (.tup [.str ("row" : Str), .tup es, .int j, .tup rs]), o1, some (.ref μ'.length), o3, o4, o5, o6, o7]) ∧ μ1 = μ' ++ [.lst ((("row" : Str) :: es.map evTxt ++ (untilT j :: done.flatMap roundL)).map .str)]) ?_ ?_ _ _ _ ⟨[], rfl, ⟨_, _, rfl⟩, rfl⟩
      · rintro r rest ρ μ1 ⟨done, ed, ⟨o1, o7, rfl⟩, rfl⟩
        have hr1 : r ∈ rs := by rw [ed]; simp
        obtain ⟨ss, rfl, gss⟩ := standsD_ex (g5 r hr1)
        have hdl : (done.flatMap roundL).length + (1 + ss.length) ≤ (rs.flatMap roundL).length := by
          rw [ed, List.flatMap_append, List.flatMap_cons, List.length_append, List.length_append]
          have : (roundL (.tup ss)).length = 1 + ss.length := by show (_ :: ss.map txtD).length = _; rw [List.length_cons, List.length_map]; omega
          omega
        have hws : wt (.tup ss) ≤ 1000000 := by have := wt_mem hr1; rw [wt_tup rs] at hr; omega
        have gt := getA (μ := μ') (o := .lst ((("row" : Str) :: es.map evTxt ++ (untilT j :: done.flatMap roundL)).map .str))
        have ln : ((("row" : Str) :: es.map evTxt ++ (untilT j :: done.flatMap roundL)).map D.str).length = 2 + es.length + (done.flatMap roundL).length := by
          simp only [List.length_map, List.length_append, List.length_cons]; omega
        refine ⟨_, rfl, ?_⟩
        simp only [↓flS, ↓flE, ↓flO, ↓flI, List.getElem?_cons_zero, List.getElem?_cons_succ, List.set_cons_zero, List.set_cons_succ]
        refine ⟨tyR gt, ?_⟩
        rw [appR gt (Nat.lt_of_le_of_lt (m := 10000000) (by rw [ln]; omega) (by decide)), set_last]
        have gt2 := getA (μ := μ') (o := .lst ((("row" : Str) :: es.map evTxt ++ (untilT j :: done.flatMap roundL)).map .str ++ [.str ("round" : Str)]))
        refine ⟨tyR gt2, ?_⟩
        simp only [wipeR, List.set_cons_zero, List.set_cons_succ]
        rw [cl_map (fun d => .str (txtD d)), W_ok]
        · rw [extR gt2 (sz2' (by rw [List.length_append, ln, List.length_map, List.length_singleton]; omega)), set_last]
          refine ⟨done ++ [.tup ss], by rw [ed, List.append_assoc]; rfl, ⟨_, _, rfl⟩, ?_⟩
          have e : (done ++ [D.tup ss]).flatMap roundL = done.flatMap roundL ++ (("round" : Str) :: ss.map txtD) := by
            rw [List.flatMap_append, List.flatMap_cons, List.flatMap_nil, List.append_nil]; rfl
          rw [e]
          congr 1
          congr 1
          congr 1
          simp only [List.map_append, List.map_cons, List.append_assoc, List.map_map, List.cons_append, List.nil_append]
          rfl
        · intro y hy
          refine ⟨_, rfl, ev_call (eva_1 (ev_var rfl)) ?_⟩
          exact ltext_E (cI := cI) (cP := cP) (cE := cE) 20 i (stand_can (gss y hy)) (by have := wt_mem hy; rw [wt_tup] at hws; omega)
        · exact mul_sz hws
      · rintro ρ μ1 ⟨done, ed, h1, rfl⟩
        rw [List.append_nil] at ed
        subst ed
        exact ⟨by obtain ⟨o1, o7, rfl⟩ := h1; exact ⟨_, _, rfl⟩, rfl⟩
    rintro o μ1 ⟨⟨o1, o7, rfl⟩, rfl⟩
    rw [kS_nx]
    simp only [↓flS, ↓flE, List.getElem?_cons_zero, List.getElem?_cons_succ]
    exact out_last hpl ⟨rfl, rfl⟩
end K49
/-! reading: integers, words -/
namespace K49
open PySem PySem.Spec PyProof.Rows L2 FL
set_option autoImplicit false
variable {cI cP cE : Addr}
theorem tl_cut_hi (x : Str) : TL.tl (cutS x none (some 1)) = (TL.tl x).take 1 := by
  have e := HT.sIx_nat x.length x.length 1
  have e : HT.sIx x.length x.length (some 1) = min 1 x.length := e
  unfold cutS
  rw [e, show HT.sIx x.length 0 none = 0 from rfl, List.drop_zero, Nat.sub_zero]
  show List.take _ (TL.tl x) = _
  have := TL.len_tl x
  rcases Nat.lt_or_ge x.length 1 with h | h
  · rw [List.take_of_length_le (by omega), List.take_of_length_le (by omega)]
  · rw [Nat.min_eq_left h]
theorem tl_cut_lo (x : Str) : TL.tl (cutS x (some 1) none) = (TL.tl x).drop 1 := by
  have e := HT.sIx_nat x.length 0 1
  have e : HT.sIx x.length 0 (some 1) = min 1 x.length := e
  unfold cutS
  rw [e, show HT.sIx x.length x.length none = x.length from rfl]
  show List.take _ (List.drop _ (TL.tl x)) = _
  have := TL.len_tl x
  rcases Nat.lt_or_ge x.length 1 with h | h
  · rw [List.drop_of_length_le (by omega), List.drop_of_length_le (by omega), List.take_nil]
  · rw [Nat.min_eq_left h, List.take_of_length_le (by rw [List.length_drop]; omega)]
def dig (c : Nat) : Bool := decide (48 ≤ c) && decide (c ≤ 57)
theorem in_digits (c : Nat) (μ : Mu) : gIn false (sign c) (.str ("0123456789" : Str)) μ = .ok (.bl (dig c)) μ := by
  have e : gIn false (sign c) (.str ("0123456789" : Str)) μ = .ok (.bl (false ^^ decide (c ∈ (("0123456789" : Str)).cps.toList))) μ := rfl
  have e2 : (("0123456789" : Str)).cps.toList = (List.range 10).map (· + 48) := by decide +kernel
  rw [e, e2]
  congr 2
  rw [Bool.false_xor]
  unfold dig
  rw [Bool.eq_iff_iff, decide_eq_true_eq, Bool.and_eq_true, decide_eq_true_eq, decide_eq_true_eq]
  constructor
  · intro h
    obtain ⟨j, hj, rfl⟩ := List.mem_map.mp h
    have := List.mem_range.mp hj
    omega
  · rintro ⟨h1, h2⟩
    exact List.mem_map.mpr ⟨c - 48, List.mem_range.mpr (by omega), by omega⟩
def digD : D → Bool
  | .str y => y.cps.toList.all dig
  | _ => false
theorem digD_sign (c : Nat) : digD (sign c) = dig c := by simp [digD, sign]
theorem int_str (x : Str) (j : Int) (h : PySem.intText? x = some j) (hl : x.length ≤ 640) (μ : Mu) : gInt [.str x] μ = .ok (.int j) μ := by
  unfold gInt
  simp only [h]
  rw [if_pos hl]
theorem integer_E {i : Nat} {j : Int} {μ : Mu} (h : isInt (.int j) = true) : (gs cI cP cE (i + 2)).integer_of [.str (strI j)] μ = .ok (.int j) μ := by
  have hl := str_len h
  have hb := int_back h
  have ht := str_tl j
  refine W.eqD (runK_W ?_)
  show W (G_integer_of _ [some (.str (strI j)), none, none, none] μ) _
  unfold G_integer_of
  have hz : (strI j).length ≤ sizeLine := sz (by unfold strI; omega)
  refine seq_cut (fun o μ' => ∃ dg : Str, o = .nx [some (.str (strI j)), some (.str dg), none, none] ∧ μ' = μ ∧ TL.tl dg = TL.numL j.natAbs) ?_ ?_
  · simp only [↓flS, ↓flE, ↓flO, ↓flI, ↓flQ, List.getElem?_cons_zero, List.getElem?_cons_succ, List.set_cons_zero, List.set_cons_succ]
    refine ⟨hz, fun hd => ⟨hz, _, rfl, trivial, ?_⟩, fun hd => ⟨_, rfl, trivial, ?_⟩⟩
    · have e := of_decide_eq_true hd
      have e := congrArg TL.tl e
      rw [tl_cut_hi, lit_tl.2.2.2.1] at e
      rw [tl_cut_lo]
      have e2 : TL.tl (strI j) = _ := ht
      rw [e2] at e ⊢
      by_cases hj : j < 0
      · rw [if_pos hj]; rfl
      · rw [if_neg hj, List.nil_append] at e
        exfalso
        have hd := TL.numL_digits j.natAbs
        cases hn : TL.numL j.natAbs with
        | nil => exact TL.numL_ne _ hn
        | cons c cs =>
          rw [hn] at e hd
          have : c = 45 := by simpa using e
          have := hd.head
          omega
    · have e2 : TL.tl (strI j) = _ := ht
      by_cases hj : j < 0
      · exfalso
        have hd := of_decide_eq_false hd
        refine hd (TL.ext_tl ?_)
        rw [tl_cut_hi, e2, if_pos hj, lit_tl.2.2.2.1]
        rfl
      · rw [e2, if_neg hj, List.nil_append]
  rintro o μ' ⟨dg, rfl, rfl, hdg⟩
  rw [kS_nx]
  have dl : dg.length ≤ 61 ∧ 1 ≤ dg.length := by
    have l := TL.numL_len (k := 60) (by decide) (isInt_abs h)
    have l2 := List.length_pos_iff.mpr (TL.numL_ne j.natAbs)
    rw [TL.len_tl, hdg]
    omega
  refine guard_W false ?_ (fun e => by cases e) fun _ => ?_
  · simp only [↓flS, ↓flE, ↓flO, ↓flI, ↓flQ, List.getElem?_cons_zero, List.getElem?_cons_succ, List.set_cons_zero, List.set_cons_succ, wipeR]
    have ne : decide (dg = ("" : Str)) = false := decide_eq_false fun z => by
      have : dg.length = 0 := by rw [z]; decide +kernel
      omega
    rw [ne, br_f]
    refine ⟨hz, ?_⟩
    have e61 : decide (((61 : Int)) < ((strI j).length : Nat)) = false := decide_eq_false (by unfold strI; omega)
    rw [e61, br_f, all_W digD]
    · have : (dg.cps.toList.map sign).all digD = true := by
        rw [List.all_map, List.all_eq_true]
        intro c hc
        have hc : c ∈ TL.tl dg := hc
        rw [hdg] at hc
        have := TL.numL_digits _ c hc
        show digD (sign c) = true
        rw [digD_sign]
        unfold dig
        rw [decide_eq_true this.1, decide_eq_true this.2]; rfl
      simp only [this, ↓flE, Bool.not_true, isB_eq]
    · intro y hy
      obtain ⟨c, hc, rfl⟩ := List.mem_map.mp hy
      refine ⟨_, rfl, ?_⟩
      rw [digD_sign]
      exact ev_bin (ev_var rfl) ev_c (in_digits c _)
    · rw [signs_len]; exact sz (by omega)
  · simp only [↓flS, ↓flE, ↓flO, ↓flI, ↓flQ, List.getElem?_cons_zero, List.getElem?_cons_succ, List.set_cons_zero, List.set_cons_succ]
    rw [int_str (strI j) j hb (by unfold strI; omega), W_ok]
    simp only [↓flS, ↓flE, ↓flO, ↓flI, ↓flQ, List.getElem?_cons_zero, List.getElem?_cons_succ]
    refine ⟨log_isInt h, ?_⟩
    have e : decide (Str.ofString (toString j) = strI j) = true := decide_eq_true rfl
    have pi : Pl (.int j) = true := rfl
    rw [e, br_t, int_E pi, W_ok, h]
    simp only [↓flE, br_t]
    exact ⟨rfl, rfl⟩
theorem dash_E {i : Nat} {μ : Mu} : (gs cI cP cE (i + 2)).integer_of [.str ("-" : Str)] μ = .ok .non μ := by
  refine W.eqD ?_
  show W (runK 4 (G_integer_of (gs cI cP cE (i + 1)).is_integer) [.str ("-" : Str)] μ) _
  refine runK_W ?_
  show W (G_integer_of _ [some (.str ("-" : Str)), none, none, none] μ) _
  unfold G_integer_of
  have hz : ("-" : Str).length ≤ sizeLine := sz (by rw [len1s.2.2.2.1]; omega)
  have c1 : cutS ("-" : Str) none (some 1) = ("-" : Str) := TL.ext_tl (by rw [tl_cut_hi, lit_tl.2.2.2.1]; rfl)
  have c2 : cutS ("-" : Str) (some 1) none = ("" : Str) := TL.ext_tl (by rw [tl_cut_lo, lit_tl.2.2.2.1]; decide +kernel)
  simp only [↓flS, ↓flE, ↓flO, ↓flI, ↓flQ, List.getElem?_cons_zero, List.getElem?_cons_succ, List.set_cons_zero, List.set_cons_succ, c1, c2, hz, true_and, decide_true]
  exact ⟨rfl, rfl⟩
end K49
/-! reading: the words of a text -/
namespace K49
open PySem PySem.Spec PyProof.Rows L2 FL
set_option autoImplicit false
variable {cI cP cE : Addr}
def mkS (l : List Nat) : Str := ⟨l.toArray⟩
theorem tl_mkS (l : List Nat) : TL.tl (mkS l) = l := rfl
theorem mkS_tl (x : Str) : mkS (TL.tl x) = x := TL.mk_tl x
def sepc (c : Nat) : Bool := decide (c = 32) || decide (c = 40) || decide (c = 41)
abbrev WS := List (List Nat) × List Nat
def flush (s : WS) : List (List Nat) := if s.2 = [] then s.1 else s.1 ++ [s.2]
def stepW (s : WS) (c : Nat) : WS := if sepc c = true then (if c = 32 then flush s else flush s ++ [[c]], []) else (s.1, s.2 ++ [c])
def toks : D → List (List Nat)
  | .tup ds => [40] :: toksL ds ++ [[41]]
  | d => [TL.tl (txtD d)]
where toksL : List D → List (List Nat)
  | [] => []
  | d :: ds => toks d ++ toksL ds
theorem toks_tup (ds : List D) : toks (.tup ds) = [40] :: ds.flatMap toks ++ [[41]] := by
  have h : ∀ ds : List D, toks.toksL ds = ds.flatMap toks := by
    intro ds
    induction ds with
    | nil => rw [toks.toksL]; rfl
    | cons d ds ih => rw [toks.toksL, ih, List.flatMap_cons]
  rw [toks, h]
theorem toks_atom {d : D} (h : isTup d = false) : toks d = [TL.tl (txtD d)] := by
  cases d with
  | tup ds => cases h
  | _ => rw [toks]; intro ds z; cases z
/-- a run of signs of a word -/
theorem fold_word : ∀ (p : List Nat) (ws : List (List Nat)) (w : List Nat), (∀ c ∈ p, sepc c = false) → p.foldl stepW (ws, w) = (ws, w ++ p)
  | [], ws, w, _ => by rw [List.append_nil]; rfl
  | c :: p, ws, w, h => by
    have hc := h c List.mem_cons_self
    rw [List.foldl_cons]
    have e : stepW (ws, w) c = (ws, w ++ [c]) := by unfold stepW; rw [hc, if_neg Bool.false_ne_true]
    rw [e, fold_word p ws (w ++ [c]) fun x hx => h x (List.mem_cons_of_mem _ hx), List.append_assoc]
    rfl
theorem step_sp (s : WS) : stepW s 32 = (flush s, []) := by
  unfold stepW; rw [if_pos (by decide), if_pos rfl]
theorem step_op (s : WS) : stepW s 40 = (flush s ++ [[40]], []) := by
  unfold stepW; rw [if_pos (by decide), if_neg (by decide)]
theorem step_cl (s : WS) : stepW s 41 = (flush s ++ [[41]], []) := by
  unfold stepW; rw [if_pos (by decide), if_neg (by decide)]
theorem flush_nil (ws : List (List Nat)) : flush (ws, []) = ws := rfl
theorem join_fold {f : List D → List (List Nat)} : ∀ (ds : List D) (ws : List (List Nat)), (∀ d ∈ ds, ∀ ws, flush ((TL.tl (txtD d)).foldl stepW (ws, [])) = ws ++ toks d) → flush ((TL.joinL [32] (ds.map fun d => TL.tl (txtD d))).foldl stepW (ws, [])) = ws ++ ds.flatMap toks
  | [], ws, _ => by show flush (ws, []) = _; rw [flush_nil, List.flatMap_nil, List.append_nil]
  | [d], ws, h => by
    show flush ((TL.tl (txtD d)).foldl stepW (ws, [])) = _
    rw [h d (List.mem_singleton.mpr rfl), List.flatMap_cons, List.flatMap_nil, List.append_nil]
  | d :: e :: r, ws, h => by
    show flush ((TL.tl (txtD d) ++ ([32] ++ TL.joinL [32] ((e :: r).map fun d => TL.tl (txtD d)))).foldl stepW (ws, [])) = _
    rw [List.foldl_append, List.foldl_append]
    rw [show [32].foldl stepW ((TL.tl (txtD d)).foldl stepW (ws, [])) = stepW ((TL.tl (txtD d)).foldl stepW (ws, [])) 32 from rfl, step_sp, h d List.mem_cons_self]
    rw [join_fold (f := f) (e :: r) (ws ++ toks d) fun x hx => h x (List.mem_cons_of_mem _ hx), List.append_assoc]
    rfl
theorem atom_word {n : Nat} {d : D} (h : canW n d = true) (ht : isTup d = false) : (∀ c ∈ TL.tl (txtD d), sepc c = false) ∧ TL.tl (txtD d) ≠ [] := by
  rw [canW_atomE ht] at h
  cases d with
  | tup ds => cases ht
  | non => rw [txtD, lit_tl.2.2.2.1]; exact ⟨fun c hc => by rw [List.mem_singleton.mp hc]; rfl, by simp⟩
  | int i =>
    have hi : isInt (.int i) = true := by simpa [atomOk, isN, isWord] using h
    rw [txtD]
    refine ⟨fun c hc => ?_, fun z => ?_⟩
    · have := str_mem hc
      simp only [sepc, Bool.or_eq_false_iff, decide_eq_false_iff_not]
      omega
    · have := str_len hi
      rw [TL.len_tl, z] at this
      simp at this
  | str x =>
    rw [txtD]
    simp only [atomOk, isN, isInt, isWord, Bool.false_or, Bool.and_eq_true, decide_eq_true_eq] at h
    refine ⟨fun c hc => ?_, fun z => ?_⟩
    · have := lows_mem h.2 hc
      simp only [low, Bool.and_eq_true, decide_eq_true_eq] at this
      simp only [sepc, Bool.or_eq_false_iff, decide_eq_false_iff_not]
      omega
    · have := h.1
      rw [TL.len_tl, z] at this
      simp at this
  | _ => cases h
theorem txt_fold : ∀ {n : Nat} {d : D}, canW n d = true → ∀ ws, flush ((TL.tl (txtD d)).foldl stepW (ws, [])) = ws ++ toks d := by
  have at0 : ∀ {n : Nat} {d : D}, canW n d = true → isTup d = false → ∀ ws, flush ((TL.tl (txtD d)).foldl stepW (ws, [])) = ws ++ toks d := by
    intro n d h ht ws
    obtain ⟨h1, h2⟩ := atom_word h ht
    rw [fold_word _ _ _ h1, List.nil_append, toks_atom ht]
    unfold flush
    rw [if_neg h2]
  intro n
  induction n with
  | zero =>
    intro d h
    rcases cases_tup d with ⟨ds, rfl⟩ | ht
    · cases h
    · exact at0 h ht
  | succ n ih =>
    intro d h ws
    rcases cases_tup d with ⟨ds, rfl⟩ | ht
    · rw [canW, List.all_eq_true] at h
      have e : TL.tl (txtD (.tup ds)) = [40] ++ TL.joinL [32] (ds.map fun d => TL.tl (txtD d)) ++ [41] := by
        rw [txt_tup, TL.tl_append, TL.tl_append, lit_tl.1, lit_tl.2.1, TL.join_eq, TL.tl_join, lit_tl.2.2.1, List.map_map]
        rfl
      rw [e, List.foldl_append, List.foldl_append]
      rw [show [40].foldl stepW (ws, []) = stepW (ws, []) 40 from rfl, step_op, flush_nil]
      rw [show ∀ s : WS, [41].foldl stepW s = stepW s 41 from fun _ => rfl, step_cl, join_fold (f := fun _ => []) ds _ fun d hd => ih (h d hd), flush_nil, toks_tup]
      simp only [List.append_assoc, List.cons_append, List.nil_append]
    · exact at0 h ht ws
/-! ### the walk -/
def wD (l : List Nat) : D := .str (mkS l)
theorem foldl_len : ∀ (p : List Nat) (s : WS), (p.foldl stepW s).2.length + 2 * (p.foldl stepW s).1.length ≤ s.2.length + 2 * s.1.length + 4 * p.length
  | [], s => by simp
  | c :: p, s => by
    have ih := foldl_len p (stepW s c)
    have e : (stepW s c).2.length + 2 * (stepW s c).1.length ≤ s.2.length + 2 * s.1.length + 4 := by
      unfold stepW flush
      split
      · split <;> split <;> simp only [List.length_append, List.length_cons, List.length_nil] <;> omega
      · simp only [List.length_append, List.length_cons, List.length_nil]; omega
    rw [List.foldl_cons, List.length_cons]
    omega
theorem one_eq (c s : Nat) {x : Str} (e : x = ⟨#[s]⟩) : decide ((⟨#[c]⟩ : Str) = x) = decide (c = s) := by
  rw [e]
  simp
theorem lit_one : (" " : Str) = ⟨#[32]⟩ ∧ ("(" : Str) = ⟨#[40]⟩ ∧ (")" : Str) = ⟨#[41]⟩ ∧ ("-" : Str) = ⟨#[45]⟩ := by decide +kernel
theorem nee_sp (c : Nat) (μ : Mu) : gNee (sign c) (.str (" " : Str)) μ = .ok (.bl (!decide (c = 32))) μ := by
  show Rs.ok (D.bl (!decide (V.str ⟨#[c]⟩ = V.str (" " : Str)))) μ = _
  have : decide (V.str ⟨#[c]⟩ = V.str (" " : Str)) = decide (c = 32) := by
    rw [← one_eq c 32 lit_one.1]; simp
  rw [this]
theorem in_par (c : Nat) (μ : Mu) : gIn true (sign c) (.tup [.str ("(" : Str), .str (")" : Str)]) μ = .ok (.bl (!(decide (c = 40) || decide (c = 41)))) μ := by
  have e := inT_strs (x := ⟨#[c]⟩) (xs := [("(" : Str), (")" : Str)]) (neg := true) (μ := μ)
  have e2 : decide ((⟨#[c]⟩ : Str) ∈ [("(" : Str), (")" : Str)]) = (decide (c = 40) || decide (c = 41)) := by
    rw [← one_eq c 40 lit_one.2.1, ← one_eq c 41 lit_one.2.2.1, Bool.eq_iff_iff]
    simp
  rw [e2] at e
  exact e.trans (by simp)
theorem aug_str {i : Nat} {F : FE} {ρ : Rho} {μ : Mu} {x y : Str} {Q : Ot → Mu → Prop} (h : ρ[i]? = some (some (.str x))) (hF : F ρ μ = .ok (.str y) μ) : W (gAug i F ρ μ) Q = (x.length + y.length ≤ sizeLine ∧ Q (.nx (ρ.set i (some (.str (x ++ y))))) μ) := by
  unfold gAug
  rw [h]
  simp only [hF, bind_ok]
  exact W_iteQ _ _ _ _
theorem star_ref {F : FE} {Fs : FA} {ρ : Rho} {μ : Mu} {l : Nat} {xs : List D} {Q : List D → Mu → Prop} (hF : F ρ μ = .ok (.ref l) μ) (h : μ[l]? = some (.lst xs)) : W (fStar F Fs ρ μ) Q = W (Fs ρ μ) fun ys μ2 => Q (xs ++ ys) μ2 := by
  unfold fStar
  rw [hF, bind_ok]
  simp only [D.items, h]
  exact W_bindQ _ _ _
theorem out_dataL {μ : Mu} {o : Ob} {ds : List D} {Q : D → Mu → Prop} (h : PlL ds = true) (q : Q (.lst ds) μ) : kG μ Q (.rt (.lst ds)) (μ ++ [o]) := by
  refine ⟨fit_last, ?_⟩
  show D.inn μ.length (.lst ds) = true ∧ Q (.lst ds) ((μ ++ [o]).take μ.length)
  rw [take_last]
  exact ⟨pl_inn (by rw [pl_lst]; exact h), q⟩
theorem mkS_nil (w : List Nat) : decide (mkS w = ("" : Str)) = decide (w = []) := by
  rw [emp]
  refine decide_eq_decide.mpr ⟨fun h => ?_, fun h => by rw [h]; rfl⟩
  have := congrArg TL.tl h
  exact this
theorem len_mkS (w : List Nat) : (mkS w).length = w.length := by rw [TL.len_tl]; rfl
/-- words of plain signs are plain -/
theorem pl_words {ws : List (List Nat)} (h : ∀ w ∈ ws, ∀ c ∈ w, c < 128) : PlL (ws.map wD) = true := plL_of fun d hd => by
  obtain ⟨w, hw, rfl⟩ := List.mem_map.mp hd
  show okS (mkS w) = true
  exact List.all_eq_true.mpr fun c hc => decide_eq_true (h w hw c hc)
theorem step_plain {s : WS} {c : Nat} (h : ∀ w ∈ s.1, ∀ c ∈ w, c < 128) (h2 : ∀ c ∈ s.2, c < 128) (hc : c < 128) : (∀ w ∈ (stepW s c).1, ∀ c ∈ w, c < 128) ∧ ∀ c' ∈ (stepW s c).2, c' < 128 := by
  have fl : ∀ w ∈ flush s, ∀ c ∈ w, c < 128 := by
    unfold flush
    split
    · exact h
    · intro w hw
      rcases List.mem_append.mp hw with hw | hw
      · exact h w hw
      · rw [List.mem_singleton.mp hw]; exact h2
  unfold stepW
  split
  · refine ⟨?_, fun c' h' => by cases h'⟩
    split
    · exact fl
    · intro w hw
      rcases List.mem_append.mp hw with hw | hw
      · exact fl w hw
      · rw [List.mem_singleton.mp hw]
        intro c' h'
        rw [List.mem_singleton.mp h']; exact hc
  · refine ⟨h, fun c' h' => ?_⟩
    rcases List.mem_append.mp h' with h' | h'
    · exact h2 c' h'
    · rw [List.mem_singleton.mp h']; exact hc
theorem words_E {i : Nat} {x : Str} {μ : Mu} (hx : ∀ c ∈ TL.tl x, c < 128) (hl : x.length ≤ 1000000) : (gs cI cP cE (i + 1)).words_in [.str x] μ = .ok (.lst ((flush ((TL.tl x).foldl stepW ([], []))).map wD)) μ := by
  refine W.eqD (runG_W ?_)
  show W (G_words_in [some (.str x), none, none, none] μ) _
  unfold G_words_in
  refine seq_cut (fun o μ1 => o = .nx [some (.str x), some (.ref μ.length), none, none] ∧ μ1 = μ ++ [.lst []]) ?_ ?_
  · simp only [↓flS, ↓flE, List.set_cons_zero, List.set_cons_succ, and_self, and_true]
    exact sz (by simp)
  rintro o μ1 ⟨rfl, rfl⟩
  rw [kS_nx]
  refine seq_cut (fun o μ1 => o = .nx [some (.str x), some (.ref μ.length), some (.str ("" : Str)), none] ∧ μ1 = μ ++ [.lst []]) ?_ ?_
  · simp only [↓flS, ↓flE, List.set_cons_zero, List.set_cons_succ, and_self]
  rintro o μ1 ⟨rfl, rfl⟩
  rw [kS_nx]
  have e0 : ("" : Str) = mkS [] := emp
  refine seq_cut (fun o μ1 => ∃ s : WS, (∃ o3, o = .nx [some (.str x), some (.ref μ.length), some (.str (mkS s.2)), o3]) ∧ μ1 = μ ++ [.lst (s.1.map wD)] ∧ s = (TL.tl x).foldl stepW ([], []) ∧ s.1.length ≤ 3000000 ∧ (∀ w ∈ s.1, ∀ c ∈ w, c < 128) ∧ ∀ c ∈ s.2, c < 128) ?_ ?_
  · rw [loop_for]
    simp only [↓flI, ↓flE, List.getElem?_cons_zero]
    refine loop_W (fun rest ρ μ1 => ∃ (cs : List Nat) (s : WS), rest = cs.map sign ∧ (∃ o3, ρ = [some (.str x), some (.ref μ.length), some (.str (mkS s.2)), o3]) ∧ μ1 = μ ++ [.lst (s.1.map wD)] ∧ cs.foldl stepW s = (TL.tl x).foldl stepW ([], []) ∧ s.2.length + 2 * s.1.length + 4 * cs.length ≤ 4000000 ∧ (∀ c ∈ cs, c < 128) ∧ (∀ w ∈ s.1, ∀ c ∈ w, c < 128) ∧ ∀ c ∈ s.2, c < 128) ?_ ?_ _ _ _ ⟨TL.tl x, ([], []), rfl, ⟨_, by rw [e0]⟩, rfl, rfl, by rw [← TL.len_tl]; simp; omega, hx, fun _ h => (by cases h), fun _ h => (by cases h)⟩
    · rintro d rest ρ μ1 ⟨cs, s, hr, ⟨o3, rfl⟩, rfl, hf, hz, p1, p2, p3⟩
      cases cs with
      | nil => cases hr
      | cons c cs =>
        rw [List.map_cons] at hr
        injection hr with hr1 hr2
        subst hr1 hr2
        rw [List.length_cons] at hz
        have q := step_plain p2 p3 (p1 c List.mem_cons_self)
        have gt := getA (μ := μ) (o := .lst (s.1.map wD))
        have hq : (stepW s c).2.length + 2 * (stepW s c).1.length ≤ s.2.length + 2 * s.1.length + 4 := foldl_len [c] s
        refine ⟨_, rfl, ?_⟩
        refine W.mono (P := fun o μ' => (∃ o3, o = .nx [some (.str x), some (.ref μ.length), some (.str (mkS (stepW s c).2)), o3] ∨ o = .ct [some (.str x), some (.ref μ.length), some (.str (mkS (stepW s c).2)), o3]) ∧ μ' = μ ++ [.lst ((stepW s c).1.map wD)]) ?_ ?_
        · have l1 : s.1.length + 2 ≤ 4000000 := by omega
          have l2 : s.2.length + 2 ≤ 4000000 := by omega
          clear hf hz q hq p1 p2 p3 hx
          have flushed : ∀ (c : Nat) (P : Ot → Mu → Prop) (G : FS) (ρ3 : Option D), W (G [some (.str x), some (.ref μ.length), some (.str ("" : Str)), ρ3] (μ ++ [.lst ((flush s).map wD)])) P → W (gSeq (gIf (fB (fBin gNee (fVar 2) (fC (.str "")))) (gSeq (gExpr (fMeth "list" gAppend (fVar 1) (fCons (fVar 2) fNil))) (gSet (fC (.str "")) (tgN 2))) gNx) G [some (.str x), some (.ref μ.length), some (.str (mkS s.2)), ρ3] (μ ++ [.lst (s.1.map wD)])) P := by
            intro c P G ρ3 hP
            simp only [↓flS, ↓flE, ↓flO, ↓flI, ↓flQ, List.getElem?_cons_zero, List.getElem?_cons_succ, List.set_cons_zero, List.set_cons_succ, mkS_nil]
            unfold flush at hP
            refine ⟨fun h => ?_, fun h => ?_⟩
            · have h' : ¬ s.2 = [] := by simpa using h
              rw [if_neg h'] at hP
              refine ⟨tyR gt, ?_⟩
              rw [appR gt (Nat.lt_of_le_of_lt (m := 5000000) (by rw [List.length_map]; omega) (by decide)), set_last]
              have e : s.1.map wD ++ [D.str (mkS s.2)] = (s.1 ++ [s.2]).map wD := by rw [List.map_append]; rfl
              rw [e]
              exact hP
            · have h' : s.2 = [] := by simpa using h
              rw [if_pos h'] at hP
              rw [h', ← e0]
              exact hP
          have fl : (flush s).length + 1 ≤ 5000000 := by
            unfold flush
            split
            · omega
            · rw [List.length_append, List.length_singleton]; omega
          have gt2 := getA (μ := μ) (o := .lst ((flush s).map wD))
          have pun : ∀ c : Nat, sepc c = true → c ≠ 32 → stepW s c = (flush s ++ [[c]], []) := fun c h1 h2 => by unfold stepW; rw [if_pos h1, if_neg h2]
          have endp : ∀ c : Nat, sepc c = true → c ≠ 32 → W ((gIf (fB (fBin gNee (fVar 3) (fC (.str " ")))) (gExpr (fMeth "list" gAppend (fVar 1) (fCons (fVar 3) fNil))) gNx) [some (.str x), some (.ref μ.length), some (.str ("" : Str)), some (sign c)] (μ ++ [.lst ((flush s).map wD)])) (fun o μ' => (∃ o3, o = .nx [some (.str x), some (.ref μ.length), some (.str (mkS (stepW s c).2)), o3] ∨ o = .ct [some (.str x), some (.ref μ.length), some (.str (mkS (stepW s c).2)), o3]) ∧ μ' = μ ++ [.lst ((stepW s c).1.map wD)]) := by
            intro c h1 h2
            rw [pun c h1 h2]
            simp only [↓flS, ↓flE, ↓flO, ↓flI, ↓flQ, List.getElem?_cons_zero, List.getElem?_cons_succ, List.set_cons_zero, List.set_cons_succ, nee_sp, decide_eq_false h2, Bool.not_false]
            refine ⟨tyR gt2, ?_⟩
            rw [appR gt2 (Nat.lt_of_le_of_lt (m := 5000000) (by rw [List.length_map]; omega) (by decide)), set_last]
            refine ⟨⟨_, .inl (by rw [← e0])⟩, ?_⟩
            rw [List.map_append]; rfl
          by_cases h32 : c = 32
          · subst h32
            refine seq_cut (fun o μ' => o = .nx [some (.str x), some (.ref μ.length), some (.str (mkS s.2)), some (sign 32)] ∧ μ' = μ ++ [.lst (s.1.map wD)]) ?_ ?_
            · simp only [↓flS, ↓flE, ↓flO, ↓flI, ↓flQ, List.getElem?_cons_zero, List.getElem?_cons_succ, List.set_cons_zero, List.set_cons_succ, nee_sp, decide_true, Bool.not_true, and_self]
            rintro o μ' ⟨rfl, rfl⟩
            rw [kS_nx]
            refine flushed 32 _ _ _ ?_
            rw [step_sp]
            simp only [↓flS, ↓flE, ↓flO, ↓flI, ↓flQ, List.getElem?_cons_zero, List.getElem?_cons_succ, List.set_cons_zero, List.set_cons_succ, nee_sp, decide_true, Bool.not_true]
            exact ⟨⟨_, .inl (by rw [← e0])⟩, trivial⟩
          · by_cases hp : sepc c = true
            · have hp' : (decide (c = 40) || decide (c = 41)) = true := by
                unfold sepc at hp
                rw [decide_eq_false h32, Bool.false_or] at hp
                exact hp
              refine seq_cut (fun o μ' => o = .nx [some (.str x), some (.ref μ.length), some (.str (mkS s.2)), some (sign c)] ∧ μ' = μ ++ [.lst (s.1.map wD)]) ?_ ?_
              · simp only [↓flS, ↓flE, ↓flO, ↓flI, ↓flQ, List.getElem?_cons_zero, List.getElem?_cons_succ, List.set_cons_zero, List.set_cons_succ, nee_sp, in_par, hp', decide_eq_false h32, Bool.not_true, Bool.not_false, and_self, and_true]
                exact sz (by simp)
              rintro o μ' ⟨rfl, rfl⟩
              rw [kS_nx]
              exact flushed c _ _ _ (endp c hp h32)
            · rw [Bool.not_eq_true] at hp
              have hp' : (decide (c = 40) || decide (c = 41)) = false := by
                unfold sepc at hp
                rw [decide_eq_false h32, Bool.false_or] at hp
                exact hp
              have es : stepW s c = (s.1, s.2 ++ [c]) := by unfold stepW; rw [hp, if_neg Bool.false_ne_true]
              rw [es]
              simp only [↓flS, ↓flE, ↓flO, ↓flI, ↓flQ, List.getElem?_cons_zero, List.getElem?_cons_succ, List.set_cons_zero, List.set_cons_succ, nee_sp, in_par, hp', decide_eq_false h32, Bool.not_false]
              refine ⟨sz (by simp), ?_⟩
              rw [aug_str (x := mkS s.2) (y := ⟨#[c]⟩) rfl rfl]
              refine ⟨sz2' (by rw [len_mkS]; show _ + 1 ≤ _; omega), ?_⟩
              simp only [↓flS]
              have em : mkS s.2 ++ (⟨#[c]⟩ : Str) = mkS (s.2 ++ [c]) := TL.ext_tl (by rw [TL.tl_append]; rfl)
              rw [em]
              exact ⟨⟨_, .inr rfl⟩, trivial⟩
        · rintro o μ' ⟨⟨o4, rfl | rfl⟩, rfl⟩
          · exact ⟨cs, stepW s c, rfl, ⟨_, rfl⟩, rfl, hf, by omega, fun c hc => p1 c (List.mem_cons_of_mem _ hc), q.1, q.2⟩
          · exact ⟨cs, stepW s c, rfl, ⟨_, rfl⟩, rfl, hf, by omega, fun c hc => p1 c (List.mem_cons_of_mem _ hc), q.1, q.2⟩
    · rintro ρ μ1 ⟨cs, s, hr, h1, rfl, hf, hz, p1, p2, p3⟩
      have : cs = [] := by cases cs with
        | nil => rfl
        | cons a b => cases hr
      subst this
      obtain ⟨o3, rfl⟩ := h1
      exact ⟨s, ⟨_, rfl⟩, rfl, hf, by omega, p2, p3⟩
  rintro o μ1 ⟨s, ⟨o3, rfl⟩, rfl, hs, hl1, p2, p3⟩
  rw [kS_nx, ← hs]
  have gt := getA (μ := μ) (o := .lst (s.1.map wD))
  simp only [↓flS, ↓flE, ↓flO, ↓flI, ↓flQ, List.getElem?_cons_zero, List.getElem?_cons_succ, mkS_nil]
  unfold flush
  refine ⟨fun h => ?_, fun h => ?_⟩
  · have h' : ¬ s.2 = [] := by simpa using h
    rw [if_neg h', star_ref rfl gt]
    simp only [↓flE, List.getElem?_cons_zero, List.getElem?_cons_succ]
    refine ⟨sz2' (by rw [List.length_append, List.length_map, List.length_singleton]; omega), ?_⟩
    have e : s.1.map wD ++ [D.str (mkS s.2)] = (s.1 ++ [s.2]).map wD := by rw [List.map_append]; rfl
    rw [e]
    refine out_dataL (pl_words fun w hw => ?_) ⟨rfl, rfl⟩
    rcases List.mem_append.mp hw with hw | hw
    · exact p2 w hw
    · rw [List.mem_singleton.mp hw]; exact p3
  · have h' : s.2 = [] := by simpa using h
    rw [if_pos h']
    exact out_last (pl_words p2) ⟨rfl, rfl⟩
end K49
/-! reading: the stack of tuples -/
namespace K49
open PySem PySem.Spec PyProof.Rows L2 FL
set_option autoImplicit false
variable {cI cP cE : Addr}
abbrev Sk := List (Nat × List D)
structure Stk (μ0 μ : Mu) (b : Nat) (st : Sk) : Prop where
  le : μ0.length ≤ μ.length
  pre : ∀ j, j < μ0.length → μ[j]? = μ0[j]?
  bl : μ0.length ≤ b
  at' : μ[b]? = some (Ob.lst (st.map fun p => D.ref p.1))
  ob : ∀ p ∈ st, μ[p.1]? = some (Ob.lst p.2)
  ge : ∀ p ∈ st, μ0.length ≤ p.1
  ne : ∀ p ∈ st, p.1 ≠ b
  nd : (st.map (·.1)).Nodup
theorem lt_of_at {μ : Mu} {k : Nat} {o : Ob} (h : μ[k]? = some o) : k < μ.length := (List.getElem?_eq_some_iff.mp h).1
theorem Stk.push {μ0 μ : Mu} {b : Nat} {st : Sk} (h : Stk μ0 μ b st) : Stk μ0 ((μ ++ [Ob.lst []]).set b (Ob.lst ((st.map fun p => D.ref p.1) ++ [D.ref μ.length]))) b (st ++ [(μ.length, [])]) := by
  have hb := lt_of_at h.at'
  refine ⟨?_, fun j hj => ?_, h.bl, ?_, fun p hp => ?_, fun p hp => ?_, fun p hp => ?_, ?_⟩
  · rw [List.length_set, List.length_append]; have := h.le; omega
  · have := h.bl
    have := h.le
    rw [List.getElem?_set_ne (by omega), List.getElem?_append_left (by omega)]
    exact h.pre j hj
  · rw [List.getElem?_set_self (by rw [List.length_append]; omega), List.map_append]; rfl
  · rcases List.mem_append.mp hp with hp | hp
    · have := lt_of_at (h.ob p hp)
      rw [List.getElem?_set_ne (Ne.symm (h.ne p hp)), List.getElem?_append_left this]
      exact h.ob p hp
    · rw [List.mem_singleton.mp hp]
      rw [List.getElem?_set_ne (by omega)]
      exact getA
  · rcases List.mem_append.mp hp with hp | hp
    · exact h.ge p hp
    · rw [List.mem_singleton.mp hp]; exact h.le
  · rcases List.mem_append.mp hp with hp | hp
    · exact h.ne p hp
    · rw [List.mem_singleton.mp hp]; show μ.length ≠ b; omega
  · rw [List.map_append]
    refine List.nodup_append.mpr ⟨h.nd, by simp, fun a ha c hc z => ?_⟩
    obtain ⟨p, hp, rfl⟩ := List.mem_map.mp ha
    have := lt_of_at (h.ob p hp)
    have hc' : c = μ.length := by simpa using hc
    omega
theorem Stk.app {μ0 μ : Mu} {b r : Nat} {s : Sk} {xs : List D} {d : D} (h : Stk μ0 μ b (s ++ [(r, xs)])) : Stk μ0 (μ.set r (.lst (xs ++ [d]))) b (s ++ [(r, xs ++ [d])]) := by
  have top : (r, xs) ∈ s ++ [(r, xs)] := by simp
  have hr := h.ob _ top
  have hlt := lt_of_at hr
  have hne := h.ne _ top
  have hge := h.ge _ top
  have nd := h.nd
  rw [List.map_append] at nd
  have dis := (List.nodup_append.mp nd).2.2
  refine ⟨?_, fun j hj => ?_, h.bl, ?_, fun p hp => ?_, fun p hp => ?_, fun p hp => ?_, ?_⟩
  · rw [List.length_set]; exact h.le
  · rw [List.getElem?_set_ne (by have : μ0.length ≤ r := hge; omega)]
    exact h.pre j hj
  · rw [List.getElem?_set_ne hne, h.at', List.map_append, List.map_append]; rfl
  · rcases List.mem_append.mp hp with hp | hp
    · have : p.1 ≠ r := fun z => dis p.1 (List.mem_map.mpr ⟨p, hp, rfl⟩) r (by simp) z
      rw [List.getElem?_set_ne (Ne.symm this)]
      exact h.ob p (List.mem_append_left _ hp)
    · rw [List.mem_singleton.mp hp]
      exact List.getElem?_set_self hlt
  · rcases List.mem_append.mp hp with hp | hp
    · exact h.ge p (List.mem_append_left _ hp)
    · rw [List.mem_singleton.mp hp]; exact hge
  · rcases List.mem_append.mp hp with hp | hp
    · exact h.ne p (List.mem_append_left _ hp)
    · rw [List.mem_singleton.mp hp]; exact hne
  · rw [List.map_append]; exact nd
theorem Stk.pop {μ0 μ : Mu} {b r : Nat} {s : Sk} {xs : List D} (h : Stk μ0 μ b (s ++ [(r, xs)])) : Stk μ0 (μ.set b (Ob.lst (s.map fun p => D.ref p.1))) b s ∧ (μ.set b (Ob.lst (s.map fun p => D.ref p.1)))[r]? = some (Ob.lst xs) := by
  have top : (r, xs) ∈ s ++ [(r, xs)] := by simp
  have hb := lt_of_at h.at'
  have nd := h.nd
  rw [List.map_append] at nd
  refine ⟨⟨?_, fun j hj => ?_, h.bl, List.getElem?_set_self hb, fun p hp => ?_, fun p hp => h.ge p (List.mem_append_left _ hp), fun p hp => h.ne p (List.mem_append_left _ hp), (List.nodup_append.mp nd).1⟩, ?_⟩
  · rw [List.length_set]; exact h.le
  · have := h.bl
    rw [List.getElem?_set_ne (by omega)]
    exact h.pre j hj
  · have hp' := List.mem_append_left [(r, xs)] hp
    rw [List.getElem?_set_ne (Ne.symm (h.ne p hp'))]
    exact h.ob p hp'
  · rw [List.getElem?_set_ne (Ne.symm (h.ne _ top))]
    exact h.ob _ top
theorem truR {μ : Mu} {l : Nat} {ds : List D} {Q : Bool → Mu → Prop} (h : μ[l]? = some (Ob.lst ds)) : W (truD (.ref l) μ) Q = Q (!ds.isEmpty) μ := by
  unfold truD
  simp only [h]
  exact W_ok _ _ _
theorem popR {μ : Mu} {l : Nat} {ds : List D} {y : D} {Q : D → Mu → Prop} (h : μ[l]? = some (.lst (ds ++ [y]))) : W (gPop (.ref l) [] μ) Q = Q y (μ.set l (.lst ds)) := by
  unfold gPop
  simp only [h]
  have e : (ds ++ [y])[(ds ++ [y]).length - 1]? = some y := by
    rw [List.length_append, List.length_singleton, Nat.add_sub_cancel, List.getElem?_append_right (Nat.le_refl _), Nat.sub_self]; rfl
  simp only [e, List.dropLast_concat]
  exact W_ok _ _ _
theorem loop_cons {T : FT} {G : FS} {d : D} {ds : List D} {ρ ρ1 : Rho} {μ : Mu} {Q : Ot → Mu → Prop} (hT : T d ρ = some ρ1) (h : W (G ρ1 μ) fun o μ' => ∃ ρ2, o = .nx ρ2 ∧ W (gLoop T G ds ρ2 μ') Q) : W (gLoop T G (d :: ds) ρ μ) Q := by
  rw [gLoop, hT]
  simp only
  obtain ⟨o, μ', e, ρ2, rfl, h2⟩ := h.ex
  rw [e]
  exact h2
abbrev form (line : D) (b : Nat) (w : Option D) (o3 o4 : Option D) : Rho := [some line, some (.ref b), w, o3, o4]
structure Steps (B : FS) (μ0 : Mu) (b : Nat) (line : D) : Prop where
  op : ∀ (st : Sk) (μ : Mu) (o3 o4 : Option D), Stk μ0 μ b st → st ≠ [] → (st.length = 1 → ∀ p ∈ st, p.2 = []) → st.length ≤ 20 → W (B (form line b (some (wD [40])) o3 o4) μ) fun o μ' => (∃ o3' o4', o = .nx (form line b (some (wD [40])) o3' o4')) ∧ Stk μ0 μ' b (st ++ [(μ.length, [])])
  cl : ∀ (s : Sk) (r' r : Nat) (ys xs : List D) (μ : Mu) (o3 o4 : Option D), Stk μ0 μ b (s ++ [(r', ys)] ++ [(r, xs)]) → s.length + 2 ≤ 21 → ys.length < 1000000 → W (B (form line b (some (wD [41])) o3 o4) μ) fun o μ' => (∃ o3' o4', o = .nx (form line b (some (wD [41])) o3' o4')) ∧ Stk μ0 μ' b (s ++ [(r', ys ++ [.tup xs])])
  at' : ∀ (n : Nat) (d : D) (s : Sk) (r : Nat) (xs : List D) (μ : Mu) (o3 o4 : Option D), canW n d = true → isTup d = false → wt d ≤ 900000 → s ≠ [] → s.length ≤ 20 → xs.length < 1000000 → Stk μ0 μ b (s ++ [(r, xs)]) → W (B (form line b (some (wD (TL.tl (txtD d)))) o3 o4) μ) fun o μ' => (∃ o3' o4', o = .nx (form line b (some (wD (TL.tl (txtD d)))) o3' o4')) ∧ Stk μ0 μ' b (s ++ [(r, xs ++ [d])])
theorem run_d {B : FS} {μ0 : Mu} {b : Nat} {line : D} (S : Steps B μ0 b line) : ∀ (n : Nat) (d : D), canW n d = true → wt d ≤ 900000 → ∀ (s : Sk) (r : Nat) (xs : List D), s.length + 1 + n ≤ 21 → (s ≠ [] ∨ (isTup d = true ∧ xs = [])) → xs.length < 1000000 → ∀ (μ : Mu) (o2 o3 o4 : Option D) (rest : List D) (Q : Ot → Mu → Prop), Stk μ0 μ b (s ++ [(r, xs)]) →
    (∀ μ' o2 o3 o4, Stk μ0 μ' b (s ++ [(r, xs ++ [d])]) → W (gLoop (tgN 2) B rest (form line b o2 o3 o4) μ') Q) → W (gLoop (tgN 2) B ((toks d).map wD ++ rest) (form line b o2 o3 o4) μ) Q := by
  have at0 : ∀ (n : Nat) (d : D), canW n d = true → isTup d = false → wt d ≤ 900000 → ∀ (s : Sk) (r : Nat) (xs : List D), s.length + 1 + n ≤ 21 → (s ≠ [] ∨ (isTup d = true ∧ xs = [])) → xs.length < 1000000 → ∀ (μ : Mu) (o2 o3 o4 : Option D) (rest : List D) (Q : Ot → Mu → Prop), Stk μ0 μ b (s ++ [(r, xs)]) →
    (∀ μ' o2 o3 o4, Stk μ0 μ' b (s ++ [(r, xs ++ [d])]) → W (gLoop (tgN 2) B rest (form line b o2 o3 o4) μ') Q) → W (gLoop (tgN 2) B ((toks d).map wD ++ rest) (form line b o2 o3 o4) μ) Q := by
    intro n d hd ht hw s r xs hs hor hxs μ o2 o3 o4 rest Q hst k
    rw [toks_atom ht]
    have hs' : s ≠ [] := by
      rcases hor with h | ⟨h, _⟩
      · exact h
      · rw [ht] at h; cases h
    refine loop_cons rfl ((S.at' n d s r xs μ o3 o4 hd ht hw hs' (by omega) hxs hst).mono ?_)
    rintro o μ' ⟨⟨o3', o4', rfl⟩, hst'⟩
    exact ⟨_, rfl, k μ' _ _ _ hst'⟩
  intro n
  induction n with
  | zero =>
    intro d hd hw
    rcases cases_tup d with ⟨ds, rfl⟩ | ht
    · cases hd
    · exact at0 0 d hd ht hw
  | succ n ih =>
    intro d hd hw
    rcases cases_tup d with ⟨ds, rfl⟩ | ht
    · intro s r xs hs hor hxs μ o2 o3 o4 rest Q hst k
      rw [canW, List.all_eq_true] at hd
      have hlen := len_wt ds
      have hw' := hw
      rw [wt_tup] at hw'
      have items : ∀ (es : List D), (∀ x ∈ es, x ∈ ds) → ∀ (done : List D), done.length + es.length ≤ ds.length → ∀ (l : Nat) (μ : Mu) (o2 o3 o4 : Option D) (rest : List D) (Q : Ot → Mu → Prop), Stk μ0 μ b (s ++ [(r, xs)] ++ [(l, done)]) →
          (∀ μ' o2 o3 o4, Stk μ0 μ' b (s ++ [(r, xs)] ++ [(l, done ++ es)]) → W (gLoop (tgN 2) B rest (form line b o2 o3 o4) μ') Q) → W (gLoop (tgN 2) B ((es.flatMap toks).map wD ++ rest) (form line b o2 o3 o4) μ) Q := by
        intro es
        induction es with
        | nil =>
          intro _ done _ l μ o2 o3 o4 rest Q hst k
          rw [List.append_nil] at k
          exact k μ o2 o3 o4 hst
        | cons e es ihe =>
          intro hm done hdn l μ o2 o3 o4 rest Q hst k
          rw [List.length_cons] at hdn
          rw [List.flatMap_cons, List.map_append, List.append_assoc]
          have hem := hm e List.mem_cons_self
          refine ih e (hd e hem) (by have := wt_mem hem; omega) (s ++ [(r, xs)]) l done (by rw [List.length_append, List.length_singleton]; omega) (.inl (by simp)) (by omega) μ o2 o3 o4 _ Q hst fun μ' o2 o3 o4 hst' => ?_
          refine ihe (fun x hx => hm x (List.mem_cons_of_mem _ hx)) (done ++ [e]) (by rw [List.length_append, List.length_singleton]; omega) l μ' o2 o3 o4 rest Q hst' fun μ'' o2 o3 o4 hst'' => ?_
          rw [List.append_assoc done] at hst''
          exact k μ'' o2 o3 o4 hst''
      rw [toks_tup]
      simp only [List.cons_append, List.map_cons, List.map_append, List.append_assoc]
      refine loop_cons rfl ((S.op (s ++ [(r, xs)]) μ o3 o4 hst (by simp) (fun h p hp => ?_) (by rw [List.length_append, List.length_singleton]; omega)).mono ?_)
      · have hs0 : s = [] := by
          rw [List.length_append, List.length_singleton] at h
          exact List.length_eq_zero_iff.mp (by omega)
        subst hs0
        rcases hor with h | ⟨_, h⟩
        · exact absurd rfl h
        · rw [List.nil_append] at hp
          rw [List.mem_singleton.mp hp]
          exact h
      · rintro o μ1 ⟨⟨o3', o4', rfl⟩, hst1⟩
        refine ⟨_, rfl, ?_⟩
        refine items ds (fun _ h => h) [] (by simp) _ μ1 _ _ _ _ Q hst1 fun μ2 o2 o3 o4 hst2 => ?_
        rw [List.nil_append] at hst2
        refine loop_cons rfl ((S.cl s r _ xs ds μ2 o3 o4 hst2 (by omega) hxs).mono ?_)
        rintro o μ3 ⟨⟨o3', o4', rfl⟩, hst3⟩
        exact ⟨_, rfl, k μ3 _ _ _ hst3⟩
    · exact at0 (n + 1) d hd ht hw
end K49
/-! reading: tuples -/
namespace K49
open PySem PySem.Spec PyProof.Rows L2 FL
set_option autoImplicit false
variable {cI cP cE : Addr}
theorem wD40 : wD [40] = .str ("(" : Str) ∧ wD [41] = .str (")" : Str) := ⟨by show D.str ⟨#[40]⟩ = _; rw [lit_one.2.1], by show D.str ⟨#[41]⟩ = _; rw [lit_one.2.2.1]⟩
theorem par_ne : decide ((")" : Str) = ("(" : Str)) = false := by decide +kernel
theorem wD_txt (d : D) : wD (TL.tl (txtD d)) = .str (txtD d) := by show D.str (mkS _) = _; rw [mkS_tl]
theorem at_last (ds : List D) (y : D) : atI (ds ++ [y]) (-1) = some y := by rw [atI_last (by simp), List.getLast?_append]; rfl
theorem gt21 {st : Sk} (h : st.length ≤ 21) : decide ((20 : Int) + 1 < ((st.map fun p => D.ref p.1).length : Nat)) = false := decide_eq_false (by rw [List.length_map]; omega)
theorem atom_ne {n : Nat} {d : D} (h : canW n d = true) (ht : isTup d = false) : decide (txtD d = ("(" : Str)) = false ∧ decide (txtD d = (")" : Str)) = false := by
  have h1 := (atom_word h ht).1
  constructor
  · refine decide_eq_false fun z => ?_
    rw [z, lit_tl.1] at h1
    have := h1 40 (by simp)
    cases this
  · refine decide_eq_false fun z => ?_
    rw [z, lit_tl.2.1] at h1
    have := h1 41 (by simp)
    cases this
/-- how an atom is read again -/
theorem atom_read {i n : Nat} {d : D} {μ : Mu} (h : canW n d = true) (ht : isTup d = false) (hw : wt d ≤ 1000000) :
    (isWord (.str (txtD d)) = true ∧ d = .str (txtD d)) ∨ (isWord (.str (txtD d)) = false ∧ (gs cI cP cE (i + 2)).integer_of [.str (txtD d)] μ = .ok d μ ∧ (isN d = true → txtD d = ("-" : Str))) := by
  have nw : ∀ {x : Str} {c : Nat}, c ∈ x.cps.toList → low c = false → isWord (.str x) = false := fun {x c} hc hl => by
    have : lows x = false := by
      unfold lows
      rw [List.all_eq_false]
      exact ⟨c, hc, by rw [hl]; simp⟩
    rw [isWord, this, Bool.and_false]
  rw [canW_atomE ht] at h
  cases d with
  | tup ds => cases ht
  | non =>
    right
    rw [show txtD .non = ("-" : Str) by rw [txtD]]
    refine ⟨nw (c := 45) ?_ rfl, dash_E, fun _ => rfl⟩
    show 45 ∈ TL.tl ("-" : Str)
    rw [lit_tl.2.2.2.1]; simp
  | int j =>
    have hi : isInt (.int j) = true := by simpa [atomOk, isN, isWord] using h
    right
    rw [show txtD (.int j) = strI j by rw [txtD]; rfl]
    refine ⟨?_, integer_E hi, fun z => by cases z⟩
    have hl := str_len hi
    have : ∃ c, c ∈ (strI j).cps.toList := List.exists_mem_of_ne_nil _ fun z => by
      have z : TL.tl (Str.ofString (toString j)) = [] := z
      rw [TL.len_tl, z] at hl
      simp at hl
    obtain ⟨c, hc⟩ := this
    refine nw hc ?_
    rcases str_mem hc with rfl | h
    · rfl
    · unfold low
      rw [decide_eq_false (by omega), Bool.false_and]
  | str x =>
    left
    rw [show txtD (.str x) = x by rw [txtD]]
    exact ⟨by simpa [atomOk, isN, isInt] using h, rfl⟩
  | _ => cases h
theorem txt_pl {n : Nat} {d : D} (h : canW n d = true) : Pl (.str (txtD d)) = true := by
  rw [Pl]
  exact sgn_ok (txt_sgn h)
theorem Stk.out {μ0 μ : Mu} {b : Nat} {st : Sk} {ds : List D} {Q : D → Mu → Prop} (h : Stk μ0 μ b st) (hp : Pl (.tup ds) = true) (q : Q (.tup ds) μ0) : kG μ0 Q (.rt (.tup ds)) μ := by
  refine ⟨fun k o hk e => .inl (by rw [← h.pre k hk]; exact e), ?_⟩
  show D.inn μ0.length (.tup ds) = true ∧ Q (.tup ds) (μ.take μ0.length)
  have e : μ.take μ0.length = μ0 := by
    refine List.ext_getElem? fun j => ?_
    by_cases hj : j < μ0.length
    · rw [List.getElem?_take_of_lt hj]; exact h.pre j hj
    · rw [List.getElem?_eq_none (by rw [List.length_take]; omega), List.getElem?_eq_none (by omega)]
  rw [e]
  exact ⟨pl_inn hp, q⟩
theorem tuple_E {i : Nat} {d : D} {μ0 : Mu} (hd : canW 20 d = true) (ht : isTup d = true) (hw : wt d ≤ 900000) : (gs cI cP cE (i + 3)).tuple_of [.str (txtD d)] μ0 = .ok d μ0 := by
  have hl := txt_len hd
  refine W.eqD (runG_W ?_)
  show W (G_tuple_of _ _ _ [some (.str (txtD d)), none, none, none, none] μ0) _
  unfold G_tuple_of
  have st0 : Stk μ0 (μ0 ++ [Ob.lst []] ++ [Ob.lst [D.ref μ0.length]]) (μ0.length + 1) [(μ0.length, [])] := by
    refine ⟨by simp, fun j hj => ?_, by omega, ?_, fun p hp => ?_, fun p hp => ?_, fun p hp => ?_, by simp⟩
    · rw [List.append_assoc, List.getElem?_append_left hj]
    · have := getA (μ := μ0 ++ [Ob.lst []]) (o := Ob.lst [D.ref μ0.length])
      rw [List.length_append, List.length_singleton] at this
      exact this
    · rw [List.mem_singleton.mp hp]
      show (μ0 ++ [Ob.lst []] ++ [Ob.lst [D.ref μ0.length]])[μ0.length]? = some (Ob.lst [])
      rw [List.getElem?_append_left (by rw [List.length_append, List.length_singleton]; omega)]
      exact getA
    · rw [List.mem_singleton.mp hp]; exact Nat.le_refl _
    · rw [List.mem_singleton.mp hp]; show μ0.length ≠ μ0.length + 1; omega
  refine seq_cut (fun o μ1 => o = .nx (form (.str (txtD d)) (μ0.length + 1) none none none) ∧ Stk μ0 μ1 (μ0.length + 1) [(μ0.length, [])]) ?_ ?_
  · simp only [↓flS, ↓flE, List.getElem?_cons_zero, List.getElem?_cons_succ, List.set_cons_zero, List.set_cons_succ, List.length_append, List.length_singleton, true_and]
    exact ⟨sz (by simp), sz (by simp), st0⟩
  rintro o μ1 ⟨rfl, hst⟩
  rw [kS_nx]
  refine seq_cut (fun o μ2 => (∃ o2 o3 o4, o = .nx (form (.str (txtD d)) (μ0.length + 1) o2 o3 o4)) ∧ Stk μ0 μ2 (μ0.length + 1) [(μ0.length, [d])]) ?_ ?_
  · rw [loop_for]
    have hwd := words_E (cI := cI) (cP := cP) (cE := cE) (i := i + 1) (x := txtD d) (μ := μ1) (fun c hc => by
      have := sgn_ok (txt_sgn hd)
      exact of_decide_eq_true (List.all_eq_true.mp this c hc)) (by omega)
    rw [txt_fold hd, List.nil_append] at hwd
    simp only [↓flI, ↓flE, List.getElem?_cons_zero]
    rw [hwd, W_ok]
    simp only [↓flI]
    have e0 : (toks d).map wD = (toks d).map wD ++ [] := by simp
    rw [e0]
    refine run_d ⟨?_, ?_, ?_⟩ 20 d hd (by omega) [] μ0.length [] (by simp) (.inr ⟨ht, rfl⟩) (by simp) μ1 none none none [] _ hst fun μ' o2 o3 o4 h => .mk ⟨⟨_, _, _, rfl⟩, h⟩
    · -- (
      intro st μ o3 o4 hs hne h1 hlen
      rw [wD40.1]
      refine guard_W false ?_ (fun e => by cases e) fun _ => ?_
      · simp only [↓flS, ↓flE, ↓flO, ↓flI, ↓flQ, List.getElem?_cons_zero, List.getElem?_cons_succ, lenR hs.at', decide_true, Bool.not_true]
        refine ⟨fun hl1 => ?_, fun _ => by rw [isB_eq]⟩
        have hl1 := of_decide_eq_true hl1
        obtain ⟨p, rfl⟩ := List.length_eq_one_iff.mp (show st.length = 1 by rw [List.length_map] at hl1; omega)
        have hp := h1 rfl p (by simp)
        have hob := hs.ob p (by simp)
        rw [hp] at hob
        rw [ixL hs.at' (show atI ([p].map fun p => D.ref p.1) 0 = some (.ref p.1) from rfl), truR hob, isB_eq]
        rfl
      · refine seq_cut (fun o μ' => o = .nx (form (.str (txtD d)) (μ0.length + 1) (some (.str ("(" : Str))) o3 o4) ∧ Stk μ0 μ' (μ0.length + 1) (st ++ [(μ.length, [])])) ?_ ?_
        · simp only [↓flS, ↓flE, ↓flO, ↓flI, ↓flQ, List.getElem?_cons_zero, List.getElem?_cons_succ, decide_true]
          refine ⟨tyR hs.at', sz (by simp), ?_⟩
          have hb := lt_of_at hs.at'
          have hat : (μ ++ [Ob.lst []])[μ0.length + 1]? = some (Ob.lst (st.map fun p => D.ref p.1)) := by rw [List.getElem?_append_left hb]; exact hs.at'
          rw [appR hat (Nat.lt_of_le_of_lt (m := 30) (by rw [List.length_map]; omega) (by decide))]
          exact ⟨trivial, hs.push⟩
        rintro o μ' ⟨rfl, hs'⟩
        rw [kS_nx]
        simp only [↓flS, ↓flE, ↓flO, ↓flI, ↓flQ, List.getElem?_cons_zero, List.getElem?_cons_succ, lenR hs'.at', gt21 (show (st ++ [(μ.length, ([] : List D))]).length ≤ 21 by rw [List.length_append, List.length_singleton]; omega)]
        exact ⟨⟨_, _, rfl⟩, hs'⟩
    · -- )
      intro s r' r ys xs μ o3 o4 hs hlen hys
      rw [wD40.2]
      have l2 : ((s ++ [(r', ys)] ++ [(r, xs)]).map fun p => D.ref p.1).length = s.length + 2 := by simp
      have hp := hs.pop
      have ht' := hp.1.ob (r', ys) (by simp)
      refine guard_W false ?_ (fun e => by cases e) fun _ => ?_
      · simp only [↓flS, ↓flE, ↓flO, ↓flI, ↓flQ, List.getElem?_cons_zero, List.getElem?_cons_succ, lenR hs.at']
        rw [l2, show decide (((s.length + 2 : Nat) : Int) = 1) = false from decide_eq_false (by omega), br_f, isB_eq]
      · refine seq_cut (fun o μ' => (∃ o3', o = .nx (form (.str (txtD d)) (μ0.length + 1) (some (.str (")" : Str))) o3' o4)) ∧ Stk μ0 μ' (μ0.length + 1) (s ++ [(r', ys ++ [.tup xs])])) ?_ ?_
        · have hat : μ[μ0.length + 1]? = some (Ob.lst (((s ++ [(r', ys)]).map fun p => D.ref p.1) ++ [D.ref r])) := by
            rw [hs.at', List.map_append]; rfl
          simp only [↓flS, ↓flE, ↓flO, ↓flI, ↓flQ, List.getElem?_cons_zero, List.getElem?_cons_succ, List.set_cons_zero, List.set_cons_succ, par_ne, decide_true]
          refine ⟨tyR hat, ?_⟩
          rw [popR hat]
          rw [tupR hp.2]
          have hix : atI ((s ++ [(r', ys)]).map fun p => D.ref p.1) (-1) = some (.ref r') := by rw [List.map_append]; exact at_last _ _
          rw [ixL hp.1.at' hix]
          refine ⟨tyR ht', ?_⟩
          rw [appR ht' (Nat.lt_of_le_of_lt (m := 1000000) (by show ys.length ≤ _; omega) (by decide))]
          exact ⟨⟨_, rfl⟩, hp.1.app⟩
        rintro o μ' ⟨⟨o3', rfl⟩, hs'⟩
        rw [kS_nx]
        simp only [↓flS, ↓flE, ↓flO, ↓flI, ↓flQ, List.getElem?_cons_zero, List.getElem?_cons_succ, lenR hs'.at', gt21 (show (s ++ [(r', ys ++ [D.tup xs])]).length ≤ 21 by rw [List.length_append, List.length_singleton]; omega)]
        exact ⟨⟨_, _, rfl⟩, hs'⟩
    · -- an atom
      intro n a s r xs μ o3 o4 ha hta hwa hsn hlen hxs hs
      rw [wD_txt]
      have l2 : ((s ++ [(r, xs)]).map fun p => D.ref p.1).length = s.length + 1 := by simp
      have hs1 := List.length_pos_iff.mpr hsn
      have hne := atom_ne ha hta
      have htop := hs.ob (r, xs) (by simp)
      have hix : atI ((s ++ [(r, xs)]).map fun p => D.ref p.1) (-1) = some (.ref r) := by rw [List.map_append]; exact at_last _ _
      have hlt : wt (.str (txtD a)) ≤ 1000000 := by rw [wt_str]; have := txt_len ha; omega
      refine guard_W false ?_ (fun e => by cases e) fun _ => ?_
      · simp only [↓flS, ↓flE, ↓flO, ↓flI, ↓flQ, List.getElem?_cons_zero, List.getElem?_cons_succ, lenR hs.at']
        rw [l2, show decide (((s.length + 1 : Nat) : Int) = 1) = false from decide_eq_false (by omega), br_f, isB_eq]
      · refine seq_cut (fun o μ' => (∃ o4', o = .nx (form (.str (txtD d)) (μ0.length + 1) (some (.str (txtD a))) o3 o4')) ∧ Stk μ0 μ' (μ0.length + 1) (s ++ [(r, xs ++ [a])])) ?_ ?_
        · have app : ∀ {Q : D → Mu → Prop}, Q .non (μ.set r (.lst (xs ++ [a]))) → W (gAppend (.ref r) [a] μ) Q := fun {Q} h => by
            rw [appR htop (Nat.lt_of_le_of_lt (m := 1000000) (by show xs.length ≤ _; omega) (by decide))]
            exact h
          have hre := atom_read (cI := cI) (cP := cP) (cE := cE) (i := i) (μ := μ) ha hta (by omega)
          simp only [↓flS, ↓flE, ↓flO, ↓flI, ↓flQ, List.getElem?_cons_zero, List.getElem?_cons_succ, List.set_cons_zero, List.set_cons_succ, hne.1, hne.2]
          rw [word_E (cI := cI) (cP := cP) (cE := cE) (i := i + 1) (txt_pl ha) hlt, W_ok]
          simp only [↓flE]
          rcases hre with ⟨h1, h2⟩ | ⟨h1, h2, h3⟩
          · rw [h1, br_t, ← h2]
            have hN : isN a = false := by rw [h2]; rfl
            rw [hN, br_f, ixL hs.at' hix]
            refine ⟨tyR htop, ?_⟩
            exact app ⟨⟨_, rfl⟩, hs.app⟩
          · rw [h1, br_f, h2, W_ok]
            refine ⟨fun hN => ?_, fun hN => ?_⟩
            · rw [h3 hN, decide_eq_true rfl]
              simp only [Bool.not_true, br_f]
              rw [ixL hs.at' hix]
              refine ⟨tyR htop, ?_⟩
              exact app ⟨⟨_, rfl⟩, hs.app⟩
            · rw [ixL hs.at' hix]
              refine ⟨tyR htop, ?_⟩
              exact app ⟨⟨_, rfl⟩, hs.app⟩
        rintro o μ' ⟨⟨o4', rfl⟩, hs'⟩
        rw [kS_nx]
        simp only [↓flS, ↓flE, ↓flO, ↓flI, ↓flQ, List.getElem?_cons_zero, List.getElem?_cons_succ, lenR hs'.at', gt21 (show (s ++ [(r, xs ++ [a])]).length ≤ 21 by rw [List.length_append, List.length_singleton]; omega)]
        exact ⟨⟨_, _, rfl⟩, hs'⟩
  rintro o μ2 ⟨⟨o2, o3, o4, rfl⟩, hs⟩
  rw [kS_nx]
  have hob := hs.ob (μ0.length, [d]) (by simp)
  have hat := hs.at'
  simp only [↓flS, ↓flE, ↓flO, ↓flI, ↓flQ, List.getElem?_cons_zero, List.getElem?_cons_succ, lenR hat]
  rw [show decide ((([(μ0.length, [d])].map fun p => D.ref p.1).length : Int) = 1) = true from rfl, br_t]
  have hix : atI ([(μ0.length, [d])].map fun p => D.ref p.1) 0 = some (.ref μ0.length) := rfl
  rw [ixL hat hix, truR hob]
  simp only [List.isEmpty_cons, Bool.not_false, br_t]
  rw [ixL hat hix, ixL hob (show atI [d] 0 = some d from rfl)]
  rcases cases_tup d with ⟨ds, rfl⟩ | hf
  · exact hs.out (canW_pl hd) ⟨rfl, rfl⟩
  · rw [hf] at ht; cases ht
end K49
/-! reading: stands, events, the last time, rounds -/
namespace K49
open PySem PySem.Spec PyProof.Rows L2 FL
set_option autoImplicit false
variable {cI cP cE : Addr}
theorem stand_tup {d : D} (h : standD d = true) : isTup d = true := by
  obtain ⟨a, b, c, r, rfl, _⟩ := standD_ex h
  rfl
theorem isN_tup {d : D} (h : isTup d = true) : isN d = false := by
  cases d with
  | tup ds => rfl
  | _ => cases h
theorem standof_E {i : Nat} {d n : D} {μ : Mu} (h : standD d = true) (hw : wt d ≤ 900000) : (gs cI cP cE (i + 24)).stand_of [.str (txtD d), n] μ = .ok d μ := by
  have hc := stand_can h
  refine W.eqD (runK_W ?_)
  show W (G_stand_of _ _ _ [some (.str (txtD d)), some n, none] μ) _
  unfold G_stand_of
  simp only [↓flS, ↓flE, ↓flO, ↓flI, ↓flQ, List.getElem?_cons_zero, List.getElem?_cons_succ, List.set_cons_zero, List.set_cons_succ]
  rw [tuple_E (cI := cI) (cP := cP) (cE := cE) (i := i + 20) hc (stand_tup h) hw, W_ok]
  simp only [isN_tup (stand_tup h), br_f]
  rw [value_E (cI := cI) (cP := cP) (cE := cE) 20 (i + 2) hc (by omega), W_ok]
  simp only [↓flQ, ↓flE, decide_true, Bool.not_true]
  rw [stand_E (cI := cI) (cP := cP) (cE := cE) (i := i) (canW_pl hc) (by omega), W_ok, h]
  simp only [↓flE, ↓flS, Bool.not_true, br_f]
  exact ⟨rfl, rfl⟩
theorem name_no32 {x : Str} (h : lows x = true) : 32 ∉ TL.tl x := fun hm => by
  have := lows_mem h hm
  cases this
theorem str_no32 (i : Int) : 32 ∉ TL.tl (strI i) := fun hm => by
  have := str_mem hm
  omega
theorem split_ev {t v : Int} {x y : Str} (hx : lows x = true) (hy : lows y = true) : Txt.split (Txt.join (" " : Str) [strI t, x, y, strI v]) (" " : Str) = [strI t, x, y, strI v] := by
  refine TL.split_join (s := 32) (S := []) lit_tl.2.2.1 (by decide +kernel) (by simp) fun p hp => ?_
  simp only [List.mem_cons, List.not_mem_nil, or_false] at hp
  rcases hp with rfl | rfl | rfl | rfl
  · exact str_no32 t
  · exact name_no32 hx
  · exact name_no32 hy
  · exact str_no32 v
theorem until_join (j : Int) : untilT j = Txt.join (" " : Str) [("until" : Str), strI j] := by
  refine TL.ext_tl ?_
  unfold untilT
  rw [TL.join_eq, TL.tl_join]
  simp only [TL.tl_append, List.map_cons, List.map_nil, TL.joinL, List.append_assoc]
theorem split_until (j : Int) : Txt.split (untilT j) (" " : Str) = [("until" : Str), strI j] := by
  rw [until_join]
  refine TL.split_join (s := 32) (S := []) lit_tl.2.2.1 (by decide +kernel) (by simp) fun p hp => ?_
  simp only [List.mem_cons, List.not_mem_nil, or_false] at hp
  rcases hp with rfl | rfl
  · exact name_no32 low_words.1
  · exact str_no32 j
theorem split_W (a b : Str) (μ : Mu) (Q : D → Mu → Prop) : W (gSplit (.str a) [.str b] μ) Q = (((b.length == 0) = false ∧ a.length + 2 ≤ sizeLine) ∧ Q (.lst ((Txt.split a b).map .str)) μ) := W_iteQ _ _ _ _
theorem part_W (a b : Str) (μ : Mu) (Q : D → Mu → Prop) : W (gPartition (.str a) [.str b] μ) Q = (((b.length == 0) = false ∧ a.length ≤ sizeLine) ∧ Q (.tup [.str (Txt.partition a b).1, .str (Txt.partition a b).2.1, .str (Txt.partition a b).2.2]) μ) := W_iteQ _ _ _ _
theorem match_W (n : Nat) (F : FE) (U : FTs) (G1 G2 : FS) (ρ : Rho) (μ : Mu) (Q : Ot → Mu → Prop) : W (gMatchL n F U G1 G2 ρ μ) Q = W (F ρ μ) fun d μ1 => W (match d with
  | .lst ds => if ds.length = n then (match U ds ρ with
      | some ρ' => G1 ρ' μ1
      | none => .no) else G2 ρ μ1
  | _ => .no : Rs Ot) Q := W_bind _ _ _
theorem sp_len : ((" " : Str).length == 0) = false := by decide +kernel
theorem nl_len : (("\n" : Str).length == 0) = false := by decide +kernel
theorem eventof_E {i : Nat} {e : D} {now : Int} {μ : Mu} (h : eventD e = true) (hn : now ≤ timeOf e) (hw : wt e ≤ 1000000) : (gs cI cP cE (i + 4)).event_of [.str (evTxt e), .int now] μ = .ok e μ := by
  have hE := event_E (cI := cI) (cP := cP) (cE := cE) (i := i) (μ := μ) (nest_pl (event_nest h)) hw
  have hv := evTxt_len h
  have h' := h
  obtain ⟨t, x, y, v, rfl, h0, h1, h2, h3, h4⟩ := event_ex2 h
  refine W.eqD (runK_W ?_)
  show W (G_event_of _ _ [some (.str (evTxt _)), some (.int now), none, none, none, none, none] μ) _
  unfold G_event_of
  rw [match_W]
  simp only [↓flI, ↓flE, ↓flQ, List.getElem?_cons_zero, List.getElem?_cons_succ, beq_self_eq_true, true_and, split_W]
  refine ⟨⟨sp_len, sz (by omega)⟩, ?_⟩
  have es : Txt.split (evTxt (.tup [.int t, .str x, .str y, .int v])) (" " : Str) = [strI t, x, y, strI v] := split_ev (name_low h2).1 (lows_letter h3).2
  rw [es]
  show W (gSeq _ _ [some _, some (.int now), none, some (.str (strI t)), some (.str x), some (.str y), some (.str (strI v))] μ) _
  simp only [↓flS, ↓flE, ↓flO, ↓flI, ↓flQ, List.getElem?_cons_zero, List.getElem?_cons_succ, List.set_cons_zero, List.set_cons_succ]
  rw [integer_E (cI := cI) (cP := cP) (cE := cE) (i := i + 1) h1, W_ok, integer_E (cI := cI) (cP := cP) (cE := cE) (i := i + 1) h4, W_ok]
  refine ⟨sz (by simp), ?_⟩
  rw [hE, W_ok, h']
  simp only [↓flS, ↓flE, ↓flO, ↓flI, ↓flQ, at4, decide_eq_true (show now ≤ t from hn)]
  exact ⟨rfl, rfl⟩
theorem eventof_no {i : Nat} {j now : Int} {μ : Mu} (h : isInt (.int j) = true) : (gs cI cP cE (i + 4)).event_of [.str (untilT j), .int now] μ = .ok .non μ := by
  have hv := until_len h
  refine W.eqD (runK_W ?_)
  show W (G_event_of _ _ [some (.str (untilT j)), some (.int now), none, none, none, none, none] μ) _
  unfold G_event_of
  rw [match_W]
  simp only [↓flI, ↓flE, ↓flQ, List.getElem?_cons_zero, List.getElem?_cons_succ, beq_self_eq_true, true_and, split_W]
  refine ⟨⟨sp_len, sz (by omega)⟩, ?_⟩
  rw [split_until]
  show W (gRet _ _ μ) _
  simp only [↓flS, ↓flE]
  exact ⟨rfl, rfl⟩
theorem lastof_E {i : Nat} {j now : Int} {n : D} {μ : Mu} (h : isInt (.int j) = true) (hn : now ≤ j) : (gs cI cP cE (i + 3)).last_of [.str (untilT j), .int now, n] μ = .ok (.int j) μ := by
  have hv := until_len h
  refine W.eqD (runK_W ?_)
  show W (G_last_of _ [some (.str (untilT j)), some (.int now), some n, none, none, none, none] μ) _
  unfold G_last_of
  have ep : Txt.partition (untilT j) (" " : Str) = (("until" : Str), (" " : Str), strI j) := TL.partition_app (s := 32) (S := []) lit_tl.2.2.1 (name_no32 low_words.1)
  have eT : tgT 3 (tgCons (tgN 3) (tgCons (tgN 4) (tgCons (tgN 5) tgNil))) (.tup [.str ("until" : Str), .str (" " : Str), .str (strI j)]) [some (.str (untilT j)), some (.int now), some n, none, none, none, none] = some [some (.str (untilT j)), some (.int now), some n, some (.str ("until" : Str)), some (.str (" " : Str)), some (.str (strI j)), none] := rfl
  refine seq_cut (fun o μ' => o = .nx [some (.str (untilT j)), some (.int now), some n, some (.str ("until" : Str)), some (.str (" " : Str)), some (.str (strI j)), none] ∧ μ' = μ) ?_ ?_
  · simp only [W_set, ↓flI, ↓flE, ↓flQ, List.getElem?_cons_zero, List.getElem?_cons_succ, beq_self_eq_true, true_and, part_W, ep, eT, setR_some, and_self, and_true]
    exact ⟨sp_len, sz (by omega)⟩
  rintro o μ' ⟨rfl, rfl⟩
  rw [kS_nx]
  simp only [↓flS, ↓flE, ↓flO, ↓flI, ↓flQ, List.getElem?_cons_zero, List.getElem?_cons_succ, List.set_cons_zero, List.set_cons_succ]
  rw [integer_E (cI := cI) (cP := cP) (cE := cE) (i := i) h, W_ok]
  have e1 : isN (.int j) = false := rfl
  simp only [decide_true, Bool.not_true, br_f, e1, ↓flO, ↓flE, decide_eq_false (show ¬ j < now by omega)]
  exact ⟨rfl, rfl⟩
end K49
/-! reading: rounds -/
namespace K49
open PySem PySem.Spec PyProof.Rows L2 FL
set_option autoImplicit false
variable {cI cP cE : Addr}
theorem aug_int {i : Nat} {F : FE} {ρ : Rho} {μ : Mu} {x y : Int} {Q : Ot → Mu → Prop} (h : ρ[i]? = some (some (.int x))) (hF : F ρ μ = .ok (.int y) μ) : W (gAug i F ρ μ) Q = Q (.nx (ρ.set i (some (.int (x + y))))) μ := by
  unfold gAug
  rw [h]
  simp only [hF, bind_ok]
  exact W_ok _ _ _
theorem star_W (F : FE) (Fs : FA) (ρ : Rho) (μ : Mu) (Q : List D → Mu → Prop) : W (fStar F Fs ρ μ) Q = W (F ρ μ) fun d μ1 => W (match d.items with
  | some xs => (Fs ρ μ1).bind fun ys μ2 => .ok (xs ++ ys) μ2
  | none => match d with
    | .ref k => match μ1[k]? with
      | some (.lst xs) => (Fs ρ μ1).bind fun ys μ2 => .ok (xs ++ ys) μ2
      | _ => .no
    | _ => .no : Rs (List D)) Q := W_bind _ _ _
theorem out_dataT {μ : Mu} {o : Ob} {ds : List D} {Q : D → Mu → Prop} (h : Pl (.tup ds) = true) (q : Q (.tup ds) μ) : kG μ Q (.rt (.tup ds)) (μ ++ [o]) := by
  refine ⟨fit_last, ?_⟩
  show D.inn μ.length (.tup ds) = true ∧ Q (.tup ds) ((μ ++ [o]).take μ.length)
  rw [take_last]
  exact ⟨pl_inn h, q⟩
theorem drop_at {α : Type} {xs : List α} {k : Nat} {x : α} {r : List α} (h : xs.drop k = x :: r) : atI xs (k : Int) = some x ∧ xs.drop (k + 1) = r ∧ k < xs.length := by
  have hk : k < xs.length := by
    by_cases z : k < xs.length
    · exact z
    · rw [List.drop_of_length_le (by omega)] at h; cases h
  have e := List.drop_eq_getElem_cons hk
  rw [h] at e
  injection e with e1 e2
  refine ⟨?_, e2.symm, hk⟩
  unfold atI ixN
  rw [if_pos (by omega), if_pos (by omega), Option.bind_some, Int.toNat_natCast, e1]
  simp
theorem ix_last (a : List D) (x : D) : ixN (a ++ [x]).length (-1) = some a.length := by
  unfold ixN
  rw [if_neg (by omega), if_pos (by rw [List.length_append, List.length_singleton]; omega)]
  congr 1
  rw [List.length_append, List.length_singleton]; omega
theorem set_snoc (a : List D) (x y : D) : (a ++ [x]).set a.length y = a ++ [y] := by
  rw [List.set_append_right _ _ (Nat.le_refl _), Nat.sub_self]; rfl
theorem txt_round {d : D} (h : isTup d = true) : decide (txtD d = ("round" : Str)) = false := by
  refine decide_eq_false fun z => ?_
  rcases cases_tup d with ⟨ds, rfl⟩ | hf
  · have e := congrArg TL.tl z
    rw [txt_tup, TL.tl_append, TL.tl_append, lit_tl.1] at e
    have e2 : TL.tl ("round" : Str) = [114, 111, 117, 110, 100] := by decide +kernel
    rw [e2] at e
    cases e
  · rw [hf] at h; cases h
theorem ixE {μ : Mu} {l : Nat} {ds : List D} (h : μ[l]? = some (.lst ds)) {i : Int} {d : D} (e : atI ds i = some d) : gIx (.ref l) (.int i) μ = .ok d μ := by
  unfold gIx
  simp only [h, e]
theorem star_tup {F : FE} {Fs : FA} {ρ : Rho} {μ : Mu} {xs : List D} {Q : List D → Mu → Prop} (hF : F ρ μ = .ok (.tup xs) μ) : W (fStar F Fs ρ μ) Q = W (Fs ρ μ) fun ys μ2 => Q (xs ++ ys) μ2 := by
  unfold fStar
  rw [hF, bind_ok]
  exact W_bindQ _ _ _
theorem wh_W (f : Rho → Mu → Nat) (c : FB) (G : FS) (ρ : Rho) (μ : Mu) (Q : Ot → Mu → Prop) : W (gWhile f c G ρ μ) Q = W (gWh c G (f ρ μ) ρ μ) Q := rfl
theorem rounds_E {i : Nat} {rs pre lines : List D} {μ : Mu} (h : ∀ r ∈ rs, standsD r = true) (hw : wt (.tup rs) ≤ 900000) (hl : lines = pre ++ (rs.flatMap roundL).map .str) (hn : lines.length ≤ 10000000) : (gs cI cP cE (i + 25)).rounds_of [.lst lines, .int (pre.length : Nat), .int (rs.length : Nat)] μ = .ok (.tup rs) μ := by
  refine W.eqD (runG_W ?_)
  show W (G_rounds_of _ [some (.lst lines), some (.int (pre.length : Nat)), some (.int (rs.length : Nat)), none] μ) _
  unfold G_rounds_of
  have hlen := len_wt rs
  have hwr := hw
  rw [wt_tup] at hwr
  refine seq_cut (fun o μ1 => o = .nx [some (.lst lines), some (.int (pre.length : Nat)), some (.int (rs.length : Nat)), some (.ref μ.length)] ∧ μ1 = μ ++ [.lst []]) ?_ ?_
  · simp only [↓flS, ↓flE, List.set_cons_zero, List.set_cons_succ, and_self, and_true]
    exact sz (by simp)
  rintro o μ1 ⟨rfl, rfl⟩
  rw [kS_nx]
  refine seq_cut (fun o μ1 => (∃ k : Nat, o = .nx [some (.lst lines), some (.int k), some (.int (rs.length : Nat)), some (.ref μ.length)]) ∧ μ1 = μ ++ [.lst rs]) ?_ ?_
  · rw [wh_W]
    show W (gWh _ _ (lines.length + 1) _ _) _
    refine while_W (fun m ρ μ1 => ∃ (acc ss rest : List D) (k : Nat), ρ = [some (.lst lines), some (.int k), some (.int (rs.length : Nat)), some (.ref μ.length)] ∧ μ1 = μ ++ [.lst acc] ∧ lines.drop k = (ss.map txtD ++ rest.flatMap roundL).map .str ∧ ((acc = [] ∧ ss = [] ∧ rest = rs) ∨ ∃ a s, acc = a ++ [.tup s] ∧ rs = a ++ [.tup (s ++ ss)] ++ rest) ∧ lines.length - k ≤ m) ?_ _ _ _ ⟨[], [], rs, pre.length, rfl, rfl, by rw [hl, List.drop_left]; rfl, .inl ⟨rfl, rfl, rfl⟩, by omega⟩
    rintro m ρ μ1 ⟨acc, ss, rest, k, rfl, rfl, hd, hinv, hm⟩
    have gt := getA (μ := μ) (o := .lst acc)
    have accl : acc.length ≤ rs.length := by
      rcases hinv with ⟨rfl, _, _⟩ | ⟨a, s, rfl, hr⟩
      · simp
      · rw [hr]; simp only [List.length_append, List.length_cons, List.length_nil]; omega
    simp only [↓flE, ↓flO, List.getElem?_cons_zero, List.getElem?_cons_succ]
    refine ⟨fun hc => ?_, fun hc => ?_⟩
    · have hk : k < lines.length := by have := of_decide_eq_true hc; omega
      obtain ⟨m', rfl⟩ : ∃ m', m = m' + 1 := ⟨m - 1, by omega⟩
      refine ⟨m', rfl, ?_⟩
      cases ss with
      | nil =>
        cases rest with
        | nil =>
          exfalso
          have := congrArg List.length hd
          rw [List.length_drop] at this
          simp at this
          omega
        | cons r rest =>
          have hr : rs = acc ++ r :: rest := by
            rcases hinv with ⟨rfl, _, hr⟩ | ⟨a, s, rfl, hr⟩
            · exact hr.symm
            · rw [List.append_nil] at hr; exact hr
          have hst : standsD r = true := h r (by rw [hr]; simp)
          obtain ⟨us, rfl, gu⟩ := standsD_ex hst
          have hd' : lines.drop k = .str ("round" : Str) :: (us.map txtD ++ rest.flatMap roundL).map D.str := hd
          obtain ⟨e1, e2, _⟩ := drop_at hd'
          have hlt : acc.length < rs.length := by rw [hr]; simp
          refine seq_cut (fun o μ' => o = .nx [some (.lst lines), some (.int k), some (.int (rs.length : Nat)), some (.ref μ.length)] ∧ μ' = μ ++ [.lst (acc ++ [.tup []])]) ?_ ?_
          · simp only [↓flS, ↓flE, ↓flO, ↓flI, ↓flQ, List.getElem?_cons_zero, List.getElem?_cons_succ, e1, decide_true, lenR gt, decide_eq_true (show ((acc.length : Nat) : Int) < (rs.length : Nat) by omega)]
            refine ⟨tyR gt, sz (by simp), ?_⟩
            rw [appR gt (Nat.lt_of_le_of_lt (m := 1000000) (by omega) (by decide)), set_last]
            exact ⟨trivial, rfl⟩
          rintro o μ' ⟨rfl, rfl⟩
          rw [kS_nx, aug_int rfl rfl]
          exact ⟨acc ++ [.tup []], us, rest, k + 1, rfl, rfl, e2, .inr ⟨acc, [], rfl, by rw [hr, List.append_assoc]; rfl⟩, by omega⟩
      | cons d ss =>
        rcases hinv with ⟨_, z, _⟩ | ⟨a, s, rfl, hr⟩
        · cases z
        have hmem : D.tup (s ++ d :: ss) ∈ rs := by rw [hr]; simp
        obtain ⟨us, eus, gu⟩ := standsD_ex (h _ hmem)
        cases eus
        have hsd : standD d = true := gu d (by simp)
        have wr := wt_mem hmem
        have wd := wt_mem (show d ∈ s ++ d :: ss by simp)
        rw [wt_tup] at wr
        have sl := len_wt (s ++ d :: ss)
        rw [List.length_append, List.length_cons] at sl
        have hd' : lines.drop k = .str (txtD d) :: (ss.map txtD ++ rest.flatMap roundL).map D.str := hd
        obtain ⟨e1, e2, _⟩ := drop_at hd'
        have hso := standof_E (cI := cI) (cP := cP) (cE := cE) (i := i) (n := .int k) (μ := μ ++ [.lst (a ++ [.tup s])]) hsd (by omega)
        have hne : (a ++ [D.tup s]).isEmpty = false := by cases a <;> rfl
        refine seq_cut (fun o μ' => o = .nx [some (.lst lines), some (.int k), some (.int (rs.length : Nat)), some (.ref μ.length)] ∧ μ' = μ ++ [.lst (a ++ [.tup (s ++ [d])])]) ?_ ?_
        · simp only [↓flS, ↓flE, ↓flO, ↓flI, ↓flQ, List.getElem?_cons_zero, List.getElem?_cons_succ, e1, txt_round (stand_tup hsd), Bool.not_false, truR gt, hne]
          rw [star_tup (ev_bin (ev_var rfl) (ev_un (g := gNeg) (a := .int 1) (r := .ok (.int (-1)) _) ev_c rfl) (ixE gt (at_last a _)))]
          simp only [↓flE, ↓flO, List.getElem?_cons_zero, List.getElem?_cons_succ, e1]
          rw [hso, W_ok]
          refine ⟨sz2' (by rw [List.length_append, List.length_singleton]; omega), ?_⟩
          rw [putr gt (ix_last a _), set_snoc, set_last]
          exact ⟨trivial, rfl⟩
        rintro o μ' ⟨rfl, rfl⟩
        rw [kS_nx, aug_int rfl rfl]
        exact ⟨a ++ [.tup (s ++ [d])], ss, rest, k + 1, rfl, rfl, e2, .inr ⟨a, s ++ [d], rfl, by rw [hr]; simp⟩, by omega⟩
    · have hk : lines.length ≤ k := by have := of_decide_eq_false hc; omega
      rw [List.drop_of_length_le hk] at hd
      have hs : ss = [] := by
        cases ss with
        | nil => rfl
        | cons a b => cases hd
      subst hs
      have hrest : rest = [] := by
        cases rest with
        | nil => rfl
        | cons a b => cases hd
      subst hrest
      refine ⟨⟨k, rfl⟩, ?_⟩
      rcases hinv with ⟨rfl, _, hr⟩ | ⟨a, s, rfl, hr⟩
      · rw [← hr]
      · rw [hr]; simp
  rintro o μ1 ⟨⟨k, rfl⟩, rfl⟩
  rw [kS_nx]
  have gt := getA (μ := μ) (o := .lst rs)
  simp only [↓flS, ↓flE, ↓flO, List.getElem?_cons_zero, List.getElem?_cons_succ, lenR gt, decide_eq_false (show ¬ ((rs.length : Nat) : Int) < (rs.length : Nat) by omega)]
  rw [tupR gt]
  refine out_dataT ?_ ⟨rfl, rfl⟩
  rw [pl_tup]
  exact plL_of fun r hr => nest_pl (stands_nest (h r hr))
end K49
/-! reading: papers -/
namespace K49
open PySem PySem.Spec PyProof.Rows L2 FL
set_option autoImplicit false
variable {cI cP cE : Addr}
/-- a comprehension, item by item -/
inductive Each (T : FT) (F : FE) (ρ : Rho) (μ : Mu) : List D → List D → Prop
  | nil : Each T F ρ μ [] []
  | cons {x y : D} {xs ys : List D} {ρ1 : Rho} (h1 : T x ρ = some ρ1) (h2 : F ρ1 μ = .ok y μ) (r : Each T F ρ μ xs ys) : Each T F ρ μ (x :: xs) (y :: ys)
theorem cl_each {T : FT} {F : FE} {ρ : Rho} {μ : Mu} : ∀ {xs ys acc : List D}, Each T F ρ μ xs ys → acc.length + xs.length ≤ sizeLine → cLoop T fYes F ρ xs acc μ = .ok (acc ++ ys) μ
  | _, _, acc, .nil, _ => by rw [cLoop, List.append_nil]
  | _, _, acc, .cons h1 h2 r, hz => by
    rw [List.length_cons] at hz
    rw [cLoop, h1]
    simp only
    simp only [fYes, Rs.noex, bind_ok, if_true, h2]
    rw [if_pos (by omega), cl_each r (by rw [List.length_append, List.length_singleton]; omega), List.append_assoc]
    rfl
theorem itE_W (Fs : FA) (ρ : Rho) (μ : Mu) (Q : List D → Mu → Prop) : W (fItE Fs ρ μ) Q = W (Fs ρ μ) fun ds μ1 => W (match ds with
  | [.lst xs] => Rs.ok (numbered xs) μ1
  | _ => .no) Q := W_bind _ _ _
theorem ifN_W (i : Nat) (g : G2) (F Fb : FE) (G1 G2 : FS) (ρ : Rho) (μ : Mu) (Q : Ot → Mu → Prop) : W (gIfN i g F Fb G1 G2 ρ μ) Q = W (F ρ μ) fun d μ1 => W (Fb (ρ.set i (some d)) μ1) fun b μ2 => W (g d b μ2) fun c μ3 => W (match c with
  | .bl true => G1 (ρ.set i (some d)) μ3
  | .bl false => G2 (ρ.set i (some d)) μ3
  | _ => .no) Q := by
  unfold gIfN
  simp only [W_bind]
  all_goals rfl
theorem each_stands {i : Nat} {μ : Mu} {ρ : Rho} (hρ : ρ.length = 9) : ∀ (ds : List D) (k : Nat), (∀ d ∈ ds, standD d = true ∧ wt d ≤ 900000) →
    Each (tgT 2 (tgCons (tgN 2) (tgCons (tgN 3) tgNil))) (fCall (gs cI cP cE (i + 24)).stand_of (fCons (fVar 3) (fCons (fBin gAdd (fVar 2) (fC (.int 1))) fNil))) ρ μ (((ds.map fun d => D.str (txtD d)).zipIdx k).map fun p => .tup [.int (p.2 : Nat), p.1]) ds
  | [], k, _ => .nil
  | d :: ds, k, h => by
    have hd := h d List.mem_cons_self
    rw [List.map_cons, List.zipIdx_cons, List.map_cons]
    refine .cons (ρ1 := (ρ.set 2 (some (.int (k : Nat)))).set 3 (some (.str (txtD d)))) rfl ?_ (each_stands hρ ds (k + 1) fun x hx => h x (List.mem_cons_of_mem _ hx))
    have v3 : ((ρ.set 2 (some (.int (k : Nat)))).set 3 (some (.str (txtD d))))[3]? = some (some (.str (txtD d))) := List.getElem?_set_self (by rw [List.length_set, hρ]; omega)
    have v2 : ((ρ.set 2 (some (.int (k : Nat)))).set 3 (some (.str (txtD d))))[2]? = some (some (.int (k : Nat))) := by
      rw [List.getElem?_set_ne (by omega)]
      exact List.getElem?_set_self (by rw [hρ]; omega)
    exact ev_call (eva_2 (ev_var v3) (ev_bin (ev_var v2) ev_c (r := .ok (.int ((k : Nat) + 1)) μ) rfl)) (standof_E hd.1 hd.2)
theorem at_0 {x : D} {ds : List D} : atI (x :: ds) 0 = some x := by
  unfold atI ixN
  rw [if_pos (by omega), if_pos (by rw [List.length_cons]; omega)]
  rfl
theorem at_app {xs ys : List D} {y : D} : atI (xs ++ y :: ys) (xs.length : Nat) = some y := by
  unfold atI ixN
  rw [if_pos (by omega), if_pos (by rw [List.length_append, List.length_cons]; omega), Option.bind_some, Int.toNat_natCast, List.getElem?_append_right (Nat.le_refl _), Nat.sub_self]
  rfl
theorem row_list : decide (("row" : Str) = ("list" : Str)) = false := by decide +kernel
theorem lines_ne {d : D} (h : formD d = true) : linesD d ≠ [] := by
  rcases formD_ex h with ⟨ds, rfl, g⟩ | ⟨es, i, rs, rfl, g⟩
  · exact List.cons_ne_nil _ _
  · exact List.cons_ne_nil _ _
theorem split_paper {d : D} (h : formD d = true) : Txt.split (paperT d) ("\n" : Str) = linesD d := by
  refine TL.split_join (s := 10) (S := []) lit_tl.2.2.2.2 (by decide +kernel) (lines_ne h) fun p hp hm => ?_
  have := lines_sgn h p hp 10 hm
  cases this
theorem paper_len {d : D} (h : formD d = true) : (paperT d).length ≤ 5 * wt d + 200 := by
  have a := lines_len h
  have b := join_len ("\n" : Str) (linesD d)
  rw [len1s.2.2.2.2, Nat.mul_one] at b
  unfold lsum at a
  unfold paperT
  omega
theorem last_le {done es2 : List D} {e : D} (h : incr ((done ++ e :: es2).map timeOf) = true) (h0 : 0 ≤ timeOf e) : lastT done ≤ timeOf e := by
  unfold lastT
  cases hl : done.getLast? with
  | none => exact h0
  | some x =>
    rw [incr_iff, List.map_append, List.map_cons] at h
    exact (List.pairwise_append.mp h).2.2 _ (List.mem_map.mpr ⟨x, List.mem_of_getLast? hl, rfl⟩) _ List.mem_cons_self
theorem read_E {i : Nat} {d : D} {μ : Mu} (h : formD d = true) (hw : wt d ≤ 900000) : (gs cI cP cE (i + 26)).read_paper [.str (paperT d)] μ = .ok d μ := by
  have hl := lines_len h
  have hn := lsum_n (linesD d)
  have hs := split_paper h
  have hp := paper_len h
  refine W.eqD (runG_W ?_)
  show W (G_read_paper _ _ _ _ [some (.str (paperT d)), none, none, none, none, none, none, none, none] μ) _
  unfold G_read_paper
  refine seq_cut (fun o μ' => o = .nx [some (.str (paperT d)), none, none, none, none, none, none, none, none] ∧ μ' = μ) ?_ ?_
  · simp only [↓flS, ↓flE, List.getElem?_cons_zero]
    show W (Rs.ok (D.bl true) μ) _
    rw [W_ok]
    simp only [↓flE, Bool.not_true, br_f, and_self]
  rintro o μ' ⟨rfl, rfl⟩
  rw [kS_nx]
  refine seq_cut (fun o μ1 => o = .nx [some (.str (paperT d)), some (.lst ((linesD d).map .str)), none, none, none, none, none, none, none] ∧ μ1 = μ') ?_ ?_
  · simp only [↓flS, ↓flE, ↓flI, ↓flQ, List.getElem?_cons_zero, List.set_cons_zero, List.set_cons_succ, beq_self_eq_true, true_and, split_W, hs, and_self, and_true]
    exact ⟨nl_len, sz2' (by omega)⟩
  rintro o μ1 ⟨rfl, rfl⟩
  rw [kS_nx]
  rcases formD_ex h with ⟨ds, rfl, g⟩ | ⟨es, j, rs, rfl, g1, g2, g3, g4, g5⟩
  · have a0 : atI ((linesD (.tup [.str ("list" : Str), .tup ds])).map D.str) 0 = some (.str ("list" : Str)) := at_0
    have hws : wt (.tup ds) ≤ 900000 := by simp only [wt_tup, wtL_cons, wtL_nil] at hw ⊢; omega
    have hwl := len_wt ds
    have hws' := hws
    rw [wt_tup] at hws'
    have ec : FL.cutD ((linesD (.tup [.str ("list" : Str), .tup ds])).map D.str) (some 1) none = ds.map fun d => D.str (txtD d) := by
      rw [cut_drop _ 1 (by omega)]
      show (ds.map txtD).map D.str = _
      rw [List.map_map]; rfl
    simp only [↓flS, ↓flE, ↓flO, ↓flI, ↓flQ, List.getElem?_cons_zero, List.getElem?_cons_succ, a0, decide_true, itE_W, ec, wipeR, List.set_cons_zero, List.set_cons_succ]
    rw [W_ok]
    unfold FL.numbered
    rw [cl_each (each_stands (cI := cI) (cP := cP) (cE := cE) (i := i + 1) rfl ds 0 fun x hx => ⟨g x hx, by have := wt_mem hx; omega⟩) (by simp only [List.length_map, List.length_zipIdx, List.length_nil, Nat.zero_add]; exact sz2' (by omega)), W_ok]
    refine ⟨sz (by simp), fun k o hk e => .inl e, ?_⟩
    have hpl := nest_pl (form_nest h).1
    show D.inn _ _ = true ∧ IsD _ _ _ (List.take μ1.length μ1)
    rw [List.take_length]
    exact ⟨pl_inn hpl, rfl, rfl⟩
  · have el : (linesD (.tup [.str ("row" : Str), .tup es, .int j, .tup rs])).map D.str = .str ("row" : Str) :: (es.map fun e => D.str (evTxt e)) ++ (.str (untilT j) :: (rs.flatMap roundL).map D.str) := by
      show ((("row" : Str) :: es.map evTxt ++ (untilT j :: rs.flatMap roundL)).map D.str) = _
      rw [List.map_append, List.map_cons, List.map_map, List.map_cons]
      rfl
    have hd : formD (.tup [.str ("row" : Str), .tup es, .int j, .tup rs]) = true := h
    have hpl := nest_pl (form_nest h).1
    rw [el]
    have ln : ((linesD (.tup [.str ("row" : Str), .tup es, .int j, .tup rs])).map D.str).length ≤ 5000000 := by rw [List.length_map]; omega
    rw [el] at ln
    generalize hL : (D.str ("row" : Str) :: (es.map fun e => D.str (evTxt e)) ++ (.str (untilT j) :: (rs.flatMap roundL).map D.str)) = L at ln ⊢
    have a0 : atI L 0 = some (.str ("row" : Str)) := by rw [← hL]; exact at_0
    have ec : FL.cutD L (some 1) none = (es.map fun e => D.str (evTxt e)) ++ (.str (untilT j) :: (rs.flatMap roundL).map D.str) := by
      rw [cut_drop _ 1 (by omega), ← hL]; rfl
    have au : atI L ((es.length : Nat) + 1 : Int) = some (.str (untilT j)) := by
      have := at_app (xs := D.str ("row" : Str) :: (es.map fun e => D.str (evTxt e))) (y := .str (untilT j)) (ys := (rs.flatMap roundL).map D.str)
      rw [hL, List.length_cons, List.length_map] at this
      exact this
    have hlL : L.length = es.length + 2 + (rs.flatMap roundL).length := by
      rw [← hL]; simp only [List.length_append, List.length_cons, List.length_map]; omega
    have hwe : wt (.tup es) ≤ 900000 := by simp only [wt_tup, wtL_cons, wtL_nil] at hw ⊢; omega
    have hwr : wt (.tup rs) ≤ 900000 := by simp only [wt_tup, wtL_cons, wtL_nil] at hw ⊢; omega
    have ev := events_ex g1
    have hle := len_wt es
    have hwe' := hwe
    rw [wt_tup] at hwe'
    generalize hx : paperT (.tup [.str ("row" : Str), .tup es, .int j, .tup rs]) = x
    -- no list
    refine seq_cut (fun o μ2 => o = .nx [some (.str x), some (.lst L), none, none, none, none, none, none, none] ∧ μ2 = μ1) ?_ ?_
    · simp only [↓flS, ↓flE, ↓flO, ↓flI, ↓flQ, List.getElem?_cons_zero, List.getElem?_cons_succ, a0, row_list, and_self]
    rintro o μ2 ⟨rfl, rfl⟩
    rw [kS_nx]
    refine seq_cut (fun o μ3 => o = .nx [some (.str x), some (.lst L), none, none, none, none, none, none, none] ∧ μ3 = μ2) ?_ ?_
    · simp only [↓flS, ↓flE, ↓flO, ↓flI, ↓flQ, List.getElem?_cons_zero, List.getElem?_cons_succ, a0, decide_true, Bool.not_true, and_self]
    rintro o μ3 ⟨rfl, rfl⟩
    rw [kS_nx]
    refine seq_cut (fun o μ4 => o = .nx [some (.str x), some (.lst L), none, none, some (.ref μ3.length), none, none, none, none] ∧ μ4 = μ3 ++ [.lst []]) ?_ ?_
    · simp only [↓flS, ↓flE, List.set_cons_zero, List.set_cons_succ, and_self, and_true]
      exact sz (by simp)
    rintro o μ4 ⟨rfl, rfl⟩
    rw [kS_nx]
    refine seq_cut (fun o μ4 => o = .nx [some (.str x), some (.lst L), none, none, some (.ref μ3.length), some (.int 0), none, none, none] ∧ μ4 = μ3 ++ [.lst []]) ?_ ?_
    · simp only [↓flS, ↓flE, List.set_cons_zero, List.set_cons_succ, and_self]
    rintro o μ4 ⟨rfl, rfl⟩
    rw [kS_nx]
    -- the events
    refine seq_cut (fun o μ4 => (∃ o3 o6, o = .nx [some (.str x), some (.lst L), none, o3, some (.ref μ3.length), some (.int (lastT es)), o6, none, none]) ∧ μ4 = μ3 ++ [.lst es]) ?_ ?_
    · rw [loop_for]
      simp only [↓flI, ↓flE, List.getElem?_cons_zero, List.getElem?_cons_succ, ec]
      refine loop_W (fun rest ρ μ4 => ∃ done es2 o3 o6, es = done ++ es2 ∧ rest = (es2.map fun e => D.str (evTxt e)) ++ (.str (untilT j) :: (rs.flatMap roundL).map D.str) ∧ ρ = [some (.str x), some (.lst L), none, o3, some (.ref μ3.length), some (.int (lastT done)), o6, none, none] ∧ μ4 = μ3 ++ [.lst done]) ?_ ?_ _ _ _ ⟨[], es, none, none, rfl, rfl, rfl, rfl⟩
      · rintro y rest ρ μ4 ⟨done, es2, o3, o6, he, hr, rfl, rfl⟩
        have gt := getA (μ := μ3) (o := .lst done)
        cases es2 with
        | nil =>
          rw [List.append_nil] at he
          subst he
          injection hr with hr1 hr2
          subst hr1
          refine ⟨_, rfl, ?_⟩
          rw [flS.1, ifN_W]
          simp only [↓flE, List.getElem?_cons_zero, List.getElem?_cons_succ, List.set_cons_zero, List.set_cons_succ]
          rw [eventof_no (cI := cI) (cP := cP) (cE := cE) (i := i + 21) g2, W_ok]
          simp only [↓flO, isN]
          show W (gBrk _ _) _
          simp only [↓flS]
          exact ⟨⟨_, _, rfl⟩, trivial⟩
        | cons e es2 =>
          have hr : y :: rest = D.str (evTxt e) :: ((es2.map fun e => D.str (evTxt e)) ++ (.str (untilT j) :: (rs.flatMap roundL).map D.str)) := hr
          injection hr with hr1 hr2
          subst hr1
          have hem : e ∈ es := by rw [he]; simp
          have hee := ev.1 e hem
          have het : 0 ≤ timeOf e := by
            obtain ⟨t, _, _, _, rfl, h0, _⟩ := event_ex hee
            exact h0
          have hlt := last_le (done := done) (es2 := es2) (e := e) (by rw [← he]; exact ev.2) het
          have hdl : done.length + 1 ≤ es.length := by rw [he]; simp
          refine ⟨_, rfl, ?_⟩
          rw [flS.1, ifN_W]
          simp only [↓flE, List.getElem?_cons_zero, List.getElem?_cons_succ, List.set_cons_zero, List.set_cons_succ]
          rw [eventof_E (cI := cI) (cP := cP) (cE := cE) (i := i + 21) hee hlt (by have := wt_mem hem; omega), W_ok]
          have hN : isN e = false := by
            obtain ⟨t, _, _, _, rfl, h0, _⟩ := event_ex hee
            rfl
          simp only [↓flO, hN]
          show W (gNx _ _) _
          simp only [↓flS, ↓flE, ↓flI, List.getElem?_cons_zero, List.getElem?_cons_succ]
          refine ⟨tyR gt, ?_⟩
          rw [appR gt (Nat.lt_of_le_of_lt (m := 1000000) (by omega) (by decide)), set_last]
          have ht : ∀ (μ : Mu) (Q : D → Mu → Prop), W (gIx e (.int 0) μ) Q = Q (.int (timeOf e)) μ := fun μ Q => by
            obtain ⟨t, _, _, _, rfl, h0, _⟩ := event_ex hee
            simp only [↓flO, at4]
            rfl
          rw [ht]
          exact ⟨done ++ [e], es2, _, _, by rw [he, List.append_assoc]; rfl, hr2, by rw [lastT_snoc]; rfl, rfl⟩
      · rintro ρ μ4 ⟨done, es2, o3, o6, he, hr, _⟩
        cases es2 <;> cases hr
    rintro o μ4 ⟨⟨o3, o6, rfl⟩, rfl⟩
    rw [kS_nx]
    have gt := getA (μ := μ3) (o := .lst es)
    refine seq_cut (fun o μ4 => o = .nx [some (.str x), some (.lst L), none, o3, some (.ref μ3.length), some (.int (lastT es)), o6, some (.int ((es.length : Nat) + 1)), none] ∧ μ4 = μ3 ++ [.lst es]) ?_ ?_
    · simp only [↓flS, ↓flE, ↓flO, List.getElem?_cons_zero, List.getElem?_cons_succ, List.set_cons_zero, List.set_cons_succ, lenR gt, and_self]
    rintro o μ4 ⟨rfl, rfl⟩
    rw [kS_nx]
    refine seq_cut (fun o μ4 => o = .nx [some (.str x), some (.lst L), none, o3, some (.ref μ3.length), some (.int (lastT es)), o6, some (.int ((es.length : Nat) + 1)), none] ∧ μ4 = μ3 ++ [.lst es]) ?_ ?_
    · simp only [↓flS, ↓flE, ↓flO, ↓flQ, List.getElem?_cons_zero, List.getElem?_cons_succ, decide_eq_false (show ¬ ((es.length : Nat) : Int) + 1 = (L.length : Nat) by omega), and_self]
    rintro o μ4 ⟨rfl, rfl⟩
    rw [kS_nx]
    refine seq_cut (fun o μ4 => o = .nx [some (.str x), some (.lst L), none, o3, some (.ref μ3.length), some (.int (lastT es)), o6, some (.int ((es.length : Nat) + 1)), some (.int j)] ∧ μ4 = μ3 ++ [.lst es]) ?_ ?_
    · simp only [↓flS, ↓flE, ↓flO, ↓flQ, List.getElem?_cons_zero, List.getElem?_cons_succ, List.set_cons_zero, List.set_cons_succ, au]
      rw [lastof_E (cI := cI) (cP := cP) (cE := cE) (i := i + 22) g2 g3, W_ok]
      exact ⟨rfl, rfl⟩
    rintro o μ4 ⟨rfl, rfl⟩
    rw [kS_nx]
    simp only [↓flS, ↓flE, ↓flO, List.getElem?_cons_zero, List.getElem?_cons_succ, lenR gt]
    rw [tupR gt]
    have hr := rounds_E (cI := cI) (cP := cP) (cE := cE) (i := i) (rs := rs) (pre := D.str ("row" : Str) :: (es.map fun e => D.str (evTxt e)) ++ [.str (untilT j)]) (lines := L) (μ := μ3 ++ [.lst es]) g5 hwr (by rw [← hL, List.append_assoc]; rfl) (by omega)
    have hpre : (D.str ("row" : Str) :: (es.map fun e => D.str (evTxt e)) ++ [D.str (untilT j)]).length = es.length + 2 := by simp only [List.length_append, List.length_cons, List.length_map, List.length_nil]
    rw [hpre, show ((es.length + 2 : Nat) : Int) = (es.length : Nat) + 1 + 1 by omega, g4] at hr
    rw [lenR gt, hr, W_ok]
    exact ⟨sz (by simp), out_dataT hpl ⟨rfl, rfl⟩⟩
end K49
/-! repr of papers; what is right -/
namespace K49
open PySem PySem.Spec PyProof.Rows L2 FL
set_option autoImplicit false
variable {cI cP cE : Addr}
theorem cases_py {d : D} {n : Nat} (h : nest n d = true) {p : PyData} (e : d.py = some p) : p.showable = true ∧ p.shown.length ≤ 10 * wt d := by
  have key : ∀ (n : Nat) (d : D), nest n d = true → ∀ p, d.py = some p → p.showable = true ∧ p.shown.length ≤ 10 * wt d := by
    have at0 : ∀ (n : Nat) (d : D), nest n d = true → (∀ ds, d ≠ .tup ds) → ∀ p, d.py = some p → p.showable = true ∧ p.shown.length ≤ 10 * wt d := by
      intro n d h ht p e
      rcases nest_cases h with ⟨ds, m, rfl, _, _⟩ | rfl | ⟨i, rfl, hi⟩ | ⟨x, rfl, hx⟩
      · exact absurd rfl (ht ds)
      · cases e
        refine ⟨rfl, ?_⟩
        have : (PyData.shown .none).length = 4 := by decide +kernel
        rw [this, show wt .non = 8 from rfl]; omega
      · cases e
        refine ⟨decide_eq_true (log_isInt hi), ?_⟩
        have := (str_len hi).1
        show (Str.ofString (toString i)).length ≤ _
        rw [show wt (.int i) = 64 by rw [wt]]; omega
      · cases e
        refine ⟨rfl, ?_⟩
        rw [wt_str]
        have := StrLaws.reprText_len x fun c hc => by
          have := of_decide_eq_true (List.all_eq_true.mp hx c hc)
          exact Nat.lt_of_lt_of_le this (by decide)
        show (reprText x).length ≤ _
        omega
    intro n
    induction n with
    | zero =>
      intro d h
      refine at0 0 d h fun ds z => ?_
      subst z
      cases h
    | succ n ih =>
      intro d h p e
      rcases cases_tup d with ⟨ds, rfl⟩ | ht
      · rw [nest_tup, List.all_eq_true] at h
        have k : ∀ (ds : List D), (∀ x ∈ ds, nest n x = true) → ∀ ps, pyL ds = some ps → PyData.showableAll ps = true ∧ ((PyData.shownAll ps).map (·.length)).sum + 20 * (PyData.shownAll ps).length ≤ 10 * wtL ds := by
          intro ds
          induction ds with
          | nil =>
            intro _ ps e
            cases e
            exact ⟨rfl, by simp [PyData.shownAll]⟩
          | cons d ds ihd =>
            intro g ps e
            have e : (D.py d).bind (fun x => (pyL ds).map fun xs => x :: xs) = some ps := e
            cases hd : D.py d with
            | none => rw [hd] at e; cases e
            | some q =>
              cases hds : pyL ds with
              | none => rw [hd, hds] at e; cases e
              | some qs =>
                rw [hd, hds] at e
                cases e
                obtain ⟨a1, a2⟩ := ih d (g d List.mem_cons_self) q hd
                obtain ⟨b1, b2⟩ := ihd (fun x hx => g x (List.mem_cons_of_mem _ hx)) qs hds
                refine ⟨?_, ?_⟩
                · show (q.showable && PyData.showableAll qs) = true
                  rw [a1, b1]; rfl
                · rw [PyData.shownAll, List.map_cons, List.sum_cons, List.length_cons, wtL_cons]
                  omega
        have e : (pyL ds).map PyData.tuple = some p := e
        cases hds : pyL ds with
        | none => rw [hds] at e; cases e
        | some qs =>
          rw [hds] at e
          cases e
          obtain ⟨b1, b2⟩ := k ds h qs hds
          refine ⟨b1, ?_⟩
          rw [PyData.shown, wt_tup]
          have := tupleText_len_le (PyData.shownAll qs)
          omega
      · refine at0 (n + 1) d h (fun ds z => ?_) p e
        rw [z] at ht; cases ht
  exact key n d h p e
theorem repr_E {d : D} {μ : Mu} (h : formD d = true) (hw : wt d ≤ 900000) : ∃ s, gRepr [d] μ = .ok (.str s) μ := by
  obtain ⟨hn, x, ds, rfl⟩ := form_nest h
  obtain ⟨p, e, h1, h2, h3⟩ := py_nest hn
  obtain ⟨s1, s2⟩ := cases_py hn e
  refine ⟨p.shown, ?_⟩
  unfold gRepr
  simp only [e]
  rw [if_pos ⟨s1, sz2' (by omega), by omega, PyData.hasDict_of_canLay p h1⟩]
theorem join_lines {d : D} {μ : Mu} (h : formD d = true) (hw : wt d ≤ 900000) : gJoin (.str ("\n" : Str)) [.lst ((linesD d).map .str)] μ = .ok (.str (paperT d)) μ :=
  gJoin_ok (stL_strs _) (sum_lsum (by have := lines_len h; omega))
theorem str_eqq (x y : Str) (μ : Mu) : gEqq (.str x) (.str y) μ = .ok (.bl (decide (x = y))) μ := by
  show Rs.ok (D.bl (decide (V.str x = V.str y))) μ = _
  have : decide (V.str x = V.str y) = decide (x = y) := by simp
  rw [this]
theorem str_nee (x y : Str) (μ : Mu) : gNee (.str x) (.str y) μ = .ok (.bl (!decide (x = y))) μ := by
  show Rs.ok (D.bl (!decide (V.str x = V.str y))) μ = _
  have : decide (V.str x = V.str y) = decide (x = y) := by simp
  rw [this]
theorem right_E {i : Nat} {d : D} {μ : Mu} (h : Pl d = true) (hw : wt d ≤ 900000) (hd : hdB d = true) : (gs cI cP cE (i + 28))._law_right [d] μ = .ok (.bl true) μ := by
  have hp := lpaper_E (cI := cI) (cP := cP) (cE := cE) (i := i + 2) (μ := μ) h (by omega) hd
  have hwr := write_E (cI := cI) (cP := cP) (cE := cE) (i := i) (μ := μ) h (by omega)
  show runK 3 (G__law_right cI cP cE _ _ _ _) [d] μ = _
  unfold G__law_right
  by_cases hf : formD d = true
  · rw [if_pos hf] at hwr
    rw [hf] at hp
    refine run_ok (st_seq (ρ' := [some d, some (.str (paperT d)), none]) (μ1 := μ) ?_ ?_)
    · unfold gTryCall
      rw [show (fCons (fVar 0) fNil : FA) (enter 3 [d]) μ = .ok [d] μ from eva_1 (ev_var rfl), bind_ok, hwr]
      rfl
    have hll := llines_E (cI := cI) (cP := cP) (cE := cE) (i := i + 5) (μ := μ) hf (by omega)
    have hre := read_E (cI := cI) (cP := cP) (cE := cE) (i := i + 1) (μ := μ) hf hw
    obtain ⟨s, hs⟩ := repr_E (μ := μ) hf hw
    have hjoin : fMeth "str" gJoin (fC (.str ("\n" : Str))) (fCons (fCall (gs cI cP cE (i + 27))._law_lines (fCons (fVar 0) fNil)) fNil) [some d, some (.str (paperT d)), none] μ = .ok (.str (paperT d)) μ :=
      ev_meth ev_c rfl (eva_1 (ev_call (eva_1 (ev_var rfl)) hll)) (join_lines hf hw)
    have hcond : EvB (fOr (fNot (fTru (fCall (gs cI cP cE (i + 27))._law_is_paper (fCons (fVar 0) fNil)))) (fOr (fNot (fTru (fCall gIsi (fCons (fVar 1) (fCons (fC (.ty "str")) fNil))))) (fB (fBin gNee (fVar 1) (fMeth "str" gJoin (fC (.str ("\n" : Str))) (fCons (fCall (gs cI cP cE (i + 27))._law_lines (fCons (fVar 0) fNil)) fNil)))))) [some d, some (.str (paperT d)), none] μ false := by
      refine evb_or (b := false) (c := false) (evb_not (b := true) (evb_tru (ev_call (eva_1 (ev_var rfl)) hp))) fun _ => ?_
      refine evb_or (b := false) (c := false) (evb_not (b := true) (evb_tru (ev_call (eva_2 (ev_var rfl) ev_c) rfl))) fun _ => ?_
      refine evb_b (ev_bin (ev_var rfl) hjoin ?_)
      rw [str_nee, decide_eq_true rfl]; rfl
    refine st_seq (st_if hcond (fun z => by cases z) fun _ => rfl) (st_ret ?_)
    have hone : Ev (fBin gEqq (fCall gRepr (fCons (fCall (gs cI cP cE (i + 27)).read_paper (fCons (fVar 1) fNil)) fNil)) (fCall gRepr (fCons (fVar 0) fNil))) [some d, some (.str (paperT d)), none] μ (.bl true) := by
      refine ev_bin (a := .str s) (b := .str s) (ev_call (eva_1 (ev_call (eva_1 (ev_var rfl)) hre)) hs) (ev_call (eva_1 (ev_var rfl)) hs) ?_
      rw [str_eqq, decide_eq_true rfl]
    exact ev_and (b := true) (c := true) hone fun _ => hone
  · rw [if_neg hf] at hwr
    rw [Bool.not_eq_true] at hf
    rw [hf] at hp
    refine run_ok (μ1 := μ) (st_seq_rt (d := .bl true) ?_)
    unfold gTryCall
    rw [show (fCons (fVar 0) fNil : FA) (enter 3 [d]) μ = .ok [d] μ from eva_1 (ev_var rfl), bind_ok, hwr]
    simp only [if_true]
    have hH : H_right cP cE (gs cI cP cE (i + 27))._law_is_paper 0 ((enter 3 [d]).set 2 (some (.cls 0))) μ = .ok (.rt (.bl true)) μ := by
      unfold H_right
      refine st_ret ?_
      refine ev_and (b := true) (c := true) (ev_not (b := false) (ev_call (eva_1 (ev_var rfl)) hp)) fun _ => ?_
      refine ev_and (b := true) (c := true) (ev_call (eva_2 (ev_var rfl) ev_c) ?_) fun _ => ?_
      · unfold gIsE
        simp
      · refine ev_not (b := false) (ev_call (eva_2 (ev_var rfl) ev_c) ?_)
        unfold gIsE
        simp
    rw [hH]
end K49
/-! the beginning of the draws -/
namespace K49
open PySem PySem.Spec PyProof.Rows L2 FL
set_option autoImplicit false
variable {cI cP cE : Addr}
theorem lenRol (ds : List D) (μ : Mu) (Q : D → Mu → Prop) : W (gLen [.rol ds] μ) Q = Q (.int (ds.length : Nat)) μ := W_ok _ _ _
theorem ixRol (ds : List D) (i : Int) (μ : Mu) (Q : D → Mu → Prop) : W (gIx (.rol ds) (.int i) μ) Q = getO (atI ds i) μ Q := by
  show W (match atI ds i with | some d => Rs.ok d μ | none => .no) Q = _
  cases atI ds i <;> first | exact W_ok _ _ _ | exact W_no _
theorem pow10 : ((0 : Int) ≤ 10 ∧ (Builtin.Int.intBits (10 ^ 60) : Int) * 10 ≤ 2 ^ 27) = True := eq_true (by decide +kernel)
theorem pow18 : ((0 : Int) ≤ 18 ∧ (Builtin.Int.intBits 10 : Int) * 18 ≤ 2 ^ 27) = True := eq_true (powOk 18 (by decide))
theorem big_pos : (0 : Int) < (10 ^ 60) ^ 10 := by decide +kernel
theorem start_W {i : Nat} {ns : List Int} {a : Int} {μ : Mu} {Q : D → Mu → Prop} (ha : 0 ≤ a) (ha2 : a < 16)
    (q : ∀ x b : Int, 0 ≤ b → b < 2305843009213693951 → Q (.ref μ.length) (μ ++ [.lst [.int x, .int b, .int 0]])) : W ((gs cI cP cE (i + 1))._law_start [.rol (ns.map .int), .int a] μ) Q := by
  refine runK_W ?_
  show W (G__law_start [some (.rol (ns.map .int)), some (.int a), none, none, none] μ) _
  unfold G__law_start
  refine seq_cut (fun o μ' => ∃ y : Int, o = .nx [some (.rol (ns.map .int)), some (.int a), some (.int y), none, none] ∧ μ' = μ) ?_ ?_
  · simp only [↓flS, ↓flE, ↓flO, ↓flI, ↓flQ, List.getElem?_cons_zero, List.getElem?_cons_succ, List.set_cons_zero, List.set_cons_succ, lenRol, ixRol]
    refine ⟨fun h => ?_, fun _ => ?_⟩
    · have h := of_decide_eq_true h
      obtain ⟨d, e, hd⟩ := atI_some ha h
      obtain ⟨y, hy, rfl⟩ := List.mem_map.mp hd
      rw [e]
      exact ⟨y, rfl, rfl⟩
    · refine ⟨?_, _, rfl, trivial⟩
      have := log_lt 20 (i := a) (by omega) (by omega)
      have := log_lt 20 (i := 53) (by decide) (by omega)
      omega
  rintro o μ' ⟨y, rfl, rfl⟩
  rw [kS_nx]
  have t60 : Int.toNat 60 = 60 := rfl
  have t10 : Int.toNat 10 = 10 := rfl
  have t18 : Int.toNat 18 = 18 := rfl
  refine seq_cut (fun o μ1 => ∃ g : Int, o = .nx [some (.rol (ns.map .int)), some (.int a), some (.int y), some (.int g), none] ∧ μ1 = μ') ?_ ?_
  · simp only [↓flS, ↓flE, ↓flO, ↓flI, ↓flQ, List.getElem?_cons_zero, List.getElem?_cons_succ, List.set_cons_zero, List.set_cons_succ, t60, t10, pow60, pow10, true_and]
    exact ⟨big_pos, _, rfl, trivial⟩
  rintro o μ1 ⟨g, rfl, rfl⟩
  rw [kS_nx]
  have m0 := Int.emod_nonneg g (b := 2305843009213693921) (by decide)
  have m1 := Int.emod_lt_of_pos g (b := 2305843009213693921) (by decide)
  have small : ∀ {x : Int}, 0 ≤ x → x < 2 ^ 200 → x.natAbs.log2 < 200 := fun {x} h1 h2 => log_lt 200 (by omega) (by omega)
  refine seq_cut (fun o μ2 => ∃ m : Int, o = .nx [some (.rol (ns.map .int)), some (.int a), some (.int y), some (.int g), some (.int m)] ∧ μ2 = μ1 ∧ 0 ≤ m ∧ m < 2 ^ 100) ?_ ?_
  · simp only [↓flS, ↓flE, ↓flO, ↓flI, ↓flQ, List.getElem?_cons_zero, List.getElem?_cons_succ, List.set_cons_zero, List.set_cons_succ]
    refine ⟨by decide, ?_, ?_⟩
    · have a1 := small m0 (by omega)
      have a2 := small (x := 3) (by decide) (by decide)
      omega
    · refine ⟨_, rfl, trivial, ?_, ?_⟩ <;> split <;> omega
  rintro o μ2 ⟨m, rfl, rfl, b0, b1⟩
  rw [kS_nx]
  simp only [↓flS, ↓flE, ↓flO, ↓flI, ↓flQ, List.getElem?_cons_zero, List.getElem?_cons_succ, List.set_cons_zero, List.set_cons_succ, t18, pow18, true_and]
  have a1 := small b0 (by omega)
  have a2 := small (x := 40009) (by decide) (by decide)
  have a3 := small ha (by omega)
  have a4 := small (x := 7919) (by decide) (by decide)
  exact ⟨by omega, by omega, by decide, sz (by simp), q _ _ (Int.emod_nonneg _ (by decide)) (Int.emod_lt_of_pos _ (by decide))⟩
end K49
/-! the law -/
namespace K49
open PySem PySem.Spec PyProof.Rows L2 FL
set_option autoImplicit false
variable {cI cP cE : Addr}
theorem case_W {k : Nat} {μ : Mu} {Q : D → Mu → Prop} (hx : Nx k 0 μ μ) (q : ∀ μ', μ'.length = μ.length → (∀ j, j ≠ k → μ'[j]? = μ[j]?) → Q (.bl true) μ') : W ((gs cI cP cE 59)._law_case [.ref k] μ) Q := by
  refine runK_W ?_
  show W (G__law_case _ _ _ _ _ [some (.ref k), none] μ) _
  unfold G__law_case
  refine seq_cut (fun o μ1 => ∃ d, o = .nx [some (.ref k), some d] ∧ formD d = true ∧ wt d ≤ 250000 ∧ Nx k 300000 μ μ1) ?_ ?_
  · simp only [↓flS, ↓flE, List.getElem?_cons_zero, List.set_cons_zero, List.set_cons_succ]
    exact paper_W (by omega) hx (by omega) fun d μ' h1 h2 h3 => ⟨d, rfl, h1, h2, h3.up (by omega)⟩
  rintro o μ1 ⟨d, rfl, h1, h2, h3⟩
  rw [kS_nx]
  obtain ⟨hn, x, ds, hd⟩ := form_nest h1
  have hpl := nest_pl hn
  have hhd : hdB d = true := by rw [hd]; show cmpB (.str x) = true; rw [hd] at hn; rcases nest_cases hn with ⟨es, m, e, e2, g⟩ | e | ⟨i, e, hi⟩ | ⟨x, e, hx⟩ <;> cases e; exact nest_cmp (g _ List.mem_cons_self) (by omega)
  have hp := lpaper_E (cI := cI) (cP := cP) (cE := cE) (i := 33) (μ := μ1) hpl (by omega) hhd
  have hr := right_E (cI := cI) (cP := cP) (cE := cE) (i := 30) (μ := μ1) hpl (by omega) hhd
  rw [h1] at hp
  refine guard_W false ?_ (fun e => by cases e) fun _ => ?_
  · simp only [↓flS, ↓flE, List.getElem?_cons_zero, List.getElem?_cons_succ]
    rw [hp, W_ok]
    simp only [↓flE, Bool.not_true, br_f]
    rw [hr, W_ok]
    simp only [↓flE, Bool.not_true, isB_eq]
  simp only [↓flS, ↓flE, List.getElem?_cons_zero, List.getElem?_cons_succ]
  refine throw_W h3 (by omega) (by decide) (by decide) fun t μ2 t0 t1 h4 => ?_
  simp only [↓flQ, ↓flE, ↓flS]
  refine ⟨fun _ => q μ2 h4.1 h4.2.1, fun _ => ?_⟩
  refine spoilt_W 23 29 (by omega) hn (by omega) h4.self (by omega) fun d' μ3 p h5 => ?_
  have h6 := h4.trans h5
  have hr2 := right_E (cI := cI) (cP := cP) (cE := cE) (i := 30) (μ := μ3) p.pl (by have := p.wt; omega) (p.hd fun y es z => by rw [hd] at z; cases z; exact ⟨x, rfl⟩)
  rw [hr2, W_ok]
  exact q μ3 h6.1 h6.2.1
/-! ### the law -/
def okV (d : D) : Bool := Pl d && decide (wt d ≤ 900000) && hdB d
theorem rep_W (xs : List D) (k : Int) (μ : Mu) (Q : D → Mu → Prop) : W (gRep (.tup xs) (.int k) μ) Q = ((xs ≠ [] ∧ 2 ≤ k ∧ k ≤ 1000 ∧ xs.length ≤ 1000) ∧ Q (.tup (List.replicate k.toNat xs).flatten) μ) := W_iteQ _ _ _ _
theorem repL_W (xs : List D) (k : Int) (μ : Mu) (Q : D → Mu → Prop) : W (gRep (.lst xs) (.int k) μ) Q = ((2 ≤ k ∧ k ≤ 1000 ∧ xs.length ≤ 1000) ∧ Q (.lst (List.replicate k.toNat xs).flatten) μ) := W_iteQ _ _ _ _
theorem addM_W {k : Nat} {xs : List D} {μ : Mu} (h : μ[k]? = some (.lst xs)) (ys : List D) (Q : D → Mu → Prop) : W (gAddM (.ref k) (.lst ys) μ) Q = (xs.length + ys.length ≤ sizeLine ∧ Q (.lst (xs ++ ys)) μ) := by
  unfold gAddM
  simp only [h]
  exact W_iteQ _ _ _ _
def wideD : D := .tup (List.replicate 14 (.tup (List.replicate 14 (.int 0))))
def abcD : D := .tup (("abcdefghij" : Str).cps.toList.map sign)
theorem law_W {ns : List Int} (hns : ns.length ≤ 63) : W ((gs cI cP cE 60).law [.rol (ns.map .int)] []) fun d _ => d = .bl true := by
  refine runG_W ?_
  show W (G_law _ _ _ [some (.rol (ns.map .int)), none, none, none, none, none] []) _
  unfold G_law
  have st1 : ∀ {ws : List D} {d : D}, ws.all okV = true ∧ ws.length ≤ 20 → okV d = true → (ws ++ [d]).all okV = true ∧ (ws ++ [d]).length ≤ 21 := fun {ws d} h hd => by
    refine ⟨?_, by rw [List.length_append, List.length_singleton]; omega⟩
    rw [List.all_append, h.1]
    simp [hd]
  refine seq_cut (fun o μ1 => ∃ ws, o = .nx [some (.rol (ns.map .int)), some (.ref 0), none, none, none, none] ∧ μ1 = [.lst ws] ∧ ws.all okV = true ∧ ws.length ≤ 10) ?_ ?_
  · simp only [↓flS, ↓flE, List.set_cons_zero, List.set_cons_succ]
    repeat refine ⟨sz (by simp), ?_⟩
    exact ⟨_, rfl, rfl, by decide +kernel, by simp⟩
  rintro o μ1 ⟨ws, rfl, rfl, hw, hl⟩
  rw [kS_nx]
  refine seq_cut (fun o μ1 => o = .nx [some (.rol (ns.map .int)), some (.ref 0), some wideD, none, none, none] ∧ μ1 = [.lst ws]) ?_ ?_
  · simp only [↓flS, ↓flE, ↓flO, List.set_cons_zero, List.set_cons_succ, rep_W, repL_W]
    refine ⟨sz (by simp), ⟨by simp, by omega, by omega, by simp⟩, sz (by simp), ⟨by omega, by omega, by simp⟩, rfl, trivial⟩
  rintro o μ1 ⟨rfl, rfl⟩
  rw [kS_nx]
  have g1 : ∀ ws : List D, ([Ob.lst ws] : Mu)[0]? = some (.lst ws) := fun _ => rfl
  have abc : (("abcdefghij" : Str)).cps.size ≤ sizeLine := by decide +kernel
  have ap : ∀ (ws : List D) (d : D) (Q : D → Mu → Prop), ws.length ≤ 100 → W (gAppend (.ref 0) [d] [.lst ws]) Q = Q .non [.lst (ws ++ [d])] := fun ws d Q h => by
    rw [appR (g1 ws) (Nat.lt_of_le_of_lt (m := 100) h (by decide))]; rfl
  have ap1 : ∀ {ws : List D} {d : D} {n : Nat}, ws.all okV = true → ws.length ≤ n → okV d = true → (ws ++ [d]).all okV = true ∧ (ws ++ [d]).length ≤ n + 1 := fun {ws d n} h hl hd => by
    refine ⟨?_, by rw [List.length_append, List.length_singleton]; omega⟩
    rw [List.all_append, h]
    simp [hd]
  refine seq_cut (fun o μ1 => ∃ ws, o = .nx [some (.rol (ns.map .int)), some (.ref 0), some wideD, none, none, none] ∧ μ1 = [.lst ws] ∧ ws.all okV = true ∧ ws.length ≤ 11) ?_ ?_
  · simp only [↓flS, ↓flE, ↓flO, ↓flI, List.getElem?_cons_zero, List.getElem?_cons_succ]
    refine ⟨tyR (g1 ws), sz (by simp), sz (by simp), abc, sz (by simp), sz (by simp), sz (by simp), sz (by simp), sz (by simp), sz (by simp), ?_⟩
    rw [ap _ _ _ (by omega)]
    obtain ⟨a1, a2⟩ := ap1 (d := .tup [.str ("list" : Str), .tup [.tup [.str ("on" : Str), .str ("on" : Str), .tup [], wideD], .tup [abcD, .str ("on" : Str), .tup [], .tup [.tup [.int 0]]]]]) hw hl (by decide +kernel)
    exact ⟨_, trivial, rfl, a1, a2⟩
  rintro o μ1 ⟨ws1, rfl, rfl, hw1, hl1⟩
  rw [kS_nx]
  refine seq_cut (fun o μ1 => ∃ ws, o = .nx [some (.rol (ns.map .int)), some (.ref 0), some wideD, none, none, none] ∧ μ1 = [.lst ws] ∧ ws.all okV = true ∧ ws.length ≤ 12) ?_ ?_
  · simp only [↓flS, ↓flE, ↓flO, ↓flI, List.getElem?_cons_zero, List.getElem?_cons_succ]
    refine ⟨tyR (g1 ws1), abc, sz (by simp), sz (by simp), sz (by simp), sz (by simp), sz (by simp), sz (by simp), ?_⟩
    rw [ap _ _ _ (by omega)]
    obtain ⟨a1, a2⟩ := ap1 (d := .tup [.str ("list" : Str), .tup [.tup [abcD, .str ("on" : Str), .tup [], .tup [.tup [.int 0]]]]]) hw1 hl1 (by decide +kernel)
    exact ⟨_, trivial, rfl, a1, a2⟩
  rintro o μ1 ⟨ws2, rfl, rfl, hw2, hl2⟩
  rw [kS_nx]
  refine seq_cut (fun o μ1 => ∃ ws, o = .nx [some (.rol (ns.map .int)), some (.ref 0), some wideD, none, none, none] ∧ μ1 = [.lst ws] ∧ ws.all okV = true ∧ ws.length ≤ 13) ?_ ?_
  · have ec : FL.cutD (List.replicate 14 (D.tup (List.replicate 14 (.int 0)))) none (some 13) = List.replicate 13 (D.tup (List.replicate 14 (.int 0))) := by
      rw [cut_take _ 13 (by omega)]; rfl
    simp only [↓flS, ↓flE, ↓flO, ↓flI, List.getElem?_cons_zero, List.getElem?_cons_succ, wideD, ec, wipeR, List.set_cons_zero, List.set_cons_succ]
    refine ⟨tyR (g1 ws2), sz (by simp), ?_⟩
    rw [cl_map (fun _ => D.tup (List.replicate 13 (.int 0))), W_ok]
    · refine ⟨sz (by simp), sz (by simp), sz (by simp), ?_⟩
      rw [ap _ _ _ (by omega)]
      obtain ⟨a1, a2⟩ := ap1 (d := .tup [.str ("list" : Str), .tup [.tup [.str ("on" : Str), .str ("on" : Str), .tup [], .tup ((List.replicate 13 (D.tup (List.replicate 14 (.int 0)))).map fun _ => D.tup (List.replicate 13 (.int 0)))]]]) hw2 hl2 (by decide +kernel)
      exact ⟨_, trivial, rfl, a1, a2⟩
    · intro d hd
      rw [List.eq_of_mem_replicate hd]
      refine ⟨_, rfl, ?_⟩
      have er : FL.cutD (List.replicate 14 (D.int 0)) none (some 13) = List.replicate 13 (.int 0) := by
        rw [cut_take _ 13 (by omega)]; rfl
      refine W.eqD ?_
      simp only [↓flI, ↓flE, List.getElem?_cons_zero, List.getElem?_cons_succ, er]
      exact ⟨rfl, rfl⟩
    · exact sz (by simp)
  rintro o μ1 ⟨ws3, rfl, rfl, hw3, hl3⟩
  rw [kS_nx]
  refine seq_cut (fun o μ1 => (∃ o4, o = .nx [some (.rol (ns.map .int)), some (.ref 0), some wideD, none, o4, none]) ∧ μ1 = [.lst ws3]) ?_ ?_
  · rw [loop_for]
    simp only [↓flS, ↓flE, ↓flO, ↓flI, List.getElem?_cons_zero, List.getElem?_cons_succ, dnew_W]
    refine ⟨sz (by simp), sz (by simp), sz (by simp), sz (by simp), sz (by simp), sz (by simp), sz (by simp), sz (by simp), sz (by simp), sz (by simp), sz (by simp), sz (by simp), ?_⟩
    rw [addM_W (g1 ws3)]
    refine ⟨sz (by simp; omega), ?_⟩
    simp only [↓flI]
    have hall : (ws3 ++ [D.tup [.str ("list" : Str), .lst [], .tup []], .tup [.str ("row" : Str), .tup [], .int 0, .tup [], .tup []], .tup [.str ("list" : Str), .non], .dct [], .tup [.str ("row" : Str), .tup [], .int (-1), .tup []]]).all okV = true := by
      rw [List.all_append, hw3, Bool.true_and]
      decide +kernel
    generalize (ws3 ++ [D.tup [.str ("list" : Str), .lst [], .tup []], .tup [.str ("row" : Str), .tup [], .int 0, .tup [], .tup []], .tup [.str ("list" : Str), .non], .dct [], .tup [.str ("row" : Str), .tup [], .int (-1), .tup []]]) = vs at hall
    refine loopF_W (fun _ => true) (.bl false) (fun ρ => ∃ o4, ρ = [some (.rol (ns.map .int)), some (.ref 0), some wideD, none, o4, none]) ?_ ⟨_, rfl⟩ (fun z => by simp at z) fun _ ρ' hρ => ?_
    · rintro v hv _ ⟨o4, rfl⟩
      have hv := List.all_eq_true.mp hall v hv
      simp only [okV, Bool.and_eq_true, decide_eq_true_eq] at hv
      have hr := right_E (cI := cI) (cP := cP) (cE := cE) (i := 31) (μ := [Ob.lst ws3]) hv.1.1 hv.1.2 hv.2
      refine ⟨_, rfl, ⟨_, rfl⟩, ?_⟩
      simp only [↓flS, ↓flE, List.getElem?_cons_zero, List.getElem?_cons_succ, List.set_cons_zero, List.set_cons_succ]
      rw [hr, W_ok]
      simp only [↓flE, ↓flS, Bool.not_true, isP_nx]
    · obtain ⟨o4, rfl⟩ := hρ
      exact ⟨⟨o4, rfl⟩, rfl⟩
  rintro o μ1 ⟨⟨o4, rfl⟩, rfl⟩
  rw [kS_nx]
  refine seq_cut (fun o μ1 => ∃ o5, o = .nx [some (.rol (ns.map .int)), some (.ref 0), some wideD, none, o4, o5]) ?_ ?_
  · rw [loop_for]
    simp only [↓flS, ↓flE, ↓flO, ↓flI, List.getElem?_cons_zero, List.getElem?_cons_succ, lenRol]
    have lb : ∀ j : Int, j ≤ 16 → ∀ d ∈ upto 0 j.toNat, ∃ a : Int, d = .int a ∧ 0 ≤ a ∧ a < 16 := fun j hj d hd => by
      obtain ⟨n, hn, rfl⟩ := List.mem_map.mp hd
      have := List.mem_range.mp hn
      exact ⟨_, rfl, by omega, by omega⟩
    have hj : (if (16 : Int) < (if ((ns.map D.int).length : Int) > 1 then ((ns.map D.int).length : Int) else 1) then (16 : Int) else (if ((ns.map D.int).length : Int) > 1 then ((ns.map D.int).length : Int) else 1)) ≤ 16 ∧ 0 ≤ (if (16 : Int) < (if ((ns.map D.int).length : Int) > 1 then ((ns.map D.int).length : Int) else 1) then (16 : Int) else (if ((ns.map D.int).length : Int) > 1 then ((ns.map D.int).length : Int) else 1)) := by
      split <;> split <;> omega
    generalize (if (16 : Int) < (if ((ns.map D.int).length : Int) > 1 then ((ns.map D.int).length : Int) else 1) then (16 : Int) else (if ((ns.map D.int).length : Int) > 1 then ((ns.map D.int).length : Int) else 1)) = j at hj
    refine ⟨⟨by omega, by omega⟩, ?_⟩
    refine loop_W (fun rest ρ μ1 => (∃ o5, ρ = [some (.rol (ns.map .int)), some (.ref 0), some wideD, none, o4, o5]) ∧ ∀ d ∈ rest, ∃ a : Int, d = .int a ∧ 0 ≤ a ∧ a < 16) ?_ ?_ _ _ _ ⟨⟨_, rfl⟩, lb j hj.1⟩
    · rintro d rest ρ μ1 ⟨⟨o5, rfl⟩, hr⟩
      obtain ⟨a, rfl, a0, a1⟩ := hr d List.mem_cons_self
      refine ⟨_, rfl, ?_⟩
      simp only [↓flS, ↓flE, List.getElem?_cons_zero, List.getElem?_cons_succ, List.set_cons_zero, List.set_cons_succ]
      refine start_W a0 a1 fun x b b0 b1 => ?_
      refine case_W ⟨rfl, fun _ _ => rfl, x, b, 0, getA, b0, b1, by omega, by omega⟩ fun μ' _ _ => ?_
      simp only [↓flE, ↓flS, Bool.not_true]
      exact ⟨⟨_, rfl⟩, fun d hd => hr d (List.mem_cons_of_mem _ hd)⟩
    · rintro ρ μ1 ⟨⟨o5, rfl⟩, _⟩
      exact ⟨o5, rfl⟩
  rintro o μ1 ⟨o5, rfl⟩
  rw [kS_nx]
  simp only [↓flS, ↓flE]
  refine ⟨fun k o hk => absurd hk (Nat.not_lt_zero k), ?_⟩
  exact ⟨rfl, rfl⟩
theorem law_true (ns : List Int) (h : ns.length ≤ 63) (cI cP cE : Addr) : ∃ μ, (gs cI cP cE 60).law [.rol (ns.map .int)] [] = .ok (.bl true) μ := by
  obtain ⟨d, μ, e, rfl⟩ := (law_W (cI := cI) (cP := cP) (cE := cE) h).ex
  exact ⟨μ, e⟩
end K49
open PySem PySem.W PySem.Calls PyProof.Rows
theorem PySem.Challenge.cw_pushalike_k49_papers_written_holds : PySem.Challenge.rw_pushalike_k49_papers_written.Holds := by
  w_on; o_law
  refine HandSHeadRun.head_any (r := OpenLaw.row PySem.Challenge.rw_pushalike_k49_papers_written) (q := view (OpenLaw.row PySem.Challenge.rw_pushalike_k49_papers_written).prog [79]) (H := K49.hk) (ob := K49.ob) (M := 20000) (loose := K49.looseL) (d := HandSHeadRun.topDef (OpenLaw.row PySem.Challenge.rw_pushalike_k49_papers_written).prog 79) (kwd := []) K49.ob_eq
    (by kernel_rfl) (fun s => by kernel_rfl) K49.run (by kernel_rfl) (by kernel_rfl) (by kernel_rfl) (by rfl) (by first | assumption | decide +kernel) (by decide +kernel) ⟨rfl, rfl, rfl, rfl, rfl, by decide +kernel⟩ ?hw ?hc
  case hw => w_witness2
  case hc =>
    refine Att.attach_call (l := PySem.Challenge.rw_pushalike_k49_papers_written) (n := 63) rfl (by kernel_rfl) fun w s₀ s₁ mg mb fa o pm cd doc a vs ns G Y ho hd hcd hmg hobj hints hlen hg => ?_
    obtain ⟨K, KX, c⟩ := Y
    obtain ⟨T, TE⟩ := K49.txt_of KX G.T.g c
    have e := hmg.symm.trans T.m_law
    cases e
    exact FL.law_callG KX G.T.g G.T.b G.T.builtins G.T.nolimit hg hobj hints (Nat.le_trans hlen (by decide)) ⟨rfl, by decide, by decide⟩ (fun base hKb hns => (K49.all T TE 60).o_law) (K49.law_bind T.F_law) (K49.law_true ns hlen _ _ _)
