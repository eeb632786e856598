import PyProof.Rows.All
import Wide.All
import OpenK.AllK
import Wide.FinOn
import HandS.ForMost
import HandS.Lambda
import HandS.Star
import HandS.TupAny
import HandS.IsInst
import HandS.Zip
import HandS.Rev
import HandS.RevRange
import HandS.Wide
import HandS.Conv
import HandS.Property
import HandS.TupMul
import KE.GoesEnum
import KE.GoesMore
import KE.GoesNew
import KE.GoesEnumKw
import HandS.WordsExc
import HandS.Defaults
import PySem.Challenge.RW_gripround_k03_sums_of_rows
set_option Elab.async false
set_option linter.all false
set_option maxRecDepth 100000
set_option maxHeartbeats 0
/-! DW: data, how it lies in the abstract heap, judgements over data. -/
namespace DW
open PySem L2

abbrev Frag := PySem.W.Frag
/-- data -/
inductive D where
  | non
  | bl (b : Bool)
  | int (i : Int)
  | str (x : Str)
  | tup (ds : List D)
  | lst (ds : List D)
  | bag
  | obj (c : Addr) (fs : List (Str × D))
  | ty (n : String)
  | cl (c : Addr)
  | fz (K : Frag) (ns : List Int)

/-- a drawing bag at a over the numbers at L: whatever it has come to -/
def BagAt (a L : Addr) (h : Heap) : Prop := ∃ (i c d k : Int) (t1 t2 t3 t4 : Tok) (n : Nat),
  h.get? a = some { cls := .type "list", data := .seq #[.ref L, .int i t1, .int c t2, .int d t3, .int k t4] n } ∧ 0 ≤ i ∧ 0 ≤ c ∧ 0 ≤ d ∧ d < 2147483587 ∧ 0 ≤ k
def bagO (a L : Addr) : HO := .ext (BagAt a L)

mutual
/-- the value is the datum, in the part G that never changes -/
inductive Rep (G : Hp) : V → D → Prop
  | non : Rep G .non .non
  | bl (b : Bool) : Rep G (.bl b) (.bl b)
  | int (i : Int) : Rep G (.int i) (.int i)
  | str (x : Str) : Rep G (.str x) (.str x)
  | tup {a : Addr} {vs : List V} {ds : List D} : G a = some (.tup vs) → Reps G vs ds → Rep G (.ref a) (.tup ds)
  | lst {a : Addr} {vs : List V} {ds : List D} : G a = some (.lst vs) → Reps G vs ds → Rep G (.ref a) (.lst ds)
  | bag {a L : Addr} {ns : List Int} : G a = some (bagO a L) → G L = some (.lst (ns.map V.int)) → Rep G (.ref a) .bag
  | obj {a C dx : Addr} {vs : List (Str × V)} {fs : List (Str × D)} : G a = some (.ins C dx vs) → RepF G vs fs → Rep G (.ref a) (.obj C fs)
  | ty (n : String) : Rep G (.ty n) (.ty n)
  | cl (c : Addr) : Rep G (.ref c) (.cl c)
  | fz {a : Addr} {K : Frag} {ns : List Int} : (∀ H : Hp, (∀ b o, G b = some o → H b = some o) → SqL K H a (ns.map V.int)) → Rep G (.ref a) (.fz K ns)
inductive Reps (G : Hp) : List V → List D → Prop
  | nil : Reps G [] []
  | cons {v : V} {vs : List V} {d : D} {ds : List D} : Rep G v d → Reps G vs ds → Reps G (v :: vs) (d :: ds)
inductive RepF (G : Hp) : List (Str × V) → List (Str × D) → Prop
  | nil : RepF G [] []
  | cons {x : Str} {v : V} {vs : List (Str × V)} {d : D} {ds : List (Str × D)} : Rep G v d → RepF G vs ds → RepF G ((x, v) :: vs) ((x, d) :: ds)
end

def Sub (G H : Hp) : Prop := ∀ a o, G a = some o → H a = some o
theorem Sub.refl (G : Hp) : Sub G G := fun _ _ h => h
theorem Sub.trans {G H J : Hp} (a : Sub G H) (b : Sub H J) : Sub G J := fun c o h => b c o (a c o h)
mutual
theorem Rep.mono {G G' : Hp} (s : Sub G G') : ∀ {v : V} {d : D}, Rep G v d → Rep G' v d
  | _, _, .non => .non
  | _, _, .bl b => .bl b
  | _, _, .int i => .int i
  | _, _, .str x => .str x
  | _, _, .tup h r => .tup (s _ _ h) (Reps.mono s r)
  | _, _, .lst h r => .lst (s _ _ h) (Reps.mono s r)
  | _, _, .bag h h2 => .bag (s _ _ h) (s _ _ h2)
  | _, _, .obj h r => .obj (s _ _ h) (RepF.mono s r)
  | _, _, .ty n => .ty n
  | _, _, .cl c => .cl c
  | _, _, .fz h => .fz fun H k => h H fun b o e => k b o (s b o e)
theorem Reps.mono {G G' : Hp} (s : Sub G G') : ∀ {vs : List V} {ds : List D}, Reps G vs ds → Reps G' vs ds
  | _, _, .nil => .nil
  | _, _, .cons h r => .cons (Rep.mono s h) (Reps.mono s r)
theorem RepF.mono {G G' : Hp} (s : Sub G G') : ∀ {vs : List (Str × V)} {ds : List (Str × D)}, RepF G vs ds → RepF G' vs ds
  | _, _, .nil => .nil
  | _, _, .cons h r => .cons (Rep.mono s h) (RepF.mono s r)
end
theorem Reps.length {G : Hp} : ∀ {vs : List V} {ds : List D}, Reps G vs ds → vs.length = ds.length
  | _, _, .nil => rfl
  | _, _, .cons _ r => by rw [List.length_cons, List.length_cons, Reps.length r]
theorem Reps.get {G : Hp} : ∀ {vs : List V} {ds : List D} {i : Nat} {d : D}, Reps G vs ds → ds[i]? = some d → ∃ v, vs[i]? = some v ∧ Rep G v d
  | _, _, _, _, .nil, e => by simp at e
  | _, _, 0, _, .cons h _, e => by simp at e; subst e; exact ⟨_, rfl, h⟩
  | _, _, i + 1, _, .cons _ r, e => by
    obtain ⟨v, h1, h2⟩ := Reps.get (i := i) r (by simpa using e)
    exact ⟨v, by simpa using h1, h2⟩
theorem Reps.getV {G : Hp} : ∀ {vs : List V} {ds : List D} {i : Nat} {v : V}, Reps G vs ds → vs[i]? = some v → ∃ d, ds[i]? = some d ∧ Rep G v d
  | _, _, _, _, .nil, e => by simp at e
  | _, _, 0, _, .cons h _, e => by simp at e; subst e; exact ⟨_, rfl, h⟩
  | _, _, i + 1, _, .cons _ r, e => by
    obtain ⟨v, h1, h2⟩ := Reps.getV (i := i) r (by simpa using e)
    exact ⟨v, by simpa using h1, h2⟩
theorem Reps.append {G : Hp} : ∀ {vs ws : List V} {ds es : List D}, Reps G vs ds → Reps G ws es → Reps G (vs ++ ws) (ds ++ es)
  | _, _, _, _, .nil, s => s
  | _, _, _, _, .cons h r, s => .cons h (Reps.append r s)
theorem Reps.take {G : Hp} : ∀ {vs : List V} {ds : List D} (n : Nat), Reps G vs ds → Reps G (vs.take n) (ds.take n)
  | _, _, 0, _ => by rw [List.take_zero, List.take_zero]; exact .nil
  | _, _, _ + 1, .nil => .nil
  | _, _, n + 1, .cons h r => .cons h (Reps.take n r)
theorem Reps.drop {G : Hp} : ∀ {vs : List V} {ds : List D} (n : Nat), Reps G vs ds → Reps G (vs.drop n) (ds.drop n)
  | _, _, 0, r => r
  | _, _, _ + 1, .nil => .nil
  | _, _, n + 1, .cons _ r => Reps.drop n r
theorem Reps.set {G : Hp} {v : V} {d : D} (h : Rep G v d) : ∀ {vs : List V} {ds : List D} (n : Nat), Reps G vs ds → Reps G (vs.set n v) (ds.set n d)
  | _, _, _, .nil => .nil
  | _, _, 0, .cons _ r => .cons h r
  | _, _, n + 1, .cons h' r => .cons h' (Reps.set h n r)
theorem Reps.ints {G : Hp} : ∀ (ns : List Int), Reps G (ns.map V.int) (ns.map D.int)
  | [] => .nil
  | n :: ns => .cons (.int n) (Reps.ints ns)
theorem Reps.of_ints {G : Hp} : ∀ {vs : List V} {ns : List Int}, Reps G vs (ns.map D.int) → vs = ns.map V.int
  | _, [], r => by cases r; rfl
  | _, n :: ns, r => by
    cases r with
    | cons h r => cases h; rw [Reps.of_ints r]; rfl
theorem Reps.of_bls {G : Hp} : ∀ {vs : List V} {ns : List Bool}, Reps G vs (ns.map D.bl) → vs = ns.map V.bl
  | _, [], r => by cases r; rfl
  | _, n :: ns, r => by
    cases r with
    | cons h r => cases h; rw [Reps.of_bls r]; rfl
theorem Reps.of_strs {G : Hp} : ∀ {vs : List V} {ns : List Str}, Reps G vs (ns.map D.str) → vs = ns.map V.str
  | _, [], r => by cases r; rfl
  | _, n :: ns, r => by
    cases r with
    | cons h r => cases h; rw [Reps.of_strs r]; rfl

/-! ### states -/
abbrev Tbs := List (Addr × Str)
/-- what may happen between two states: what stood stands, the fixed part grows by new objects -/
structure Ext (T : Tbs) (G H G' H' : Hp) : Prop where
  hk : ∀ a o, H a = some o → (∀ ps, o ≠ .tbl ps) → H' a = some o
  dn : ∀ a, H' a = none → H a = none
  gs : Sub G G'
  gh : Sub G' H'
  gt : ∀ a ps, G' a ≠ some (.tbl ps)
  gn : ∀ a o, G' a = some o → G a = none → H a = none
  tb : LamX.Tabs T H → LamX.Tabs T H'
structure Wf (G H : Hp) : Prop where
  gh : Sub G H
  gt : ∀ a ps, G a ≠ some (.tbl ps)
theorem Ext.wf {T : Tbs} {G H G' H' : Hp} (e : Ext T G H G' H') : Wf G' H' := ⟨e.gh, e.gt⟩
theorem Ext.refl {T : Tbs} {G H : Hp} (w : Wf G H) : Ext T G H G H :=
  ⟨fun _ _ h _ => h, fun _ h => h, .refl _, w.gh, w.gt, fun a o h n => (by rw [n] at h; cases h), fun t => t⟩
theorem Ext.trans {T : Tbs} {G H G1 H1 G2 H2 : Hp} (a : Ext T G H G1 H1) (b : Ext T G1 H1 G2 H2) : Ext T G H G2 H2 where
  hk := fun c o h n => b.hk c o (a.hk c o h n) n
  dn := fun c h => a.dn c (b.dn c h)
  gs := a.gs.trans b.gs
  gh := b.gh
  gt := b.gt
  gn := fun c o h n => by
    cases q : G1 c with
    | none => exact a.dn c (b.gn c o h q)
    | some u => exact a.gn c u q n
  tb := fun t => b.tb (a.tb t)
/-- a new object, not in the fixed part -/
theorem upd_new {T : Tbs} {G H : Hp} {p : Addr} {o : HO} (w : Wf G H) (hp : H p = none) (ho : ∀ ps, o ≠ .tbl ps) : Ext T G H G (upd H p o) where
  hk := fun c u h _ => by rw [upd_ne (ne_of_none h hp)]; exact h
  dn := fun c h => by
    by_cases e : c = p
    · rw [e]; exact hp
    · rw [upd_ne e] at h; exact h
  gs := .refl _
  gh := fun c u h => by have := w.gh c u h; rw [upd_ne (ne_of_none this hp)]; exact this
  gt := w.gt
  gn := fun c u h n => by rw [n] at h; cases h
  tb := fun t => t.ext fun c u h => by rw [upd_ne (ne_of_none h hp)]; exact h
/-- .. and in it -/
theorem upd_newG {T : Tbs} {G H : Hp} {p : Addr} {o : HO} (w : Wf G H) (hp : H p = none) (ho : ∀ ps, o ≠ .tbl ps) : Ext T G H (upd G p o) (upd H p o) where
  hk := fun c u h _ => by rw [upd_ne (ne_of_none h hp)]; exact h
  dn := fun c h => by
    by_cases e : c = p
    · rw [e]; exact hp
    · rw [upd_ne e] at h; exact h
  gs := fun c u h => by have := w.gh c u h; rw [upd_ne (ne_of_none this hp)]; exact h
  gh := fun c u h => by
    by_cases e : c = p
    · subst e; rw [upd_same] at h ⊢; exact h
    · rw [upd_ne e] at h ⊢; exact w.gh c u h
  gt := fun c ps h => by
    by_cases e : c = p
    · subst e; rw [upd_same] at h; cases h; exact ho _ rfl
    · rw [upd_ne e] at h; exact w.gt c ps h
  gn := fun c u h n => by
    by_cases e : c = p
    · rw [e]; exact hp
    · rw [upd_ne e, n] at h; cases h
  tb := fun t => t.ext fun c u h => by rw [upd_ne (ne_of_none h hp)]; exact h
/-- an object that was new since G H is taken into the fixed part -/
theorem Ext.freeze {T : Tbs} {G H G' H' : Hp} {p : Addr} {o : HO} (e : Ext T G H G' H') (hp : H p = none) (h' : H' p = some o) (ho : ∀ ps, o ≠ .tbl ps) : Ext T G H (upd G' p o) H' where
  hk := e.hk
  dn := e.dn
  gs := fun c u h => by
    by_cases q : c = p
    · subst q
      have h2 := e.gh c u (e.gs c u h)
      rw [h'] at h2; cases h2; exact upd_same
    · rw [upd_ne q]; exact e.gs c u h
  gh := fun c u h => by
    by_cases q : c = p
    · subst q; rw [upd_same] at h; cases h; exact h'
    · rw [upd_ne q] at h; exact e.gh c u h
  gt := fun c ps h => by
    by_cases q : c = p
    · subst q; rw [upd_same] at h; cases h; exact ho _ rfl
    · rw [upd_ne q] at h; exact e.gt c ps h
  gn := fun c u h n => by
    by_cases q : c = p
    · rw [q]; exact hp
    · rw [upd_ne q] at h; exact e.gn c u h n
  tb := e.tb
theorem Sub.upd_new {G : Hp} {p : Addr} {o : HO} (hp : G p = none) : Sub G (upd G p o) := fun c u h => by rw [upd_ne (ne_of_none h hp)]; exact h

/-- an exception: its class, its own dict -/
structure Exc where
  cls : Addr
  fs : List (Str × D)
/-- what is fixed in a def's body: tables, the state at the entry, the wish about exceptions, whether lists that are returned are new -/
structure Fx where
  T : Tbs
  G0 : Hp
  H0 : Hp
  E : XK
  EX : Exc → Prop
  fr : Bool

/-- what a slot holds: a shared datum, a list of the caller's, a list of one's own -/
inductive SV where
  | sh (d : D) | bo (ds : List D) | ow (ds : List D)
abbrev DEnv := List (Option SV)
def SlotOk (F : Fx) (G H : Hp) (v : V) : SV → Prop
  | .sh d => Rep G v d
  | .bo ds => ∃ a vs, v = .ref a ∧ F.H0 a = some (.lst vs) ∧ Reps G vs ds
  | .ow ds => ∃ a vs, v = .ref a ∧ H a = some (.lst vs) ∧ G a = none ∧ F.H0 a = none ∧ Reps G vs ds
structure SRep (F : Fx) (G H : Hp) (σ : St) (δ : DEnv) : Prop where
  len : σ.length = δ.length
  ext : Ext F.T F.G0 F.H0 G H
  slot : ∀ (i : Nat) (s : SV), δ[i]? = some (some s) → ∃ v, σ[i]? = some (some v) ∧ SlotOk F G H v s
  sep : ∀ (i j : Nat) (ds es : List D), i ≠ j → δ[i]? = some (some (.ow ds)) → δ[j]? = some (some (.ow es)) → σ[i]? ≠ σ[j]?
  tabs : LamX.Tabs F.T H
theorem SRep.wf {F : Fx} {G H : Hp} {σ : St} {δ : DEnv} (s : SRep F G H σ δ) : Wf G H := s.ext.wf
theorem SlotOk.ext {F : Fx} {G H G' H' : Hp} {v : V} {s : SV} (h : SlotOk F G H v s) (e : Ext F.T G H G' H') : SlotOk F G' H' v s := by
  cases s with
  | sh d => exact Rep.mono e.gs h
  | bo ds => obtain ⟨a, vs, r, h1, h2⟩ := h; exact ⟨a, vs, r, h1, Reps.mono e.gs h2⟩
  | ow ds =>
    obtain ⟨a, vs, r, h1, h2, h3, h4⟩ := h
    refine ⟨a, vs, r, e.hk _ _ h1 (fun ps q => nomatch q), ?_, h3, Reps.mono e.gs h4⟩
    cases q : G' a with
    | none => rfl
    | some u => have := e.gn a u q h2; rw [h1] at this; cases this
theorem SRep.to {F : Fx} {G H G' H' : Hp} {σ : St} {δ : DEnv} (s : SRep F G H σ δ) (e : Ext F.T G H G' H') : SRep F G' H' σ δ :=
  ⟨s.len, s.ext.trans e, fun i sv h => let ⟨v, h1, h2⟩ := s.slot i sv h; ⟨v, h1, h2.ext e⟩, s.sep, e.tb s.tabs⟩

/-- how a result lies: g: in the fixed part; t: a list perhaps outside of it; s: there for good; f: a list is new -/
inductive Md where
  | g | s | t | f
  deriving DecidableEq
def RV (F : Fx) : Md → Hp → Hp → Hp → V → D → Prop
  | .g, _, G, _, v, d => Rep G v d
  | .s, _, G, H, v, .lst ds => ∃ a vs, v = .ref a ∧ H a = some (.lst vs) ∧ (G a = some (.lst vs) ∨ F.H0 a = some (.lst vs)) ∧ Reps G vs ds
  | .t, _, G, H, v, .lst ds => ∃ a vs, v = .ref a ∧ H a = some (.lst vs) ∧ Reps G vs ds
  | .f, H0, G, H, v, .lst ds => ∃ a vs, v = .ref a ∧ H a = some (.lst vs) ∧ H0 a = none ∧ G a = none ∧ Reps G vs ds
  | _, _, G, _, v, d => Rep G v d
theorem rv_sh {F : Fx} {m : Md} {H0 G H : Hp} {v : V} {d : D} (w : Wf G H) (hm : m ≠ .f) (r : Rep G v d) : RV F m H0 G H v d := by
  cases m with
  | g => exact r
  | f => exact absurd rfl hm
  | s => cases d with
    | lst ds => cases r with
      | lst h h2 => exact ⟨_, _, rfl, w.gh _ _ h, .inl h, h2⟩
    | _ => exact r
  | t => cases d with
    | lst ds => cases r with
      | lst h h2 => exact ⟨_, _, rfl, w.gh _ _ h, h2⟩
    | _ => exact r
/-- a result that is no list -/
def NoL : D → Prop
  | .lst _ => False
  | _ => True
theorem rv_any {F : Fx} {m : Md} {H0 G H : Hp} {v : V} {d : D} (n : NoL d) (r : Rep G v d) : RV F m H0 G H v d := by
  cases m <;> cases d <;> first | exact r | exact n.elim
theorem RV.rep {F : Fx} {m : Md} {H0 G H : Hp} {v : V} {d : D} (r : RV F m H0 G H v d) (n : NoL d) : Rep G v d := by
  cases m <;> cases d <;> first | exact r | exact n.elim
/-- any result can be read -/
theorem RV.t {F : Fx} {m : Md} {H0 G H : Hp} {v : V} {d : D} (w : Wf G H) (r : RV F m H0 G H v d) : RV F .t H0 G H v d := by
  cases d with
  | lst ds => cases m with
    | g => exact rv_sh w (by decide) r
    | s => obtain ⟨a, vs, h1, h2, _, h3⟩ := r; exact ⟨a, vs, h1, h2, h3⟩
    | t => exact r
    | f => obtain ⟨a, vs, h1, h2, _, _, h3⟩ := r; exact ⟨a, vs, h1, h2, h3⟩
  | _ => exact rv_any trivial (r.rep trivial)
theorem RV.tmono {F : Fx} {Hs Hs' G H G' H' : Hp} {v : V} {d : D} (r : RV F .t Hs G H v d) (e : Ext F.T G H G' H') : RV F .t Hs' G' H' v d := by
  cases d with
  | lst ds => obtain ⟨a, vs, h1, h2, h3⟩ := r; exact ⟨a, vs, h1, e.hk _ _ h2 (fun ps q => nomatch q), h3.mono e.gs⟩
  | _ => exact rv_any trivial ((r.rep trivial).mono e.gs)

abbrev DE := DEnv → (D → Prop) → Prop
def Sim (F : Fx) (m : Md) (t : TE) (ev : DE) : Prop := ∀ (σ : St) (H G : Hp) (δ : DEnv) (Q : D → Prop) (Q' : VK), SRep F G H σ δ → ev δ Q →
  (∀ v G' H' d, Ext F.T G H G' H' → RV F m H G' H' v d → Q d → Q' v H') → t σ H Q'
structure FE (X : Cx) (F : Fx) (m : Md) (e : Expr) (t : TE) (ev : DE) : Prop where
  pe : PE X e t
  sim : Sim F m t ev
/-- a new list goes into the fixed part -/
theorem Sim.fg {F : Fx} {t : TE} {ev : DE} (h : Sim F .f t ev) : Sim F .g t ev := fun σ H G δ Q Q' s e k => by
  refine h σ H G δ Q Q' s e fun v G' H' d x r q => ?_
  cases d with
  | lst ds =>
    obtain ⟨a, vs, rfl, h1, h2, h3, h4⟩ := r
    exact k _ _ _ _ (x.freeze h2 h1 (fun ps q => nomatch q)) (.lst upd_same (h4.mono (.upd_new h3))) q
  | _ => exact k _ _ _ _ x (r.rep trivial) q
theorem Sim.gs {F : Fx} {t : TE} {ev : DE} (h : Sim F .g t ev) : Sim F .s t ev := fun σ H G δ Q Q' s e k =>
  h σ H G δ Q Q' s e fun v G' H' d x r q => k _ _ _ _ x (rv_sh x.wf (by decide) r) q
theorem Sim.toT {F : Fx} {m : Md} {t : TE} {ev : DE} (h : Sim F m t ev) : Sim F .t t ev := fun σ H G δ Q Q' s e k =>
  h σ H G δ Q Q' s e fun v G' H' d x r q => k _ _ _ _ x (r.t x.wf) q
section
variable {X : Cx} {F : Fx} {e : Expr} {t : TE} {ev : DE}
theorem FE.fg (h : FE X F .f e t ev) : FE X F .g e t ev := ⟨h.pe, h.sim.fg⟩
theorem FE.gs (h : FE X F .g e t ev) : FE X F .s e t ev := ⟨h.pe, h.sim.gs⟩
theorem FE.fs (h : FE X F .f e t ev) : FE X F .s e t ev := ⟨h.pe, h.sim.fg.gs⟩
theorem FE.tt {m : Md} (h : FE X F m e t ev) : FE X F .t e t ev := ⟨h.pe, h.sim.toT⟩
/-- a scalar can be had in any mode: one that never makes lists -/
def Scal (ev : DE) : Prop := ∀ δ Q, ev δ Q → ev δ fun d => NoL d ∧ Q d
theorem Sim.any {F : Fx} {m m' : Md} {t : TE} {ev : DE} (h : Sim F m t ev) (sc : Scal ev) : Sim F m' t ev := fun σ H G δ Q Q' s e k =>
  h σ H G δ (fun d => NoL d ∧ Q d) Q' s (sc δ Q e) fun v G' H' d x r q => k _ _ _ _ x (rv_any q.1 (r.rep q.1)) q.2
end

/-! ### data taken apart, by computing -/
def asI (x : D) (k : Int → Prop) : Prop := match x with | .int i => k i | _ => False
theorem asI.out {x : D} {k : Int → Prop} (h : asI x k) : ∃ i, x = .int i ∧ k i := by cases x <;> first | exact ⟨_, rfl, h⟩ | exact h.elim
def asB (x : D) (k : Bool → Prop) : Prop := match x with | .bl i => k i | _ => False
theorem asB.out {x : D} {k : Bool → Prop} (h : asB x k) : ∃ i, x = .bl i ∧ k i := by cases x <;> first | exact ⟨_, rfl, h⟩ | exact h.elim
def asN (x : D) (k : Prop) : Prop := match x with | .non => k | _ => False
theorem asN.out {x : D} {k : Prop} (h : asN x k) : x = .non ∧ k := by cases x <;> first | exact ⟨rfl, h⟩ | exact h.elim
/-- a list or a tuple -/
def asL (x : D) (k : List D → Prop) : Prop := match x with | .lst xs => k xs | .tup xs => k xs | _ => False
theorem asL.out {x : D} {k : List D → Prop} (h : asL x k) : ∃ xs, (x = .lst xs ∨ x = .tup xs) ∧ k xs := by cases x <;> first | exact ⟨_, .inl rfl, h⟩ | exact ⟨_, .inr rfl, h⟩ | exact h.elim
def asLst (x : D) (k : List D → Prop) : Prop := match x with | .lst xs => k xs | _ => False
theorem asLst.out {x : D} {k : List D → Prop} (h : asLst x k) : ∃ xs, x = .lst xs ∧ k xs := by cases x <;> first | exact ⟨_, rfl, h⟩ | exact h.elim
def asTup (x : D) (k : List D → Prop) : Prop := match x with | .tup xs => k xs | _ => False
theorem asTup.out {x : D} {k : List D → Prop} (h : asTup x k) : ∃ xs, x = .tup xs ∧ k xs := by cases x <;> first | exact ⟨_, rfl, h⟩ | exact h.elim
def as1 (ds : List D) (k : D → Prop) : Prop := match ds with | [x] => k x | _ => False
theorem as1.out {ds : List D} {k : D → Prop} (h : as1 ds k) : ∃ x, ds = [x] ∧ k x := match ds, h with
  | [_], h => ⟨_, rfl, h⟩
  | [], h => h.elim
  | _ :: _ :: _, h => h.elim
def as2 (ds : List D) (k : D → D → Prop) : Prop := match ds with | [x, y] => k x y | _ => False
theorem as2.out {ds : List D} {k : D → D → Prop} (h : as2 ds k) : ∃ x y, ds = [x, y] ∧ k x y := match ds, h with
  | [_, _], h => ⟨_, _, rfl, h⟩
  | [], h => h.elim
  | [_], h => h.elim
  | _ :: _ :: _ :: _, h => h.elim
def as3 (ds : List D) (k : D → D → D → Prop) : Prop := match ds with | [x, y, z] => k x y z | _ => False
theorem as3.out {ds : List D} {k : D → D → D → Prop} (h : as3 ds k) : ∃ x y z, ds = [x, y, z] ∧ k x y z := match ds, h with
  | [_, _, _], h => ⟨_, _, _, rfl, h⟩
  | [], h => h.elim
  | [_], h => h.elim
  | [_, _], h => h.elim
  | _ :: _ :: _ :: _ :: _, h => h.elim
def asO {α : Type} (o : Option α) (k : α → Prop) : Prop := match o with | some x => k x | none => False
theorem asO.out {α : Type} {o : Option α} {k : α → Prop} (h : asO o k) : ∃ x, o = some x ∧ k x := by cases o <;> first | exact ⟨_, rfl, h⟩ | exact h.elim
theorem asO.mk {α : Type} {o : Option α} {k : α → Prop} {x : α} (e : o = some x) (h : k x) : asO o k := by subst e; exact h

/-! ### names, constants -/
section
variable {X : Cx} {F : Fx}
/-- a name in the fixed part -/
def dVar (i : Nat) : DE := fun δ Q => match δ[i]? with | some (some (.sh d)) => Q d | _ => False
theorem dVar.out {i : Nat} {δ : DEnv} {Q : D → Prop} (h : dVar i δ Q) : ∃ d, δ[i]? = some (some (.sh d)) ∧ Q d := by
  unfold dVar at h
  split at h
  · exact ⟨_, by assumption, h⟩
  · exact h.elim
def dVarS (i : Nat) : DE := fun δ Q => match δ[i]? with | some (some (.sh d)) => Q d | some (some (.bo ds)) => Q (.lst ds) | _ => False
theorem dVarS.out {i : Nat} {δ : DEnv} {Q : D → Prop} (h : dVarS i δ Q) : (∃ d, δ[i]? = some (some (.sh d)) ∧ Q d) ∨ (∃ ds, δ[i]? = some (some (.bo ds)) ∧ Q (.lst ds)) := by
  unfold dVarS at h
  split at h
  · exact .inl ⟨_, by assumption, h⟩
  · exact .inr ⟨_, by assumption, h⟩
  · exact h.elim
def dVarT (i : Nat) : DE := fun δ Q => match δ[i]? with | some (some (.sh d)) => Q d | some (some (.bo ds)) => Q (.lst ds) | some (some (.ow ds)) => Q (.lst ds) | _ => False
theorem dVarT.out {i : Nat} {δ : DEnv} {Q : D → Prop} (h : dVarT i δ Q) : (∃ d, δ[i]? = some (some (.sh d)) ∧ Q d) ∨ (∃ ds, δ[i]? = some (some (.bo ds)) ∧ Q (.lst ds)) ∨ (∃ ds, δ[i]? = some (some (.ow ds)) ∧ Q (.lst ds)) := by
  unfold dVarT at h
  split at h
  · exact .inl ⟨_, by assumption, h⟩
  · exact .inr (.inl ⟨_, by assumption, h⟩)
  · exact .inr (.inr ⟨_, by assumption, h⟩)
  · exact h.elim
theorem sim_var (i : Nat) : Sim F .g (tVar i) (dVar i) := fun σ H G δ Q Q' s e k => by
  have zz := e.out; clear e; obtain ⟨d, h, q⟩ := zz
  obtain ⟨v, h1, h2⟩ := s.slot i _ h
  exact ⟨v, h1, k v G H d (.refl s.wf) h2 q⟩
theorem sim_varS (i : Nat) : Sim F .s (tVar i) (dVarS i) := fun σ H G δ Q Q' s e k => by
  rcases e.out with ⟨d, h, q⟩ | ⟨ds, h, q⟩
  · obtain ⟨v, h1, h2⟩ := s.slot i _ h
    exact ⟨v, h1, k v G H d (.refl s.wf) (rv_sh s.wf (by decide) h2) q⟩
  · obtain ⟨v, h1, a, vs, rfl, h3, h4⟩ := s.slot i _ h
    exact ⟨_, h1, k _ G H (.lst ds) (.refl s.wf) ⟨a, vs, rfl, s.ext.hk _ _ h3 (fun ps q => nomatch q), .inr h3, h4⟩ q⟩
theorem sim_varT (i : Nat) : Sim F .t (tVar i) (dVarT i) := fun σ H G δ Q Q' s e k => by
  rcases e.out with ⟨d, h, q⟩ | ⟨ds, h, q⟩ | ⟨ds, h, q⟩
  · obtain ⟨v, h1, h2⟩ := s.slot i _ h
    exact ⟨v, h1, k v G H d (.refl s.wf) (rv_sh s.wf (by decide) h2) q⟩
  · obtain ⟨v, h1, a, vs, rfl, h3, h4⟩ := s.slot i _ h
    exact ⟨_, h1, k _ G H (.lst ds) (.refl s.wf) ⟨a, vs, rfl, s.ext.hk _ _ h3 (fun ps q => nomatch q), h4⟩ q⟩
  · obtain ⟨v, h1, a, vs, rfl, h3, _, _, h4⟩ := s.slot i _ h
    exact ⟨_, h1, k _ G H (.lst ds) (.refl s.wf) ⟨a, vs, rfl, h3, h4⟩ q⟩
theorem vG (i : Nat) {x : Str} {pos : Pos} (hN : X.N[i]? = some x := by rfl) (hv : Vis X.env.scope x := by first | exact Or.inl rfl | exact Or.inr (Or.inl rfl) | exact Or.inr (Or.inr rfl)) (hd : (x == ("__debug__" : Str)) = false := by decide)
    (hcd : (x == ("__classdict__" : Str)) = false := by decide) : FE X F .g (.Name x pos) (tVar i) (dVar i) := ⟨pe_var hN hv hd hcd, sim_var i⟩
theorem vS (i : Nat) {x : Str} {pos : Pos} (hN : X.N[i]? = some x := by rfl) (hv : Vis X.env.scope x := by first | exact Or.inl rfl | exact Or.inr (Or.inl rfl) | exact Or.inr (Or.inr rfl)) (hd : (x == ("__debug__" : Str)) = false := by decide)
    (hcd : (x == ("__classdict__" : Str)) = false := by decide) : FE X F .s (.Name x pos) (tVar i) (dVarS i) := ⟨pe_var hN hv hd hcd, sim_varS i⟩
theorem vT (i : Nat) {x : Str} {pos : Pos} (hN : X.N[i]? = some x := by rfl) (hv : Vis X.env.scope x := by first | exact Or.inl rfl | exact Or.inr (Or.inl rfl) | exact Or.inr (Or.inr rfl)) (hd : (x == ("__debug__" : Str)) = false := by decide)
    (hcd : (x == ("__classdict__" : Str)) = false := by decide) : FE X F .t (.Name x pos) (tVar i) (dVarT i) := ⟨pe_var hN hv hd hcd, sim_varT i⟩
def dC (d : D) : DE := fun _ Q => Q d
theorem sim_c {m : Md} {v : V} {d : D} (h : ∀ G, Rep G v d) (n : NoL d) : Sim F m (tC v) (dC d) := fun σ H G δ Q Q' s e k => k v G H d (.refl s.wf) (rv_any n (h G)) e
theorem fe_int {m : Md} {i : Int} {j pos} : FE X F m (.Constant (.int i) j pos) (tC (.int i)) (dC (.int i)) := ⟨pe_int, sim_c (fun _ => .int i) trivial⟩
theorem fe_bl {m : Md} {b : Bool} {j pos} : FE X F m (.Constant (.bool b) j pos) (tC (.bl b)) (dC (.bl b)) := ⟨pe_bl, sim_c (fun _ => .bl b) trivial⟩
theorem fe_non {m : Md} {j pos} : FE X F m (.Constant .none j pos) (tC .non) (dC .non) := ⟨pe_non, sim_c (fun _ => .non) trivial⟩
theorem fe_str {m : Md} {x : Str} {j pos} : FE X F m (.Constant (.str x) j pos) (tC (.str x)) (dC (.str x)) := ⟨pe_str, sim_c (fun _ => .str x) trivial⟩
end
end DW

namespace DW
open PySem L2

theorem Wf.none {G H : Hp} (w : Wf G H) {p : Addr} (hp : H p = none) : G p = none := by
  cases q : G p with
  | none => rfl
  | some u => have := w.gh p u q; rw [hp] at this; cases this
/-- a datum that can be read where it lies -/
def RT (G H : Hp) (v : V) : D → Prop
  | .lst ds => ∃ a vs, v = .ref a ∧ H a = some (.lst vs) ∧ Reps G vs ds
  | d => Rep G v d
theorem RV.rt {F : Fx} {H0 G H : Hp} {v : V} {d : D} (r : RV F .t H0 G H v d) : RT G H v d := by
  cases d <;> exact r
theorem RT.rv {F : Fx} {H0 G H : Hp} {v : V} {d : D} (r : RT G H v d) : RV F .t H0 G H v d := by
  cases d <;> exact r
theorem RT.of {G H : Hp} {v : V} {d : D} (w : Wf G H) (r : Rep G v d) : RT G H v d := (rv_sh (F := ⟨[], G, H, fun _ _ _ => False, fun _ => False, false⟩) (H0 := H) (m := .t) w (by decide) r).rt
theorem RT.rep {G H : Hp} {v : V} {d : D} (r : RT G H v d) (n : NoL d) : Rep G v d := by
  cases d <;> first | exact r | exact n.elim
theorem RT.ext {T : Tbs} {G H G' H' : Hp} {v : V} {d : D} (r : RT G H v d) (e : Ext T G H G' H') : RT G' H' v d := by
  cases d with
  | lst ds => obtain ⟨a, vs, h1, h2, h3⟩ := r; exact ⟨a, vs, h1, e.hk _ _ h2 (fun ps q => nomatch q), h3.mono e.gs⟩
  | _ => exact Rep.mono e.gs r
def RTs (G H : Hp) : List V → List D → Prop
  | [], [] => True
  | v :: vs, d :: ds => RT G H v d ∧ RTs G H vs ds
  | _, _ => False
theorem RTs.length {G H : Hp} : ∀ {vs : List V} {ds : List D}, RTs G H vs ds → vs.length = ds.length
  | [], [], _ => rfl
  | _ :: _, _ :: _, h => by rw [List.length_cons, List.length_cons, RTs.length h.2]
  | [], _ :: _, h => h.elim
  | _ :: _, [], h => h.elim
theorem RTs.of {G H : Hp} (w : Wf G H) : ∀ {vs : List V} {ds : List D}, Reps G vs ds → RTs G H vs ds
  | _, _, .nil => trivial
  | _, _, .cons h r => ⟨.of w h, RTs.of w r⟩
theorem RTs.append {G H : Hp} : ∀ {vs ws : List V} {ds es : List D}, RTs G H vs ds → RTs G H ws es → RTs G H (vs ++ ws) (ds ++ es)
  | [], _, [], _, _, s => s
  | _ :: _, _, _ :: _, _, h, s => ⟨h.1, RTs.append h.2 s⟩
  | [], _, _ :: _, _, h, _ => h.elim
  | _ :: _, _, [], _, h, _ => h.elim

/-! ### two-place operations -/
/-- of data, what comes back in the mode m -/
def SimR (F : Fx) (m : Md) (r : R2) (ev : D → D → (D → Prop) → Prop) : Prop := ∀ (x y : V) (dx dy : D) (G H : Hp) (Q : D → Prop) (Q' : VK), Wf G H → RT G H x dx → RT G H y dy → ev dx dy Q →
  (∀ v G' H' d, Ext F.T G H G' H' → RV F m H G' H' v d → Q d → Q' v H') → r x y H Q'
structure DOp (X : Cx) (F : Fx) (m : Md) (f : Value → Value → Sem Value) (r : R2) (ev : D → D → (D → Prop) → Prop) : Prop where
  op : OpR X f r
  sim : SimR F m r ev
section
variable {X : Cx} {F : Fx} {a b c : Expr} {ta tb tc : TE} {ea eb ec : DE} {pos : Pos} {m : Md}
def dBin (ev : D → D → (D → Prop) → Prop) (ea eb : DE) : DE := fun δ Q => ea δ fun x => eb δ fun y => ev x y Q
theorem sim_bin {r : R2} {ev : D → D → (D → Prop) → Prop} (hr : SimR F m r ev) (ha : Sim F .t ta ea) (hb : Sim F .t tb eb) : Sim F m (tOp r ta tb) (dBin ev ea eb) := fun σ H G δ Q Q' s e k => by
  refine ha σ H G δ _ _ s e fun x G1 H1 dx e1 r1 q1 => ?_
  refine hb σ H1 G1 δ _ _ (s.to e1) q1 fun y G2 H2 dy e2 r2 q2 => ?_
  refine hr x y dx dy G2 H2 Q Q' e2.wf (r1.rt.ext e2) r2.rt q2 fun v G3 H3 d e3 r3 q3 => ?_
  refine k v G3 H3 d ((e1.trans e2).trans e3) ?_ q3
  cases m with
  | f => cases d with
    | lst ds =>
      obtain ⟨p, vs, h1, h2, h3, h4, h5⟩ := r3
      exact ⟨p, vs, h1, h2, (e1.trans e2).dn _ h3, h4, h5⟩
    | _ => exact r3
  | s => cases d <;> exact r3
  | t => cases d <;> exact r3
  | g => exact r3
theorem fe_bin {op : Operator} {r : R2} {ev : D → D → (D → Prop) → Prop} (ho : DOp X F m (binaryOp op) r ev) (ha : FE X F .t a ta ea) (hb : FE X F .t b tb eb) : FE X F m (.BinOp a op b pos) (tOp r ta tb) (dBin ev ea eb) :=
  ⟨pe_op ho.op ha.pe hb.pe, sim_bin ho.sim ha.sim hb.sim⟩
theorem fe_cmp {op : CmpOp} {r : R2} {ev : D → D → (D → Prop) → Prop} (ho : DOp X F m (compareOp op) r ev) (ha : FE X F .t a ta ea) (hb : FE X F .t b tb eb) (hm : behindInMarks op b = false := by first | exact nomark _ | with_unfolding_all rfl) :
    FE X F m (.Compare a [op] [b] pos) (tOp r ta tb) (dBin ev ea eb) := ⟨pe_cmpR ho.op ha.pe hb.pe hm, sim_bin ho.sim ha.sim hb.sim⟩
/-- a < b < c -/
def dChain (ev ev' : D → D → (D → Prop) → Prop) (ea eb ec : DE) : DE := fun δ Q => ea δ fun x => eb δ fun y => ev x y fun z => asB z fun k => if k = true then ec δ fun w => ev' y w fun u => NoL u ∧ Q u else Q (.bl false)
theorem sim_chain {m m1 m2 : Md} {r r' : R2} {ev ev' : D → D → (D → Prop) → Prop} (hr : SimR F m1 r ev) (hr' : SimR F m2 r' ev') (ha : Sim F .t ta ea) (hb : Sim F .t tb eb) (hc : Sim F .t tc ec) : Sim F m (tChain r r' ta tb tc) (dChain ev ev' ea eb ec) := fun σ H G δ Q Q' s e k => by
  refine ha σ H G δ _ _ s e fun x G1 H1 dx e1 r1 q1 => ?_
  refine hb σ H1 G1 δ _ _ (s.to e1) q1 fun y G2 H2 dy e2 r2 q2 => ?_
  refine hr x y dx dy G2 H2 _ _ e2.wf (r1.rt.ext e2) r2.rt q2 fun v G3 H3 d e3 r3 q3 => ?_
  have zz := q3.out; clear q3; obtain ⟨kk, rfl, q3⟩ := zz
  have r4 : Rep G3 v (.bl kk) := r3.rep trivial
  cases r4
  refine ⟨kk, rfl, ?_⟩
  have e13 := (e1.trans e2).trans e3
  cases kk with
  | false => rw [if_neg Bool.false_ne_true] at q3 ⊢; exact k _ _ _ (.bl false) e13 (rv_any trivial (.bl false)) q3
  | true =>
    rw [if_pos rfl] at q3 ⊢
    refine hc σ H3 G3 δ _ _ (s.to e13) q3 fun w G4 H4 dw e4 r4 q4 => ?_
    refine hr' y w dy dw G4 H4 _ _ e4.wf ((r2.rt.ext e3).ext e4) r4.rt q4 fun v5 G5 H5 d5 e5 r5 q5 => ?_
    exact k _ _ _ _ ((e13.trans e4).trans e5) (rv_any q5.1 (r5.rep q5.1)) q5.2
theorem fe_chain {m1 m2 : Md} {op op' : CmpOp} {r r' : R2} {ev ev' : D → D → (D → Prop) → Prop} (ho : DOp X F m1 (compareOp op) r ev) (ho' : DOp X F m2 (compareOp op') r' ev') (ha : FE X F .t a ta ea) (hb : FE X F .t b tb eb) (hc : FE X F .t c tc ec)
    (hm : lastMarks [op, op'] [b, c] = false := by with_unfolding_all rfl) : FE X F m (.Compare a [op, op'] [b, c] pos) (tChain r r' ta tb tc) (dChain ev ev' ea eb ec) :=
  ⟨by first | exact pe_chain ho.op ho'.op ha.pe hb.pe hc.pe | exact pe_chain ho.op ho'.op ha.pe hb.pe hc.pe hm, sim_chain ho.sim ho'.sim ha.sim hb.sim hc.sim⟩

/-! ### one-place ones -/
def dNeg (ea : DE) : DE := fun δ Q => ea δ fun x => asI x fun i => Q (.int (-i))
theorem fe_neg (ha : FE X F .t a ta ea) : FE X F m (.UnaryOp .USub a pos) (tUn (rU fun i => .int (-i)) ta) (dNeg ea) := ⟨pe_un un_neg ha.pe, fun σ H G δ Q Q' s e k => by
  refine ha.sim σ H G δ _ _ s e fun x G1 H1 dx e1 r1 q1 => ?_
  have zz := q1.out; clear q1; obtain ⟨i, rfl, q⟩ := zz
  have r2 : Rep G1 x (.int i) := r1.rep trivial
  cases r2
  exact ⟨i, rfl, k _ _ _ (.int _) e1 (rv_any trivial (.int _)) q⟩⟩

/-! ### arithmetic of data -/
def dAdd : D → D → (D → Prop) → Prop
  | .int i, .int j, Q => Q (.int (i + j))
  | .str x, .str y, Q => x.length + y.length ≤ sizeLine ∧ Q (.str (x ++ y))
  | .tup xs, .tup ys, Q => xs.length + ys.length ≤ sizeLine ∧ Q (.tup (xs ++ ys))
  | .lst xs, .lst ys, Q => xs.length + ys.length ≤ sizeLine ∧ Q (.lst (xs ++ ys))
  | _, _, _ => False
def rAddAll (K : Frag) : R2 := fun x y H Q => rI0 (fun i j => .int (i + j)) x y H Q ∨ (fun (x y : V) (H : Hp) (Q : VK) => ∃ i j, x = .str i ∧ y = .str j ∧ i.length + j.length ≤ sizeLine ∧ Q (.str (i ++ j)) H) x y H Q ∨ rCatA K x y H Q ∨ rCat x y H Q
theorem dop_add : DOp X F .f (binaryOp .Add) (rAddAll X.K) dAdd := by
  refine ⟨op_add.or (op_add_str.or (op_catA.or op_cat)), fun x y dx dy G H Q Q' w rx ry e k => ?_⟩
  cases dx <;> cases dy <;> first | exact e.elim | skip
  · cases rx.rep trivial; cases ry.rep trivial
    exact .inl ⟨_, _, rfl, rfl, k _ _ _ (.int _) (.refl w) (rv_any trivial (.int _)) e⟩
  · cases rx.rep trivial; cases ry.rep trivial
    exact .inr (.inl ⟨_, _, rfl, rfl, e.1, k _ _ _ (.str _) (.refl w) (rv_any trivial (.str _)) e.2⟩)
  · rename_i xs ys
    have rx' := rx.rep trivial
    have ry' := ry.rep trivial
    cases rx' with
    | @tup a1 vs _ h1 h2 => cases ry' with
      | @tup a2 us _ g1 g2 =>
        refine .inr (.inr (.inl ⟨_, _, _, _, rfl, rfl, .of (w.gh _ _ h1), .of (w.gh _ _ g1), by rw [h2.length, g2.length]; exact e.1, ?_⟩))
        refine ⟨fun z => ?_, fun _ z => ?_, fun z1 z2 p hp => ?_⟩
        · subst z; cases h2; exact k _ _ _ (.tup ([] ++ ys)) (.refl w) (rv_any trivial (.tup g1 g2)) e.2
        · subst z
          cases g2
          have e2 := e.2
          rw [List.append_nil] at e2
          exact k _ _ _ (.tup xs) (.refl w) (rv_any trivial (.tup h1 h2)) e2
        · exact k _ _ _ (.tup (xs ++ ys)) (upd_newG w hp (fun ps q => nomatch q)) (rv_any trivial (.tup upd_same ((h2.append g2).mono (.upd_new (w.none hp))))) e.2
  · rename_i xs ys
    obtain ⟨a1, vs, rfl, h1, h2⟩ := rx
    obtain ⟨a2, us, rfl, g1, g2⟩ := ry
    refine .inr (.inr (.inr ⟨_, _, _, _, rfl, rfl, h1, g1, by rw [h2.length, g2.length]; exact e.1, fun p hp => ?_⟩))
    exact k _ _ _ (.lst _) (upd_new w hp (fun ps q => nomatch q)) ⟨p, _, rfl, upd_same, hp, w.none hp, h2.append g2⟩ e.2
theorem dop_addK {K : Frag} (hK : X.K = K) : DOp X F .f (binaryOp .Add) (rAddAll K) dAdd := by subst hK; exact dop_add 
end
end DW

namespace DW
open PySem L2

section
variable {X : Cx} {F : Fx} {a b c : Expr} {ta tb tc : TE} {ea eb ec : DE} {pos : Pos} {m : Md}
/-- an operation of two ints that gives an int -/
theorem dop_ii {f : Value → Value → Sem Value} {C : Int → Int → Prop} {g : Int → Int → Int} (h : OpR X f (rI C fun i j => .int (g i j))) :
    DOp X F m f (rI C fun i j => .int (g i j)) (fun x y Q => asI x fun i => asI y fun j => C i j ∧ Q (.int (g i j))) := by
  refine ⟨h, fun x y dx dy G H Q Q' w rx ry e k => ?_⟩
  have zz := e.out; clear e; obtain ⟨i, rfl, e⟩ := zz
  have zz := e.out; clear e; obtain ⟨j, rfl, hc, q⟩ := zz
  cases (show Rep G x (.int i) from rx.rep trivial); cases (show Rep G y (.int j) from ry.rep trivial)
  exact ⟨i, j, rfl, rfl, hc, k _ _ _ (.int _) (.refl w) (rv_any trivial (.int _)) q⟩
theorem dop_ii0 {f : Value → Value → Sem Value} {g : Int → Int → Int} (h : OpR X f (rI0 fun i j => .int (g i j))) :
    DOp X F m f (rI0 fun i j => .int (g i j)) (fun x y Q => asI x fun i => asI y fun j => Q (.int (g i j))) := by
  refine ⟨h, fun x y dx dy G H Q Q' w rx ry e k => ?_⟩
  have zz := e.out; clear e; obtain ⟨i, rfl, e⟩ := zz
  have zz := e.out; clear e; obtain ⟨j, rfl, q⟩ := zz
  cases (show Rep G x (.int i) from rx.rep trivial); cases (show Rep G y (.int j) from ry.rep trivial)
  exact ⟨i, j, rfl, rfl, k _ _ _ (.int _) (.refl w) (rv_any trivial (.int _)) q⟩
theorem dop_ib {f : Value → Value → Sem Value} {g : Int → Int → Bool} (h : OpR X f (rI0 fun i j => .bl (g i j))) :
    DOp X F m f (rI0 fun i j => .bl (g i j)) (fun x y Q => asI x fun i => asI y fun j => Q (.bl (g i j))) := by
  refine ⟨h, fun x y dx dy G H Q Q' w rx ry e k => ?_⟩
  have zz := e.out; clear e; obtain ⟨i, rfl, e⟩ := zz
  have zz := e.out; clear e; obtain ⟨j, rfl, q⟩ := zz
  cases (show Rep G x (.int i) from rx.rep trivial); cases (show Rep G y (.int j) from ry.rep trivial)
  exact ⟨i, j, rfl, rfl, k _ _ _ (.bl _) (.refl w) (rv_any trivial (.bl _)) q⟩
def dSub : D → D → (D → Prop) → Prop := fun x y Q => asI x fun i => asI y fun j => Q (.int (i - j))
theorem dop_sub : DOp X F m (binaryOp .Sub) (rI0 fun i j => .int (i - j)) dSub := dop_ii0 op_sub
theorem op_mulA : OpR X (binaryOp .Mult) (rI IntMulOk fun i j => .int (i * j)) := opI fun _ _ _ _ _ _ _ hc q => PyProof.Rows.mul_int q hc
/-- // by a divisor below 2 ^ 9000 of either sign -/
def DivOk (_ j : Int) : Prop := j ≠ 0 ∧ j.natAbs.log2 < 9000
theorem op_fdivA : OpR X (binaryOp .FloorDiv) (rI DivOk fun i j => .int (i.fdiv j)) := opI fun i j _ _ _ _ _ hc q => PyProof.Rows.floordiv_int hc.1 q (.inl (PyProof.noPylong_of_log2 hc.2))
def dDiv : D → D → (D → Prop) → Prop := fun x y Q => asI x fun i => asI y fun j => DivOk i j ∧ Q (.int (i.fdiv j))
theorem dop_div : DOp X F m (binaryOp .FloorDiv) (rI DivOk fun i j => .int (i.fdiv j)) dDiv := dop_ii op_fdivA
def dMod : D → D → (D → Prop) → Prop := fun x y Q => asI x fun i => asI y fun j => j ≠ 0 ∧ Q (.int (i.fmod j))
theorem dop_mod : DOp X F m (binaryOp .Mod) (rI (fun _ j => j ≠ 0) fun i j => .int (i.fmod j)) dMod := dop_ii op_modN
def dPow : D → D → (D → Prop) → Prop := fun x y Q => asI x fun i => asI y fun j => CPow i j ∧ Q (.int (i ^ j.toNat))
theorem dop_pow : DOp X F m (binaryOp .Pow) (rI CPow fun i j => .int (i ^ j.toNat)) dPow := dop_ii op_pow
theorem Reps.rep {G : Hp} {vs : List V} {ds : List D} (r : Reps G vs ds) : ∀ n : Nat, Reps G (List.replicate n vs).flatten (List.replicate n ds).flatten
  | 0 => .nil
  | n + 1 => by rw [List.replicate_succ, List.replicate_succ, List.flatten_cons, List.flatten_cons]; exact r.append (Reps.rep r n)
end
end DW

namespace DW
open PySem L2 PySem.Spec PyProof.Rows

theorem tuple_mul1 (l : Addr) (items : Array Value) (n : Nat) (dd : Option Addr) (sl : Array (Option Value)) (x : Int) (u : Tok) (c0 : (decide (x < -(2 ^ 63)) || decide (x ≥ 2 ^ 63)) = false) (c1 : (items.isEmpty || x == 1) = true) :
    Meets (Builtin.«tuple.__mul__» ⟨[.ref l, .int x u], []⟩) (fun _ R s => s.heap.get? l = some { cls := .type "tuple", dict := dd, data := .seq items n, slots := sl } ∧
      R (.ok (.ret (Value.ref l))) s) :=
  .of_wp fun prog w A R s h => by
    obtain ⟨hp, g, d, tk, os⟩ := s
    obtain ⟨hl, h⟩ := h
    have f1 := AutoSeq1.idx_int
    wp_walk using wpAny_loadPart' hl
    repeat (first
      | (refine wpAny_ite_false (decide_eq_false (by rw [c0]; exact Bool.false_ne_true)) ?_; wp_walk using wpAny_loadPart' hl)
      | (refine wpAny_ite_true (decide_eq_true (by rw [c1])) ?_; wp_walk using wpAny_loadPart' hl))
    all_goals first | exact ⟨_, rfl, h⟩ | trace_state
theorem tuple_mul0 (l : Addr) (items : Array Value) (n : Nat) (dd : Option Addr) (sl : Array (Option Value)) (x : Int) (u : Tok) (c0 : (decide (x < -(2 ^ 63)) || decide (x ≥ 2 ^ 63)) = false) (c1 : (items.isEmpty || x == 1) = false) (c2 : (decide (x ≤ 0) || items.isEmpty) = true) :
    Meets (Builtin.«tuple.__mul__» ⟨[.ref l, .int x u], []⟩) (fun _ R s => s.heap.get? l = some { cls := .type "tuple", dict := dd, data := .seq items n, slots := sl } ∧
      R (.ok (.ret (Value.ref s.heap.objs.size))) { s with heap := s.heap.push { cls := Value.type "tuple", data := Data.seq #[] }, toks := s.toks }) :=
  .of_wp fun prog w A R s h => by
    obtain ⟨hp, g, d, tk, os⟩ := s
    obtain ⟨hl, h⟩ := h
    have f1 := AutoSeq1.idx_int
    wp_walk using wpAny_loadPart' hl
    repeat (first
      | (refine wpAny_ite_false (decide_eq_false (by rw [c0]; exact Bool.false_ne_true)) ?_; wp_walk using wpAny_loadPart' hl)
      | (refine wpAny_ite_false (decide_eq_false (by rw [c1]; exact Bool.false_ne_true)) ?_; wp_walk using wpAny_loadPart' hl)
      | (refine wpAny_ite_true (decide_eq_true (by rw [c2])) ?_; wp_walk using wpAny_loadPart' hl))
    all_goals first | exact ⟨_, rfl, h⟩ | trace_state
def rRepA (K : Frag) : R2 := fun x y H Q => ∃ l k xs, x = .ref l ∧ y = .int k ∧ SqT K H l xs ∧ -(2 ^ 63) ≤ k ∧ k ≤ 1000 ∧ xs.length ≤ 1000 ∧ ((k = 1 ∨ xs = []) → Q (.ref l) H) ∧
  (k ≠ 1 → xs ≠ [] → ∀ p, H p = none → Q (.ref p) (upd H p (.tup (List.replicate k.toNat xs).flatten)))
section
variable {X : Cx}
theorem op_repA : OpR X (binaryOp .Mult) (rRepA X.K) := by
  intro pins s σ H x y v u Q I rx ry h
  obtain ⟨l, k, xs, rfl, rfl, hT, h1, h2, hz, q1, q2⟩ := h
  by_cases hk : 2 ≤ k ∧ xs ≠ []
  · exact op_repT pins s σ H _ _ v u Q I rx ry ⟨l, k, xs, rfl, rfl, hT, hk.2, hk.1, h2, hz, q2 (by omega) hk.2⟩
  · cases rx
    obtain ⟨t, rfl⟩ := ry
    obtain ⟨its, r, ⟨⟨cls, dd, data, sl⟩, ho, hc, n, hd⟩, hs⟩ := I.tuple hT
    simp only at hc hd
    subst hc hd
    have hle : its.length = xs.length := r.length.symm
    have c0 : (decide (k < -(2 ^ 63)) || decide (k ≥ 2 ^ 63)) = false := by
      rw [decide_eq_false (by omega), decide_eq_false (by omega)] <;> rfl
    by_cases h3 : k = 1 ∨ xs = []
    · have c1 : (its.toArray.isEmpty || k == 1) = true := by
        rcases h3 with e | e
        · rw [e]; simp
        · subst e
          have : its = [] := List.eq_nil_of_length_eq_zero hle
          subst this; rfl
      refine wpAny_binaryOp_repeat_ref (T := "tuple") (U := "int") (by decide) ⟨_, ho, rfl⟩ (fun s' => typeIs_int s' k t) noFill_tuple_mul F.fills_int_mul F.slot_int_rmul repeat_tuple F.slot_int_index.lookup
        (call_meets F.slot_int_rmul (typeIs_int s k t) F.entry_int_rmul (F.args_int_rmul_2 _ _) (int_rmul_tuple k t l its.toArray n dd sl)
          ⟨ho, rfl, ⟨_, ho, rfl⟩, call_meets F.slot_tuple_mul ⟨_, ho, rfl⟩ F.entry_tuple_mul (F.args_tuple_mul_2 _ _) (tuple_mul1 l its.toArray n dd sl k t c0 c1) ⟨ho, ?_⟩⟩)
      exact ⟨.ref l, H, I, rfl, q1 h3⟩
    · have hx : xs ≠ [] := fun e => h3 (.inr e)
      have hk1 : k ≠ 1 := fun e => h3 (.inl e)
      have hn : its ≠ [] := fun e => hx (by
        rw [e] at hle
        exact List.eq_nil_of_length_eq_zero hle.symm)
      have hi : its.toArray.isEmpty = false := by
        cases its with
        | nil => exact absurd rfl hn
        | cons a b => rfl
      have hk0 : k ≤ 0 := by
        by_cases z : 2 ≤ k
        · exact absurd ⟨z, hx⟩ hk
        · omega
      have c1 : (its.toArray.isEmpty || k == 1) = false := by
        rw [hi, Bool.false_or]
        exact beq_eq_false_iff_ne.mpr hk1
      have c2 : (decide (k ≤ 0) || its.toArray.isEmpty) = true := by
        rw [decide_eq_true hk0]; rfl
      refine wpAny_binaryOp_repeat_ref (T := "tuple") (U := "int") (by decide) ⟨_, ho, rfl⟩ (fun s' => typeIs_int s' k t) noFill_tuple_mul F.fills_int_mul F.slot_int_rmul repeat_tuple F.slot_int_index.lookup
        (call_meets F.slot_int_rmul (typeIs_int s k t) F.entry_int_rmul (F.args_int_rmul_2 _ _) (int_rmul_tuple k t l its.toArray n dd sl)
          ⟨ho, rfl, ⟨_, ho, rfl⟩, call_meets F.slot_tuple_mul ⟨_, ho, rfl⟩ F.entry_tuple_mul (F.args_tuple_mul_2 _ _) (tuple_mul0 l its.toArray n dd sl k t c0 c1 c2) ⟨ho, ?_⟩⟩)
      have ek : k.toNat = 0 := by omega
      have q3 := q2 hk1 hx
      rw [ek] at q3
      refine ⟨.ref s.heap.objs.size, _, I.laid (t' := s.toks) (o := .tup []) (fun b ob q => Heap.get?_push_of_some _ q) (Nat.le_refl _) ?_, rfl, q3 _ (I.hok.fresh (Nat.le_refl _))⟩
      exact ⟨Nat.zero_le _, [], .nil, IsTup.new _ _⟩
end
section
variable {X : Cx} {F : Fx} {m : Md}
/-- ints; a list or a tuple times an int -/
def dMul : D → D → (D → Prop) → Prop
  | .int i, .int j, Q => IntMulOk i j ∧ Q (.int (i * j))
  | .lst xs, .int k, Q => -(2 ^ 63) ≤ k ∧ k < 2 ^ 63 ∧ xs.length * k.toNat ≤ sizeLine ∧ Q (.lst (List.replicate k.toNat xs).flatten)
  | .tup xs, .int k, Q => -(2 ^ 63) ≤ k ∧ k ≤ 1000 ∧ xs.length ≤ 1000 ∧ Q (.tup (List.replicate k.toNat xs).flatten)
  | _, _, _ => False
def rMulAll (K : Frag) : R2 := fun x y H Q => rI IntMulOk (fun i j => .int (i * j)) x y H Q ∨ rRep x y H Q ∨ rRepA K x y H Q
theorem dop_mul : DOp X F .f (binaryOp .Mult) (rMulAll X.K) dMul := by
  refine ⟨op_mulA.or (op_rep.or op_repA), fun x y dx dy G H Q Q' w rx ry e k => ?_⟩
  cases dx <;> cases dy <;> first | exact e.elim | skip
  · cases rx.rep trivial; cases ry.rep trivial
    exact .inl ⟨_, _, rfl, rfl, e.1, k _ _ _ (.int _) (.refl w) (rv_any trivial (.int _)) e.2⟩
  · rename_i xs n
    cases ry.rep trivial
    cases (show Rep G x (.tup xs) from rx.rep trivial) with
    | @tup a1 vs _ h1 h2 =>
      obtain ⟨e1, e2, e3, e4⟩ := e
      refine .inr (.inr ⟨_, _, _, rfl, rfl, .of (w.gh _ _ h1), e1, e2, by rw [h2.length]; exact e3, fun z => ?_, fun z1 z2 p hp => ?_⟩)
      · rcases z with z | z
        · subst z
          have e5 : (List.replicate (1 : Int).toNat xs).flatten = xs := by
            show (List.replicate 1 xs).flatten = xs
            simp
          rw [e5] at e4
          exact k _ _ _ (.tup _) (.refl w) (rv_any trivial (.tup h1 h2)) e4
        · subst z
          cases h2
          have e5 : (List.replicate n.toNat ([] : List D)).flatten = [] := by simp
          rw [e5] at e4
          exact k _ _ _ (.tup _) (.refl w) (rv_any trivial (.tup h1 .nil)) e4
      · exact k _ _ _ (.tup _) (upd_newG w hp (fun ps q => nomatch q)) (rv_any trivial (.tup upd_same ((h2.rep _).mono (.upd_new (w.none hp))))) e4
  · obtain ⟨a1, vs, rfl, h1, h2⟩ := rx
    cases ry.rep trivial
    obtain ⟨e1, e2, e3, e4⟩ := e
    exact .inr (.inl ⟨_, _, _, rfl, rfl, h1, e1, e2, by rw [h2.length]; exact e3, fun p hp => k _ _ _ (.lst _) (upd_new w hp (fun ps q => nomatch q)) ⟨p, _, rfl, upd_same, hp, w.none hp, h2.rep _⟩ e4⟩)
theorem dop_mulK {K : Frag} (hK : X.K = K) : DOp X F .f (binaryOp .Mult) (rMulAll K) dMul := by subst hK; exact dop_mul 
end
end DW

namespace DW
open PySem L2

/-! ### == of data -/
mutual
def D.toP : D → PyData
  | .non => .none
  | .bl b => .bool b
  | .int i => .int i
  | .str x => .str x
  | .tup ds => .tuple (D.toPs ds)
  | .lst ds => .list (D.toPs ds)
  | .bag => .dict []
  | .obj _ _ => .dict []
  | .ty _ => .dict []
  | .cl _ => .dict []
  | .fz _ _ => .dict []
def D.toPs : List D → List PyData
  | [] => []
  | d :: ds => D.toP d :: D.toPs ds
end
/-- plain data of at most so many levels -/
def okd : Nat → D → Prop
  | _, .non => True
  | _, .bl _ => True
  | _, .int _ => True
  | _, .str x => PyData.strOk x = true
  | n + 1, .tup ds => ∀ d ∈ ds, okd n d
  | n + 1, .lst ds => ∀ d ∈ ds, okd n d
  | 0, .tup _ => False
  | 0, .lst _ => False
  | _, .bag => False
  | _, .obj _ _ => False
  | _, .ty _ => False
  | _, .cl _ => False
  | _, .fz _ _ => False
def deq (a b : D) : Bool := PyData.eqv a.toP b.toP
mutual
theorem okd_lay : ∀ (n : Nat) (d : D), okd n d → d.toP.canLay0 = true ∧ d.toP.depth ≤ n
  | n, .non, _ => by simp [D.toP, PyData.canLay0, PyData.depth]
  | n, .bl _, _ => by simp [D.toP, PyData.canLay0, PyData.depth]
  | n, .int _, _ => by simp [D.toP, PyData.canLay0, PyData.depth]
  | n, .str x, h => by
    have h' : PyData.strOk x = true := by cases n <;> exact h
    simp [D.toP, PyData.canLay0, PyData.depth, h']
  | n + 1, .tup ds, h => by
    have := okds_lay n ds h
    simp only [D.toP, PyData.canLay0, PyData.depth]
    exact ⟨this.1, by omega⟩
  | n + 1, .lst ds, h => by
    have := okds_lay n ds h
    simp only [D.toP, PyData.canLay0, PyData.depth]
    exact ⟨this.1, by omega⟩
  | 0, .tup _, h => h.elim
  | 0, .lst _, h => h.elim
  | 0, .bag, h => h.elim
  | _ + 1, .bag, h => h.elim
  | 0, .obj _ _, h => h.elim
  | _ + 1, .obj _ _, h => h.elim
  | 0, .ty _, h => h.elim
  | _ + 1, .ty _, h => h.elim
  | 0, .cl _, h => h.elim
  | 0, .fz _ _, h => h.elim
  | _ + 1, .cl _, h => h.elim
  | _ + 1, .fz _ _, h => h.elim
theorem okds_lay : ∀ (n : Nat) (ds : List D), (∀ d ∈ ds, okd n d) → PyData.canLayAll0 (D.toPs ds) = true ∧ PyData.depthAll (D.toPs ds) ≤ n
  | n, [], _ => by simp [D.toPs, PyData.canLayAll0, PyData.depthAll]
  | n, d :: ds, h => by
    have h1 := okd_lay n d (h d List.mem_cons_self)
    have h2 := okds_lay n ds fun e he => h e (List.mem_cons_of_mem _ he)
    simp only [D.toPs, PyData.canLayAll0, PyData.depthAll, Bool.and_eq_true]
    exact ⟨⟨h1.1, h2.1⟩, Nat.max_le.mpr ⟨h1.2, h2.2⟩⟩
end
theorem okd_shaped {d : D} (h : okd 64 d) : SeqAt.shaped d.toP = true := by
  have := okd_lay 64 d h
  unfold SeqAt.shaped
  rw [this.1, decide_eq_true this.2]; rfl
mutual
theorem Rep.dp {K : Frag} {G H : Hp} (s : Sub G H) : ∀ {v : V} {d : D} (n : Nat), okd n d → Rep G v d → Dp K H v d.toP
  | _, _, _, _, .non => .non
  | _, _, _, _, .bl b => .bl b
  | _, _, _, _, .int i => .int i
  | _, _, _, _, .str x => .str x
  | _, _, n + 1, h, .tup g r => .tup (.of (s _ _ g)) (Reps.dp s n h r)
  | _, _, n + 1, h, .lst g r => .lst (.of (s _ _ g)) (Reps.dp s n h r)
  | _, _, 0, h, .tup _ _ => h.elim
  | _, _, 0, h, .lst _ _ => h.elim
  | _, _, 0, h, .bag _ _ => h.elim
  | _, _, _ + 1, h, .bag _ _ => h.elim
  | _, _, 0, h, .obj _ _ => h.elim
  | _, _, _ + 1, h, .obj _ _ => h.elim
  | _, _, 0, h, .ty _ => h.elim
  | _, _, _ + 1, h, .ty _ => h.elim
  | _, _, 0, h, .cl _ => h.elim
  | _, _, 0, h, .fz _ => h.elim
  | _, _, _ + 1, h, .cl _ => h.elim
  | _, _, _ + 1, h, .fz _ => h.elim
theorem Reps.dp {K : Frag} {G H : Hp} (s : Sub G H) : ∀ {vs : List V} {ds : List D} (n : Nat), (∀ d ∈ ds, okd n d) → Reps G vs ds → DpAll K H vs (D.toPs ds)
  | _, _, _, _, .nil => .nil
  | _, _, n, h, .cons g r => .cons (Rep.dp s n (h _ List.mem_cons_self) g) (Reps.dp s n (fun d hd => h d (List.mem_cons_of_mem _ hd)) r)
end
theorem RT.dp {K : Frag} {G H : Hp} (w : Wf G H) {v : V} {d : D} {n : Nat} (h : okd (n + 1) d) (r : RT G H v d) : Dp K H v d.toP := by
  cases d with
  | lst ds => obtain ⟨a, vs, rfl, h1, h2⟩ := r; exact .lst (.of h1) (h2.dp w.gh n h)
  | _ => exact Rep.dp w.gh (n + 1) h r
section
variable {X : Cx} {F : Fx} {m : Md}
def dEq : D → D → (D → Prop) → Prop := fun x y Q => okd 64 x ∧ okd 64 y ∧ Q (.bl (deq x y))
def dNe : D → D → (D → Prop) → Prop := fun x y Q => okd 64 x ∧ okd 64 y ∧ Q (.bl (!deq x y))
theorem dop_eq (hu : X.A.units + 64 < cLine) : DOp X F m (compareOp .Eq) (rEqD X.K) dEq := by
  refine ⟨op_eqD hu, fun x y dx dy G H Q Q' w rx ry e k => ?_⟩
  obtain ⟨h1, h2, q⟩ := e
  exact ⟨_, _, rx.dp w h1, ry.dp w h2, okd_shaped h1, okd_shaped h2, k _ _ _ (.bl _) (.refl w) (rv_any trivial (.bl _)) q⟩
theorem dop_eqK {K : Frag} (hK : X.K = K) (hu : X.A.units + 64 < cLine) : DOp X F m (compareOp .Eq) (rEqD K) dEq := by subst hK; exact dop_eq hu
theorem dop_ne (hu : X.A.units + 64 < cLine) : DOp X F m (compareOp .NotEq) (rNeD X.K) dNe := by
  refine ⟨op_neD hu, fun x y dx dy G H Q Q' w rx ry e k => ?_⟩
  obtain ⟨h1, h2, q⟩ := e
  exact ⟨_, _, rx.dp w h1, ry.dp w h2, okd_shaped h1, okd_shaped h2, k _ _ _ (.bl _) (.refl w) (rv_any trivial (.bl _)) q⟩
theorem dop_neK {K : Frag} (hK : X.K = K) (hu : X.A.units + 64 < cLine) : DOp X F m (compareOp .NotEq) (rNeD K) dNe := by subst hK; exact dop_ne hu
def dLt : D → D → (D → Prop) → Prop := fun x y Q => asI x fun i => asI y fun j => Q (.bl (decide (i < j)))
def dLe : D → D → (D → Prop) → Prop := fun x y Q => asI x fun i => asI y fun j => Q (.bl (decide (i ≤ j)))
def dGt : D → D → (D → Prop) → Prop := fun x y Q => asI x fun i => asI y fun j => Q (.bl (decide (j < i)))
def dGe : D → D → (D → Prop) → Prop := fun x y Q => asI x fun i => asI y fun j => Q (.bl (decide (j ≤ i)))
theorem dop_lt : DOp X F m (compareOp .Lt) (rI0 fun i j => .bl (decide (i < j))) dLt := dop_ib op_lt
theorem dop_le : DOp X F m (compareOp .LtE) (rI0 fun i j => .bl (decide (i ≤ j))) dLe := dop_ib op_le
theorem dop_gt : DOp X F m (compareOp .Gt) (rI0 fun i j => .bl (decide (j < i))) dGt := dop_ib op_gt
theorem dop_ge : DOp X F m (compareOp .GtE) (rI0 fun i j => .bl (decide (j ≤ i))) dGe := dop_ib op_ge
/-- is None -/
def isN : D → Bool
  | .non => true
  | _ => false
def dIs : D → D → (D → Prop) → Prop := fun x y Q => asN y (Q (.bl (isN x)))
def dIsNot : D → D → (D → Prop) → Prop := fun x y Q => asN y (Q (.bl (!isN x)))
theorem RT.isN {G H : Hp} {v : V} {d : D} (r : RT G H v d) : decide (v = .non) = isN d := by
  cases d with
  | lst ds => obtain ⟨a, vs, rfl, _⟩ := r; rfl
  | _ => cases r <;> rfl
theorem dop_is : DOp X F m (compareOp .Is) (fun x y H Q => y = .non ∧ Q (.bl (decide (x = .non))) H) dIs := by
  refine ⟨op_isN, fun x y dx dy G H Q Q' w rx ry e k => ?_⟩
  have zz := e.out; clear e; obtain ⟨rfl, q⟩ := zz
  cases (show Rep G y .non from ry)
  exact ⟨rfl, k _ _ _ (.bl _) (.refl w) (rv_any trivial (by rw [rx.isN]; exact .bl _)) q⟩
theorem dop_isNot : DOp X F m (compareOp .IsNot) (fun x y H Q => y = .non ∧ Q (.bl (!decide (x = .non))) H) dIsNot := by
  refine ⟨op_notN, fun x y dx dy G H Q Q' w rx ry e k => ?_⟩
  have zz := e.out; clear e; obtain ⟨rfl, q⟩ := zz
  cases (show Rep G y .non from ry)
  exact ⟨rfl, k _ _ _ (.bl _) (.refl w) (rv_any trivial (by rw [rx.isN]; exact .bl _)) q⟩
end

/-! ### tests -/
abbrev DT := DEnv → (Bool → Prop) → Prop
def SimT (F : Fx) (t : TT) (ev : DT) : Prop := ∀ (σ : St) (H G : Hp) (δ : DEnv) (Q : Bool → Prop) (Q' : Bool → Hp → Prop), SRep F G H σ δ → ev δ Q →
  (∀ b G' H', Ext F.T G H G' H' → Q b → Q' b H') → t σ H Q'
structure FT (X : Cx) (F : Fx) (e : Expr) (t : TT) (ev : DT) : Prop where
  pt : PT X e t
  sim : SimT F t ev
structure FW (X : Cx) (F : Fx) (e : Expr) (t : TT) (ev : DT) : Prop where
  pw : PW X e t
  sim : SimT F t ev
section
variable {X : Cx} {F : Fx} {a b c e : Expr} {ta tb tc te : TE} {ea eb ec ee : DE} {pos : Pos} {m m' : Md} {tA tB' : TT} {eA eB : DT} {rest : List Expr}
/-- the truth of what is a bool -/
def dTB (ev : DE) : DT := fun δ Q => ev δ fun d => asB d Q
theorem sim_tB (h : Sim F m te ee) : SimT F (tB te) (dTB ee) := fun σ H G δ Q Q' s e k => by
  refine h σ H G δ _ _ s e fun v G' H' d x r q => ?_
  have zz := q.out; clear q; obtain ⟨b, rfl, q⟩ := zz
  cases (show Rep G' v (.bl b) from r.rep trivial)
  exact ⟨b, rfl, k b G' H' x q⟩
theorem ft_val (h : FE X F m e te ee) (he : ∀ whole, isTrue e X.env whole = (do let v ← whole; standAt e.pos; holding [v] (truthy v)) := by intro _; rfl) : FT X F e (tB te) (dTB ee) := ⟨pt_val h.pe he, sim_tB h.sim⟩
theorem ft_cmp {op : CmpOp} {r : R2} {ev : D → D → (D → Prop) → Prop} (ho : DOp X F .t (compareOp op) r ev) (ha : FE X F .t a ta ea) (hb : FE X F .t b tb eb) (hm : behindInMarks op b = false := by first | exact nomark _ | with_unfolding_all rfl) :
    FT X F (.Compare a [op] [b] pos) (tTest (tOp r ta tb)) (dTB (dBin ev ea eb)) := ⟨pt_cmpR ho.op ha.pe hb.pe hm, sim_tB (sim_bin ho.sim ha.sim hb.sim)⟩
theorem ft_chain {op op' : CmpOp} {r r' : R2} {ev ev' : D → D → (D → Prop) → Prop} (ho : DOp X F .t (compareOp op) r ev) (ho' : DOp X F .t (compareOp op') r' ev') (ha : FE X F .t a ta ea) (hb : FE X F .t b tb eb) (hc : FE X F .t c tc ec)
    (hm : lastMarks [op, op'] [b, c] = false := by with_unfolding_all rfl) : FT X F (.Compare a [op, op'] [b, c] pos) (tTest (tChain r r' ta tb tc)) (dTB (dChain ev ev' ea eb ec)) :=
  ⟨pt_chain ho.op ho'.op ha.pe hb.pe hc.pe hm, sim_tB (m := .t) (sim_chain ho.sim ho'.sim ha.sim hb.sim hc.sim)⟩
def dTNot (ev : DT) : DT := fun δ Q => ev δ fun b => Q (!b)
theorem ft_not (h : FT X F a tA eA) : FT X F (.UnaryOp .Not a pos) (tNot tA) (dTNot eA) := ⟨pt_not h.pt, fun σ H G δ Q Q' s e k => h.sim σ H G δ _ _ s e fun b G' H' x q => k _ G' H' x q⟩
def dTAnd (ea eb : DT) : DT := fun δ Q => ea δ fun b => if b = true then eb δ Q else Q false
def dTOr (ea eb : DT) : DT := fun δ Q => ea δ fun b => if b = true then Q true else eb δ Q
theorem fw_and1 (ha : FT X F a tA eA) : FW X F (.BoolOp .And [a] pos) tA eA := ⟨pw_and1 ha.pt, ha.sim⟩
theorem fw_or1 (ha : FT X F a tA eA) : FW X F (.BoolOp .Or [a] pos) tA eA := ⟨pw_or1 ha.pt, ha.sim⟩
theorem fw_and (ha : FT X F a tA eA) (hb : FW X F (.BoolOp .And (b :: rest) pos) tB' eB) : FW X F (.BoolOp .And (a :: b :: rest) pos) (tAnd tA tB') (dTAnd eA eB) := ⟨pw_and ha.pt hb.pw, fun σ H G δ Q Q' s e k => by
  refine ha.sim σ H G δ _ _ s e fun b G' H' x q => ?_
  cases b with
  | true => exact hb.sim σ H' G' δ _ _ (s.to x) q fun b2 G2 H2 x2 q2 => k _ _ _ (x.trans x2) q2
  | false => exact k _ _ _ x q⟩
theorem fw_or (ha : FT X F a tA eA) (hb : FW X F (.BoolOp .Or (b :: rest) pos) tB' eB) : FW X F (.BoolOp .Or (a :: b :: rest) pos) (tOr tA tB') (dTOr eA eB) := ⟨pw_or ha.pt hb.pw, fun σ H G δ Q Q' s e k => by
  refine ha.sim σ H G δ _ _ s e fun b G' H' x q => ?_
  cases b with
  | false => exact hb.sim σ H' G' δ _ _ (s.to x) q fun b2 G2 H2 x2 q2 => k _ _ _ (x.trans x2) q2
  | true => exact k _ _ _ x q⟩
theorem FW.ft (h : FW X F e tA eA) : FT X F e tA eA := ⟨h.pw.pt, h.sim⟩
/-- truth of other data -/
def truD : D → Option Bool
  | .non => some false
  | .bl b => some b
  | .int i => some (i != 0)
  | .tup ds => some (!ds.isEmpty)
  | .lst ds => some (!ds.isEmpty)
  | _ => none
def dTru (ev : DE) : DT := fun δ Q => ev δ fun d => asO (truD d) Q
theorem ft_tru (h : FE X F .t e te ee) (he : ∀ whole, isTrue e X.env whole = (do let v ← whole; standAt e.pos; holding [v] (truthy v)) := by intro _; rfl) :
    FT X F e (fun σ H Q => te σ H fun x H' => ∃ k, TruV X.K x H' k ∧ Q k H') (dTru ee) := ⟨pt_truth h.pe he, fun σ H G δ Q Q' s ev k => by
  refine h.sim σ H G δ _ _ s ev fun v G' H' d x r q => ?_
  have zz := q.out; clear q; obtain ⟨b, hb, q⟩ := zz
  refine ⟨b, ?_, k b G' H' x q⟩
  have r := r.rt
  cases d with
  | lst ds =>
    obtain ⟨a, vs, rfl, h1, h2⟩ := r
    cases hb
    refine .inl ⟨vs, .of h1, ?_⟩
    cases h2 <;> rfl
  | non => cases hb; cases r; rfl
  | bl _ => cases hb; cases r; rfl
  | int _ => cases hb; cases r; rfl
  | tup ds =>
    cases hb
    cases r with
    | tup h1 h2 =>
      refine .inr (.inl ⟨_, .of (x.wf.gh _ _ h1), ?_⟩)
      cases h2 <;> rfl
  | str _ => cases hb
  | bag => cases hb
  | obj _ _ => cases hb
  | ty _ => cases hb
  | cl _ => cases hb
  | fz _ _ => cases hb⟩
/-- and, or, not as values (of bools) -/
theorem ft_truK {K : Frag} (hK : X.K = K) (h : FE X F .t e te ee) (he : ∀ whole, isTrue e X.env whole = (do let v ← whole; standAt e.pos; holding [v] (truthy v)) := by intro _; rfl) :
    FT X F e (fun σ H Q => te σ H fun x H' => ∃ k, TruV K x H' k ∧ Q k H') (dTru ee) := by subst hK; exact ft_tru h he
def dAnd (ea eb : DE) : DE := fun δ Q => ea δ fun d => asB d fun c => if c = true then eb δ Q else Q (.bl false)
def dOr (ea eb : DE) : DE := fun δ Q => ea δ fun d => asB d fun c => if c = true then Q (.bl true) else eb δ Q
def dNot (ea : DE) : DE := fun δ Q => ea δ fun d => asB d fun c => Q (.bl (!c))
theorem RV.lift {F : Fx} {m : Md} {T : Tbs} {G H G1 H1 G2 H2 : Hp} {v : V} {d : D} (e : Ext T G H G1 H1) (r : RV F m H1 G2 H2 v d) : RV F m H G2 H2 v d := by
  cases m with
  | f => cases d with
    | lst ds => obtain ⟨p, vs, h1, h2, h3, h4⟩ := r; exact ⟨p, vs, h1, h2, e.dn _ h3, h4⟩
    | _ => exact r
  | s => cases d <;> exact r
  | t => cases d <;> exact r
  | g => exact r
theorem fe_and (ha : FE X F m' a ta ea) (hb : FE X F m (.BoolOp .And (b :: rest) pos) tb eb) : FE X F m (.BoolOp .And (a :: b :: rest) pos) (tAndV ta tb) (dAnd ea eb) := ⟨pe_and ha.pe hb.pe, fun σ H G δ Q Q' s e k => by
  refine ha.sim σ H G δ _ _ s e fun v G' H' d x r q => ?_
  have zz := q.out; clear q; obtain ⟨c, rfl, q⟩ := zz
  cases (show Rep G' v (.bl c) from r.rep trivial)
  refine ⟨c, rfl, ?_⟩
  cases c with
  | true => exact hb.sim σ H' G' δ _ _ (s.to x) q fun v2 G2 H2 d2 x2 r2 q2 => k _ _ _ _ (x.trans x2) (r2.lift x) q2
  | false => exact k _ _ _ (.bl false) x (rv_any trivial (.bl _)) q⟩
theorem fe_or (ha : FE X F m' a ta ea) (hb : FE X F m (.BoolOp .Or (b :: rest) pos) tb eb) : FE X F m (.BoolOp .Or (a :: b :: rest) pos) (tOrV ta tb) (dOr ea eb) := ⟨pe_or ha.pe hb.pe, fun σ H G δ Q Q' s e k => by
  refine ha.sim σ H G δ _ _ s e fun v G' H' d x r q => ?_
  have zz := q.out; clear q; obtain ⟨c, rfl, q⟩ := zz
  cases (show Rep G' v (.bl c) from r.rep trivial)
  refine ⟨c, rfl, ?_⟩
  cases c with
  | false => exact hb.sim σ H' G' δ _ _ (s.to x) q fun v2 G2 H2 d2 x2 r2 q2 => k _ _ _ _ (x.trans x2) (r2.lift x) q2
  | true => exact k _ _ _ (.bl true) x (rv_any trivial (.bl _)) q⟩
theorem fe_one {op} (ha : FE X F m a ta ea) : FE X F m (.BoolOp op [a] pos) ta ea := ⟨pe_one ha.pe, ha.sim⟩
theorem fe_not (ha : FE X F m' a ta ea) : FE X F m (.UnaryOp .Not a pos) (tNotV ta) (dNot ea) := ⟨pe_not ha.pe, fun σ H G δ Q Q' s e k => by
  refine ha.sim σ H G δ _ _ s e fun v G' H' d x r q => ?_
  have zz := q.out; clear q; obtain ⟨c, rfl, q⟩ := zz
  cases (show Rep G' v (.bl c) from r.rep trivial)
  exact ⟨c, rfl, k _ _ _ (.bl _) x (rv_any trivial (.bl _)) q⟩⟩
/-- a if c else b -/
def dIf (ec : DT) (ea eb : DE) : DE := fun δ Q => ec δ fun c => if c = true then ea δ Q else eb δ Q
theorem fe_if (hc : FT X F c tA eA) (ha : FE X F m a ta ea) (hb : FE X F m b tb eb) : FE X F m (.IfExp c a b pos) (tIf tA ta tb) (dIf eA ea eb) := ⟨pe_ifExp hc.pt ha.pe hb.pe, fun σ H G δ Q Q' s e k => by
  refine hc.sim σ H G δ _ _ s e fun c G' H' x q => ?_
  cases c with
  | true => exact ha.sim σ H' G' δ _ _ (s.to x) q fun v2 G2 H2 d2 x2 r2 q2 => k _ _ _ _ (x.trans x2) (r2.lift x) q2
  | false => exact hb.sim σ H' G' δ _ _ (s.to x) q fun v2 G2 H2 d2 x2 r2 q2 => k _ _ _ _ (x.trans x2) (r2.lift x) q2⟩
end
end DW

namespace DW
open PySem L2

theorem Reps.atI {G : Hp} {vs : List V} {ds : List D} {i : Int} {d : D} (r : Reps G vs ds) (h : L2.atI ds i = some d) : ∃ v, L2.atI vs i = some v ∧ Rep G v d := by
  unfold L2.atI at h ⊢
  rw [r.length]
  cases e : ixN ds.length i with
  | none => rw [e] at h; cases h
  | some j =>
    rw [e] at h
    obtain ⟨v, h1, h2⟩ := r.get (show ds[j]? = some d from h)
    exact ⟨v, h1, h2⟩
theorem Reps.cut {G : Hp} {vs : List V} {ds : List D} (r : Reps G vs ds) (lo hi : Option Int) : Reps G (cutV vs lo hi) ((ds.drop (HT.sIx ds.length 0 lo)).take (HT.sIx ds.length ds.length hi - HT.sIx ds.length 0 lo)) := by
  unfold cutV
  rw [r.length]
  exact (r.drop _).take _
section
variable {X : Cx} {F : Fx} {a b c e : Expr} {ta tb tc te : TE} {ea eb ec ee : DE} {pos p2 : Pos} {m m' : Md}
/-- an item: of a list, a tuple, a text -/
def dIx : D → D → (D → Prop) → Prop
  | .lst ds, .int i, Q => asO (L2.atI ds i) Q
  | .tup ds, .int i, Q => asO (L2.atI ds i) Q
  | .str z, .int i, Q => z.length ≤ sizeLine ∧ asO (L2.atI z.cps.toList i) fun c => Q (.str ⟨#[c]⟩)
  | _, _, _ => False
theorem sim_ix : SimR F .g (rIx X.K) dIx := fun x y dx dy G H Q Q' w rx ry e k => by
  cases dx <;> cases dy <;> first | exact e.elim | skip
  · rename_i z i
    cases rx.rep trivial; cases ry.rep trivial
    obtain ⟨hz, e⟩ := e
    have zz := e.out; clear e; obtain ⟨c, h1, q⟩ := zz
    exact .inr (.inr ⟨_, _, _, rfl, rfl, hz, h1, k _ _ _ (.str _) (.refl w) (.str _) q⟩)
  · rename_i ds i
    cases ry.rep trivial
    cases (show Rep G x (.tup ds) from rx.rep trivial) with
    | tup h1 h2 =>
      have zz := e.out; clear e; obtain ⟨d, h3, q⟩ := zz
      obtain ⟨v, h4, h5⟩ := h2.atI h3
      exact .inr (.inl ⟨_, _, _, _, rfl, rfl, .of (w.gh _ _ h1), h4, k _ _ _ _ (.refl w) h5 q⟩)
  · rename_i ds i
    cases ry.rep trivial
    obtain ⟨p, vs, rfl, h1, h2⟩ := rx
    have zz := e.out; clear e; obtain ⟨d, h3, q⟩ := zz
    obtain ⟨v, h4, h5⟩ := h2.atI h3
    exact .inl ⟨_, _, _, _, rfl, rfl, .of h1, h4, k _ _ _ _ (.refl w) h5 q⟩
theorem fe_ix (ha : FE X F .t a ta ea) (hb : FE X F .t b tb eb) (hs : PlainIx b := by exact fun _ _ => rfl) : FE X F .g (.Subscript a b pos) (tOp (rIx X.K) ta tb) (dBin dIx ea eb) :=
  ⟨pe_ix ix_seq ha.pe hb.pe hs, sim_bin sim_ix ha.sim hb.sim⟩
/-- an item that is no list, in any mode -/
theorem fe_ixK {K : Frag} (hK : X.K = K) (ha : FE X F .t a ta ea) (hb : FE X F .t b tb eb) (hs : PlainIx b := by exact fun _ _ => rfl) : FE X F .g (.Subscript a b pos) (tOp (rIx K) ta tb) (dBin dIx ea eb) := by subst hK; exact fe_ix ha hb hs
theorem fe_ixS (ha : FE X F .t a ta ea) (hb : FE X F .t b tb eb) (hs : PlainIx b := by exact fun _ _ => rfl) : FE X F m (.Subscript a b pos) (tOp (rIx X.K) ta tb) (dBin (fun x y Q => dIx x y fun d => NoL d ∧ Q d) ea eb) :=
  ⟨pe_ix ix_seq ha.pe hb.pe hs, fun σ H G δ Q Q' s e k => sim_bin sim_ix ha.sim hb.sim σ H G δ (fun d => NoL d ∧ Q d) Q' s e fun v G' H' d x r q => k _ _ _ _ x (rv_any q.1 r) q.2⟩

/-! ### slices -/
theorem fe_ixSK {K : Frag} (hK : X.K = K) (ha : FE X F .t a ta ea) (hb : FE X F .t b tb eb) (hs : PlainIx b := by exact fun _ _ => rfl) : FE X F m (.Subscript a b pos) (tOp (rIx K) ta tb) (dBin (fun x y Q => dIx x y fun d => NoL d ∧ Q d) ea eb) := by subst hK; exact fe_ixS ha hb hs
abbrev DO := DEnv → (Option Int → Prop) → Prop
def SimO (F : Fx) (t : TO) (ev : DO) : Prop := ∀ (σ : St) (H G : Hp) (δ : DEnv) (Q : Option Int → Prop) (Q' : Option Int → Hp → Prop), SRep F G H σ δ → ev δ Q →
  (∀ b G' H', Ext F.T G H G' H' → Q b → Q' b H') → t σ H Q'
structure FO (X : Cx) (F : Fx) (e : Option Expr) (t : TO) (ev : DO) : Prop where
  po : PO X e t
  sim : SimO F t ev
theorem fo_none : FO X F none tNoPart (fun _ Q => Q none) := ⟨po_none, fun σ H G δ Q Q' s e k => k _ G H (.refl s.wf) e⟩
theorem fo_some (h : FE X F .t e te ee) : FO X F (some e) (tPart te) (fun δ Q => ee δ fun d => asI d fun i => Q (some i)) := ⟨po_some h.pe, fun σ H G δ Q Q' s ev k => by
  refine h.sim σ H G δ _ _ s ev fun v G' H' d x r q => ?_
  have zz := q.out; clear q; obtain ⟨i, rfl, q⟩ := zz
  cases (show Rep G' v (.int i) from r.rep trivial)
  exact ⟨i, rfl, k _ _ _ x q⟩⟩
def cutD (ds : List D) (lo hi : Option Int) : List D := (ds.drop (HT.sIx ds.length 0 lo)).take (HT.sIx ds.length ds.length hi - HT.sIx ds.length 0 lo)
def dSl : D → Option Int → Option Int → (D → Prop) → Prop
  | .lst ds, lo, hi, Q => Q (.lst (cutD ds lo hi))
  | .tup ds, lo, hi, Q => Q (.tup (cutD ds lo hi))
  | _, _, _, _ => False
def rSlAll (K : Frag) : V → Option Int → Option Int → Hp → VK → Prop := fun x lo hi H Q => rSlL K x lo hi H Q ∨ rSlA K x lo hi H Q
theorem fe_sl {lo hi : Option Expr} {tl th : TO} {el eh : DO} (he : FE X F .t e te ee) (hl : FO X F lo tl el) (hh : FO X F hi th eh) : FE X F .f (.Subscript e (.Slice lo hi none p2) pos) (tSl (rSlAll X.K) te tl th)
    (fun δ Q => ee δ fun x => el δ fun l => eh δ fun h => dSl x l h Q) := ⟨pe_slice (sl_list.or sl_tupA) he.pe hl.po hh.po, fun σ H G δ Q Q' s ev k => by
  refine he.sim σ H G δ _ _ s ev fun x G1 H1 dx e1 r1 q1 => ?_
  refine hl.sim σ H1 G1 δ _ _ (s.to e1) q1 fun l G2 H2 e2 q2 => ?_
  refine hh.sim σ H2 G2 δ _ _ ((s.to e1).to e2) q2 fun h G3 H3 e3 q3 => ?_
  have e23 := e2.trans e3
  have r := r1.rt.ext e23
  cases dx with
  | lst ds =>
    obtain ⟨p, vs, rfl, h1, h2⟩ := r
    refine .inl ⟨_, _, rfl, .of h1, fun p hp => ?_⟩
    exact k _ _ _ (.lst (cutD ds l h)) ((e1.trans e23).trans (upd_new e3.wf hp (fun ps q => nomatch q))) ⟨p, _, rfl, upd_same, (e1.trans e23).dn _ hp, e3.wf.none hp, h2.cut l h⟩ q3
  | tup ds =>
    cases (show Rep G3 x (.tup ds) from r) with
    | @tup a0 vs _ h1 h2 =>
      refine .inr ⟨_, _, rfl, .of (e3.wf.gh _ _ h1), ?_, ?_⟩
      · rintro ⟨z1, z2⟩
        have e5 : cutD ds l h = ds := by
          unfold cutD
          rw [h2.length] at z1 z2
          rw [z1, z2]
          simp
        have q4 : Q (.tup (cutD ds l h)) := q3
        rw [e5] at q4
        exact k _ _ _ (.tup ds) (e1.trans e23) (rv_any trivial (.tup h1 h2)) q4
      · intro z p hp
        exact k _ _ _ (.tup (cutD ds l h)) ((e1.trans e23).trans (upd_newG e3.wf hp (fun ps q => nomatch q))) (rv_any trivial (.tup upd_same ((h2.cut l h).mono (.upd_new (e3.wf.none hp))))) q3
  | _ => exact q3.elim⟩
theorem fe_slK {K : Frag} (hK : X.K = K) {lo hi : Option Expr} {tl th : TO} {el eh : DO} (he : FE X F .t e te ee) (hl : FO X F lo tl el) (hh : FO X F hi th eh) : FE X F .f (.Subscript e (.Slice lo hi none p2) pos) (tSl (rSlAll K) te tl th)
    (fun δ Q => ee δ fun x => el δ fun l => eh δ fun h => dSl x l h Q) := by subst hK; exact fe_sl he hl hh
end

/-! ### argument lists -/
abbrev DA := DEnv → (List D → Prop) → Prop
/-- all items go into the fixed part -/
def SimA (F : Fx) (t : TA) (ev : DA) : Prop := ∀ (σ : St) (H G : Hp) (δ : DEnv) (Q : List D → Prop) (Q' : List V → Hp → Prop), SRep F G H σ δ → ev δ Q →
  (∀ vs G' H' ds, Ext F.T G H G' H' → Reps G' vs ds → Q ds → Q' vs H') → t σ H Q'
/-- all can be read -/
def SimB (F : Fx) (t : TA) (ev : DA) : Prop := ∀ (σ : St) (H G : Hp) (δ : DEnv) (Q : List D → Prop) (Q' : List V → Hp → Prop), SRep F G H σ δ → ev δ Q →
  (∀ vs G' H' ds, Ext F.T G H G' H' → RTs G' H' vs ds → Q ds → Q' vs H') → t σ H Q'
structure FA (X : Cx) (F : Fx) (es : List Expr) (t : TA) (ev : DA) : Prop where
  pa : PA X es t
  sim : SimA F t ev
structure FB (X : Cx) (F : Fx) (es : List Expr) (t : TA) (ev : DA) : Prop where
  pa : PA X es t
  sim : SimB F t ev
def dANil : DA := fun _ Q => Q []
def dACons (ea : DE) (er : DA) : DA := fun δ Q => ea δ fun d => er δ fun ds => Q (d :: ds)
def dAStar (ea : DE) (er : DA) : DA := fun δ Q => ea δ fun d => asL d fun xs => er δ fun ds => Q (xs ++ ds)
theorem RTs.ext {T : Tbs} {G H G' H' : Hp} (e : Ext T G H G' H') : ∀ {vs : List V} {ds : List D}, RTs G H vs ds → RTs G' H' vs ds
  | [], [], _ => trivial
  | _ :: _, _ :: _, h => ⟨h.1.ext e, RTs.ext e h.2⟩
  | [], _ :: _, h => h.elim
  | _ :: _, [], h => h.elim
section
variable {X : Cx} {F : Fx} {e : Expr} {es : List Expr} {te : TE} {ee : DE} {t : TA} {er : DA} {pos p : Pos} {m : Md}
theorem fa_nil : FA X F [] tNil dANil := ⟨pa_nil, fun σ H G δ Q Q' s e k => k [] G H [] (.refl s.wf) .nil e⟩
theorem fa_cons (he : FE X F .g e te ee) (hr : FA X F es t er) (hs : starEach (e :: es) X.env = (false, eval e X.env) :: starEach es X.env := by rfl) : FA X F (e :: es) (tCons te t) (dACons ee er) := ⟨pa_cons he.pe hr.pa hs, fun σ H G δ Q Q' s ev k => by
  refine he.sim σ H G δ _ _ s ev fun v G' H' d x r q => ?_
  refine hr.sim σ H' G' δ _ _ (s.to x) q fun vs G2 H2 ds x2 r2 q2 => ?_
  exact k _ _ _ _ (x.trans x2) (.cons (Rep.mono x2.gs r) r2) q2⟩
theorem fa_star (he : FE X F .t e te ee) (hr : FA X F es t er) (hs : starEach (.Starred e p :: es) X.env = (true, eval e X.env) :: starEach es X.env := by rfl) : FA X F (.Starred e p :: es) (StX.tStar X.K te t) (dAStar ee er) := ⟨StX.pa_star he.pe hr.pa hs, fun σ H G δ Q Q' s ev k => by
  refine he.sim σ H G δ _ _ s ev fun v G' H' d x r q => ?_
  have zz := q.out; clear q; obtain ⟨xs, hd, q⟩ := zz
  rcases hd with rfl | rfl
  · obtain ⟨a, vs, rfl, h1, h2⟩ := r.rt
    refine ⟨a, vs, rfl, .inr (.of h1), hr.sim σ H' G' δ _ _ (s.to x) q fun us G2 H2 ds x2 r2 q2 => ?_⟩
    exact k _ _ _ _ (x.trans x2) ((h2.mono x2.gs).append r2) q2
  · cases (show Rep G' v (.tup xs) from r.rep trivial) with
    | @tup a vs _ h1 h2 =>
      refine ⟨a, vs, rfl, .inl (.of (x.wf.gh _ _ h1)), hr.sim σ H' G' δ _ _ (s.to x) q fun us G2 H2 ds x2 r2 q2 => ?_⟩
      exact k _ _ _ _ (x.trans x2) ((h2.mono x2.gs).append r2) q2⟩
theorem fa_starK {K : Frag} (hK : X.K = K) (he : FE X F .t e te ee) (hr : FA X F es t er) (hs : starEach (.Starred e p :: es) X.env = (true, eval e X.env) :: starEach es X.env := by rfl) : FA X F (.Starred e p :: es) (StX.tStar K te t) (dAStar ee er) := by subst hK; exact fa_star he hr hs
theorem fb_nil : FB X F [] tNil dANil := ⟨pa_nil, fun σ H G δ Q Q' s e k => k [] G H [] (.refl s.wf) trivial e⟩
theorem fb_cons (he : FE X F .t e te ee) (hr : FB X F es t er) (hs : starEach (e :: es) X.env = (false, eval e X.env) :: starEach es X.env := by rfl) : FB X F (e :: es) (tCons te t) (dACons ee er) := ⟨pa_cons he.pe hr.pa hs, fun σ H G δ Q Q' s ev k => by
  refine he.sim σ H G δ _ _ s ev fun v G' H' d x r q => ?_
  refine hr.sim σ H' G' δ _ _ (s.to x) q fun vs G2 H2 ds x2 r2 q2 => ?_
  exact k _ _ _ (d :: ds) (x.trans x2) ⟨r.rt.ext x2, r2⟩ q2⟩

/-! ### displays -/
def dTup (er : DA) : DE := fun δ Q => er δ fun ds => ds.length ≤ sizeLine ∧ Q (.tup ds)
def dLst (er : DA) : DE := fun δ Q => er δ fun ds => ds.length ≤ sizeLine ∧ Q (.lst ds)
theorem fe_tup {x1} (h : FA X F es t er) : FE X F m (.Tuple es x1 pos) (tTup t) (dTup er) := ⟨pe_tup h.pa, fun σ H G δ Q Q' s ev k => by
  refine h.sim σ H G δ _ _ s ev fun vs G' H' ds x r q => ⟨by rw [r.length]; exact q.1, fun p hp => ?_⟩
  exact k _ _ _ (.tup ds) (x.trans (upd_newG x.wf hp (fun ps q => nomatch q))) (rv_any trivial (.tup upd_same (r.mono (.upd_new (x.wf.none hp))))) q.2⟩
theorem fe_lst (h : FA X F es t er) : FE X F .f (.List es pos) (tLst t) (dLst er) := ⟨pe_lst h.pa, fun σ H G δ Q Q' s ev k => by
  refine h.sim σ H G δ _ _ s ev fun vs G' H' ds x r q => ⟨by rw [r.length]; exact q.1, fun p hp => ?_⟩
  exact k _ _ _ (.lst ds) (x.trans (upd_new x.wf hp (fun ps q => nomatch q))) ⟨p, vs, rfl, upd_same, x.dn _ hp, x.wf.none hp, r⟩ q.2⟩

/-! ### calls of built-ins -/
/-- a built-in's call, of data -/
def SimC (F : Fx) (m : Md) (r : List V → Hp → VK → Prop) (ev : List D → (D → Prop) → Prop) : Prop := ∀ (vs : List V) (ds : List D) (G H : Hp) (Q : D → Prop) (Q' : VK), Wf G H → RTs G H vs ds → ev ds Q →
  (∀ v G' H' d, Ext F.T G H G' H' → RV F m H G' H' v d → Q d → Q' v H') → r vs H Q'
def dCall (ev : List D → (D → Prop) → Prop) (er : DA) : DE := fun δ Q => er δ fun ds => ev ds Q
theorem sim_cb {r : List V → Hp → VK → Prop} {ev : List D → (D → Prop) → Prop} (hr : SimC F m r ev) (h : SimB F t er) : Sim F m (tCB r t) (dCall ev er) := fun σ H G δ Q Q' s e k => by
  refine h σ H G δ _ _ s e fun vs G' H' ds x rs q => ?_
  exact hr vs ds G' H' Q Q' x.wf rs q fun v G2 H2 d x2 r2 q2 => k _ _ _ _ (x.trans x2) (r2.lift x) q2
structure DC (X : Cx) (F : Fx) (m : Md) (f : Value) (r : List V → Hp → VK → Prop) (ev : List D → (D → Prop) → Prop) : Prop where
  op : CallR X f r
  sim : SimC F m r ev
theorem fe_callB {x : Str} {id : String} {r : List V → Hp → VK → Prop} {ev : List D → (D → Prop) → Prop} (hc : DC X F m (.builtin id) r ev) (hm : X.mg x = none) (hb : FB X F (e :: es) t er) (hv : bootBuiltins x = some (.builtin id) := by decide +kernel) (hg : Gl X x := by rfl) (hn : x ≠ "__name__" := by decide) (hdb : (x == ("__debug__" : Str)) = false := by decide)
    (he : starEach (e :: es) X.env = (false, eval e X.env) :: starEach es X.env := by rfl) (hpl : (backTo pos (starEach es X.env)).any (·.1) = false := by rfl) : FE X F m (.Call (.Name x p) (e :: es) [] pos) (tCB r t) (dCall ev er) :=
  ⟨pe_callB hc.op hg hm hv hb.pa hn hdb he hpl, sim_cb hc.sim hb.sim⟩
theorem fe_callTy {x : Str} {T : String} {r : List V → Hp → VK → Prop} {ev : List D → (D → Prop) → Prop} (hc : DC X F m (.type T) r ev) (hm : X.mg x = none) (hb : FB X F (e :: es) t er) (hv : bootBuiltins x = some (.type T) := by decide +kernel) (hg : Gl X x := by rfl) (hn : x ≠ "__name__" := by decide) (hdb : (x == ("__debug__" : Str)) = false := by decide)
    (he : starEach (e :: es) X.env = (false, eval e X.env) :: starEach es X.env := by rfl) (hpl : (backTo pos (starEach es X.env)).any (·.1) = false := by rfl) : FE X F m (.Call (.Name x p) (e :: es) [] pos) (tCB r t) (dCall ev er) :=
  ⟨pe_callTy hc.op hg hm hv hb.pa hn hdb he hpl, sim_cb hc.sim hb.sim⟩
theorem rts1 {G H : Hp} {vs : List V} {d : D} (h : RTs G H vs [d]) : ∃ v, vs = [v] ∧ RT G H v d := by
  match vs, h with
  | [v], h => exact ⟨v, rfl, h.1⟩
  | [], h => exact h.elim
  | _ :: _ :: _, h => exact h.2.elim
theorem rts2 {G H : Hp} {vs : List V} {d e : D} (h : RTs G H vs [d, e]) : ∃ v u, vs = [v, u] ∧ RT G H v d ∧ RT G H u e := by
  match vs, h with
  | [v, u], h => exact ⟨v, u, rfl, h.1, h.2.1⟩
  | [], h => exact h.elim
  | [_], h => exact h.2.elim
  | _ :: _ :: _ :: _, h => exact h.2.2.elim
def dAbs : List D → (D → Prop) → Prop := fun ds Q => as1 ds fun x => asI x fun i => Q (.int i.natAbs)
theorem dc_abs : DC X F m (.builtin "abs") (fun xs H Q => ∃ i, xs = [.int i] ∧ Q (.int (if i < 0 then -i else i)) H) dAbs := ⟨call_abs, fun vs ds G H Q Q' w rs e k => by
  have zz := e.out; clear e; obtain ⟨x, rfl, e⟩ := zz
  have zz := e.out; clear e; obtain ⟨i, rfl, q⟩ := zz
  have ei : ((i.natAbs : Nat) : Int) = if i < 0 then -i else i := by split <;> omega
  rw [ei] at q
  obtain ⟨v, rfl, r⟩ := rts1 rs
  cases (show Rep G v (.int i) from r)
  exact ⟨i, rfl, k _ _ _ (.int _) (.refl w) (rv_any trivial (.int _)) q⟩⟩
/-- int(x) -/
def dInt : List D → (D → Prop) → Prop := fun ds Q => as1 ds fun x => match x with | .int i => Q (.int i) | .bl b => Q (.int (if b then 1 else 0)) | _ => False
theorem dInt.out {ds : List D} {Q : D → Prop} (h : dInt ds Q) : (∃ i, ds = [.int i] ∧ Q (.int i)) ∨ ∃ b, ds = [.bl b] ∧ Q (.int (if b then 1 else 0)) := by
  have zz := as1.out h; clear h; obtain ⟨x, rfl, e⟩ := zz
  cases x <;> first | exact .inl ⟨_, rfl, e⟩ | exact .inr ⟨_, rfl, e⟩ | exact e.elim
theorem dc_int : DC X F m (.type "int") (fun xs H Q => (∃ i, xs = [.int i] ∧ Q (.int i) H) ∨ ∃ k, xs = [.bl k] ∧ Q (.int (if k then 1 else 0)) H) dInt := ⟨call_int1, fun vs ds G H Q Q' w rs e k => by
  rcases dInt.out e with ⟨i, rfl, q⟩ | ⟨b, rfl, q⟩
  · obtain ⟨v, rfl, r⟩ := rts1 rs
    cases (show Rep G v (.int i) from r)
    exact .inl ⟨i, rfl, k _ _ _ (.int _) (.refl w) (rv_any trivial (.int _)) q⟩
  · obtain ⟨v, rfl, r⟩ := rts1 rs
    cases (show Rep G v (.bl b) from r)
    exact .inr ⟨b, rfl, k _ _ _ (.int _) (.refl w) (rv_any trivial (.int _)) q⟩⟩
/-- len -/
def lenD : D → Option Nat
  | .lst ds => some ds.length
  | .tup ds => some ds.length
  | .str x => some x.length
  | _ => none
def dLen : List D → (D → Prop) → Prop := fun ds Q => as1 ds fun x => match x with | .lst xs => Q (.int xs.length) | .tup xs => Q (.int xs.length) | .str z => z.length ≤ sizeLine ∧ Q (.int z.length) | _ => False
theorem dLen.out {ds : List D} {Q : D → Prop} (h : dLen ds Q) : ∃ d n, ds = [d] ∧ lenD d = some n ∧ (∀ x, d = .str x → x.length ≤ sizeLine) ∧ Q (.int n) := by
  have zz := as1.out h; clear h; obtain ⟨x, rfl, e⟩ := zz
  cases x <;> first | exact ⟨_, _, rfl, rfl, (fun _ q => nomatch q), e⟩ | exact ⟨_, _, rfl, rfl, (fun _ q => by cases q; exact e.1), e.2⟩ | exact e.elim
theorem dc_len : DC X F m (.builtin "len") (fun xs H Q => ∃ x n, xs = [x] ∧ LenV X.K x H n ∧ Q (.int n) H) dLen := ⟨call_len, fun vs ds G H Q Q' w rs e k => by
  have zz := dLen.out e; clear e; obtain ⟨d, n, rfl, hn, hs, q⟩ := zz
  obtain ⟨v, rfl, r⟩ := rts1 rs
  refine ⟨v, n, rfl, ?_, k _ _ _ (.int _) (.refl w) (rv_any trivial (.int _)) q⟩
  cases d with
  | lst ds =>
    obtain ⟨a, us, rfl, h1, h2⟩ := r
    cases hn
    exact .inl ⟨us, .of h1, h2.length.symm⟩
  | tup ds =>
    cases hn
    cases (show Rep G v (.tup ds) from r) with
    | tup h1 h2 => exact .inr ⟨_, .of (w.gh _ _ h1), h2.length.symm⟩
  | str x => cases hn; cases (show Rep G v (.str x) from r); exact ⟨hs x rfl, rfl⟩
  | _ => cases hn⟩
/-- tuple(x), list(x) -/
theorem dc_lenK {K : Frag} (hK : X.K = K) : DC X F m (.builtin "len") (fun xs H Q => ∃ x n, xs = [x] ∧ LenV K x H n ∧ Q (.int n) H) dLen := by subst hK; exact dc_len 
def dTupOf : List D → (D → Prop) → Prop := fun ds Q => as1 ds fun x => asL x fun xs => Q (.tup xs)
theorem dc_tuple : DC X F m (.type "tuple") (fun xs H Q => ∃ p ys, xs = [.ref p] ∧ ((SqL X.K H p ys ∧ ∀ l, H l = none → Q (.ref l) (upd H l (.tup ys))) ∨ (SqT X.K H p ys ∧ Q (.ref p) H))) dTupOf := ⟨call_tuple_of, fun vs ds G H Q Q' w rs e k => by
  have zz := e.out; clear e; obtain ⟨x, rfl, e⟩ := zz
  have zz := e.out; clear e; obtain ⟨xs, e, q⟩ := zz
  rcases e with rfl | rfl
  · obtain ⟨v, rfl, a, us, rfl, h1, h2⟩ := rts1 rs
    exact ⟨a, us, rfl, .inl ⟨.of h1, fun p hp => k _ _ _ (.tup xs) (upd_newG w hp (fun ps q => nomatch q)) (rv_any trivial (.tup upd_same (h2.mono (.upd_new (w.none hp))))) q⟩⟩
  · obtain ⟨v, rfl, r⟩ := rts1 rs
    cases (show Rep G v (.tup xs) from r) with
    | tup h1 h2 => exact ⟨_, _, rfl, .inr ⟨.of (w.gh _ _ h1), k _ _ _ (.tup xs) (.refl w) (rv_any trivial (.tup h1 h2)) q⟩⟩⟩
theorem dc_tupleK {K : Frag} (hK : X.K = K) : DC X F m (.type "tuple") (fun xs H Q => ∃ p ys, xs = [.ref p] ∧ ((SqL K H p ys ∧ ∀ l, H l = none → Q (.ref l) (upd H l (.tup ys))) ∨ (SqT K H p ys ∧ Q (.ref p) H))) dTupOf := by subst hK; exact dc_tuple 
def dLstOf : List D → (D → Prop) → Prop := fun ds Q => as1 ds fun x => asL x fun xs => Q (.lst xs)
theorem dc_list : DC X F .f (.type "list") (fun xs H Q => ∃ p ys, xs = [.ref p] ∧ (SqL X.K H p ys ∨ SqT X.K H p ys) ∧ ∀ l, H l = none → Q (.ref l) (upd H l (.lst ys))) dLstOf := ⟨call_list_of, fun vs ds G H Q Q' w rs e k => by
  have zz := e.out; clear e; obtain ⟨x, rfl, e⟩ := zz
  have zz := e.out; clear e; obtain ⟨xs, e, q⟩ := zz
  rcases e with rfl | rfl
  · obtain ⟨v, rfl, a, us, rfl, h1, h2⟩ := rts1 rs
    exact ⟨a, us, rfl, .inl (.of h1), fun p hp => k _ _ _ (.lst xs) (upd_new w hp (fun ps q => nomatch q)) ⟨p, _, rfl, upd_same, hp, w.none hp, h2⟩ q⟩
  · obtain ⟨v, rfl, r⟩ := rts1 rs
    cases (show Rep G v (.tup xs) from r) with
    | tup h1 h2 => exact ⟨_, _, rfl, .inr (.of (w.gh _ _ h1)), fun p hp => k _ _ _ (.lst xs) (upd_new w hp (fun ps q => nomatch q)) ⟨p, _, rfl, upd_same, hp, w.none hp, h2⟩ q⟩⟩
/-- sum, min, max of ints; all, any of bools -/
theorem dc_listK {K : Frag} (hK : X.K = K) : DC X F .f (.type "list") (fun xs H Q => ∃ p ys, xs = [.ref p] ∧ (SqL K H p ys ∨ SqT K H p ys) ∧ ∀ l, H l = none → Q (.ref l) (upd H l (.lst ys))) dLstOf := by subst hK; exact dc_list 
def dSum : List D → (D → Prop) → Prop := fun ds Q => ∃ ns : List Int, ds = [.lst (ns.map D.int)] ∧ Q (.int ns.sum)
theorem dc_sum (hc : X.calm = true) : DC X F m (.builtin "sum") (rSum X.K) dSum := ⟨cr_sum hc, fun vs ds G H Q Q' w rs e k => by
  obtain ⟨ns, rfl, q⟩ := e
  obtain ⟨v, rfl, a, us, rfl, h1, h2⟩ := rts1 rs
  rw [h2.of_ints] at h1
  exact ⟨a, ns, rfl, .of h1, k _ _ _ (.int _) (.refl w) (rv_any trivial (.int _)) q⟩⟩
theorem dc_sumK {K : Frag} (hK : X.K = K) (hc : X.calm = true) : DC X F m (.builtin "sum") (rSum K) dSum := by subst hK; exact dc_sum hc
def dMin : List D → (D → Prop) → Prop := fun ds Q => ∃ ns : List Int, ds = [.lst (ns.map D.int)] ∧ 0 < ns.length ∧ ∀ z, z ∈ ns → (∀ y, y ∈ ns → z ≤ y) → Q (.int z)
theorem dc_min (hc : X.calm = true) : DC X F m (.builtin "min") (rMin X.K) dMin := ⟨cr_min hc, fun vs ds G H Q Q' w rs e k => by
  obtain ⟨ns, rfl, hz, q⟩ := e
  obtain ⟨v, rfl, a, us, rfl, h1, h2⟩ := rts1 rs
  rw [h2.of_ints] at h1
  exact ⟨a, ns, rfl, .of h1, hz, fun z z1 z2 => k _ _ _ (.int _) (.refl w) (rv_any trivial (.int _)) (q z z1 z2)⟩⟩
theorem dc_minK {K : Frag} (hK : X.K = K) (hc : X.calm = true) : DC X F m (.builtin "min") (rMin K) dMin := by subst hK; exact dc_min hc
def dAll : List D → (D → Prop) → Prop := fun ds Q => ∃ bs : List Bool, ds = [.lst (bs.map D.bl)] ∧ Q (.bl (bs.all id))
theorem dc_all (hc : X.calm = true) : DC X F m (.builtin "all") (rAll X.K) dAll := ⟨cr_all hc, fun vs ds G H Q Q' w rs e k => by
  obtain ⟨ns, rfl, q⟩ := e
  obtain ⟨v, rfl, a, us, rfl, h1, h2⟩ := rts1 rs
  rw [h2.of_bls] at h1
  exact ⟨a, ns, rfl, .of h1, k _ _ _ (.bl _) (.refl w) (rv_any trivial (.bl _)) q⟩⟩
theorem dc_allK {K : Frag} (hK : X.K = K) (hc : X.calm = true) : DC X F m (.builtin "all") (rAll K) dAll := by subst hK; exact dc_all hc
end
end DW

namespace DW
open PySem L2

/-! ### isinstance by built-in classes -/
def typeD : D → Option String
  | .non => some "NoneType"
  | .bl _ => some "bool"
  | .int _ => some "int"
  | .str _ => some "str"
  | .tup _ => some "tuple"
  | .lst _ => some "list"
  | _ => none
def isiB (t T : String) : Bool := t == T || (t == "bool" && T == "int")
/-- the classes that are asked of -/
def clsAsk (T : String) : Bool := T == "int" || T == "bool" || T == "str" || T == "list" || T == "tuple"
theorem clsAsk_mem {T : String} (h : clsAsk T = true) : T = "int" ∨ T = "bool" ∨ T = "str" ∨ T = "list" ∨ T = "tuple" := by
  unfold clsAsk at h
  simp only [Bool.or_eq_true, beq_iff_eq] at h
  rcases h with (((h | h) | h) | h) | h <;> simp [h]
theorem typeD_mem {d : D} {t : String} (h : typeD d = some t) : t = "NoneType" ∨ t = "bool" ∨ t = "int" ∨ t = "str" ∨ t = "tuple" ∨ t = "list" := by
  cases d <;> simp only [typeD, Option.some.injEq, reduceCtorEq] at h <;> simp [← h]
theorem kit_dt {K : Frag} {d : D} {t T : String} (h : typeD d = some t) (hT : clsAsk T = true) : PySem.W.kitOne K (.type t) (.type T) = some (isiB t T) := by
  refine kit_ty ?_
  rcases typeD_mem h with rfl | rfl | rfl | rfl | rfl | rfl <;> rcases clsAsk_mem hT with rfl | rfl | rfl | rfl | rfl <;> decide +kernel
theorem RT.ty {K : Frag} {G H : Hp} (w : Wf G H) {v : V} {d : D} {t : String} (r : RT G H v d) (h : typeD d = some t) : TyX K H v (.type t) := by
  cases d with
  | lst ds => cases h; obtain ⟨a, vs, rfl, h1, _⟩ := r; exact .base (.lst h1)
  | non => cases h; cases r; exact .base .non
  | bl b => cases h; cases r; exact .base (.bl b)
  | int b => cases h; cases r; exact .base (.int b)
  | str b => cases h; cases r; exact .base (.str b)
  | tup ds => cases h; cases r with | tup h1 _ => exact .base (.tup (w.gh _ _ h1))
  | _ => cases h
def tysOf : List D → Option (List String)
  | [] => some []
  | .ty T :: ds => match tysOf ds with | some Ts => some (T :: Ts) | none => none
  | _ => none
theorem tysOf_eq : ∀ {ds : List D} {Ts : List String}, tysOf ds = some Ts → ds = Ts.map D.ty
  | [], Ts, h => by cases h; rfl
  | .ty T :: ds, Ts, h => by
    unfold tysOf at h
    split at h
    · rename_i Us e
      cases h
      rw [List.map_cons, tysOf_eq e]
    · cases h
  | .non :: _, _, h => by cases h
  | .bl _ :: _, _, h => by cases h
  | .int _ :: _, _, h => by cases h
  | .str _ :: _, _, h => by cases h
  | .tup _ :: _, _, h => by cases h
  | .lst _ :: _, _, h => by cases h
  | .bag :: _, _, h => by cases h
  | .obj _ _ :: _, _, h => by cases h
  | .cl _ :: _, _, h => by cases h
  | .fz _ _ :: _, _, h => by cases h
def dIsi : List D → (D → Prop) → Prop := fun ds Q => as2 ds fun d y => asO (typeD d) fun t => match y with
  | .ty T => clsAsk T = true ∧ Q (.bl (isiB t T))
  | .tup us => asO (tysOf us) fun Ts => Ts.all clsAsk = true ∧ Q (.bl (Ts.any (isiB t)))
  | _ => False
theorem dIsi.out {ds : List D} {Q : D → Prop} (h : dIsi ds Q) : ∃ d t, typeD d = some t ∧
  ((∃ T, ds = [d, .ty T] ∧ clsAsk T = true ∧ Q (.bl (isiB t T))) ∨ (∃ Ts : List String, ds = [d, .tup (Ts.map D.ty)] ∧ Ts.all clsAsk = true ∧ Q (.bl (Ts.any (isiB t))))) := by
  have zz := as2.out h; clear h; obtain ⟨d, y, rfl, h⟩ := zz
  have zz := asO.out h; clear h; obtain ⟨t, ht, h⟩ := zz
  refine ⟨d, t, ht, ?_⟩
  cases y with
  | ty T => exact .inl ⟨T, rfl, h.1, h.2⟩
  | tup us =>
    have zz := asO.out h; clear h; obtain ⟨Ts, h1, h2⟩ := zz
    exact .inr ⟨Ts, by rw [tysOf_eq h1], h2.1, h2.2⟩
  | _ => exact h.elim
theorem Reps.of_tys {G : Hp} : ∀ {vs : List V} {ns : List String}, Reps G vs (ns.map D.ty) → vs = ns.map V.ty
  | _, [], r => by cases r; rfl
  | _, n :: ns, r => by
    cases r with
    | cons h r => cases h; rw [Reps.of_tys r]; rfl
theorem kitAny_tys {K : Frag} {d : D} {t : String} (h : typeD d = some t) : ∀ {Ts : List String}, Ts.all clsAsk = true → PySem.W.kitAny K (.type t) (Ts.map Value.type) = some (Ts.any (isiB t))
  | [], _ => rfl
  | T :: Ts, ha => by
    rw [List.all_cons, Bool.and_eq_true] at ha
    rw [List.map_cons, List.any_cons]
    refine kitAny_cons (kit_dt h ha.1) (fun e => ?_) (fun e => by rw [e]; rfl)
    rw [e, Bool.false_or]
    exact kitAny_tys h ha.2
theorem paired_tys : ∀ Ts : List String, Paired ClsV (Ts.map V.ty) (Ts.map Value.type)
  | [] => .nil
  | T :: Ts => .cons (.ty T) (paired_tys Ts)
section
variable {X : Cx} {F : Fx} {m : Md}
def rIsiAll (K : Frag) : List V → Hp → VK → Prop := fun xs H Q => rIsi K xs H Q ∨ rIsiT K xs H Q
theorem dc_isi : DC X F m (.builtin "isinstance") (rIsiAll X.K) dIsi := ⟨call_isi.or call_isiT, fun vs ds G H Q Q' w rs e k => by
  have zz := dIsi.out e; clear e; obtain ⟨d, t, ht, e⟩ := zz
  rcases e with ⟨T, rfl, hT, q⟩ | ⟨Ts, rfl, hT, q⟩
  · obtain ⟨v, u, rfl, r1, r2⟩ := rts2 rs
    cases (show Rep G u (.ty T) from r2)
    exact .inl ⟨v, _, _, _, _, rfl, .ty T, r1.ty w ht, kit_dt ht hT, k _ _ _ (.bl _) (.refl w) (rv_any trivial (.bl _)) q⟩
  · obtain ⟨v, u, rfl, r1, r2⟩ := rts2 rs
    cases (show Rep G u (.tup (Ts.map D.ty)) from r2) with
    | tup h1 h2 =>
      rw [h2.of_tys] at h1
      exact .inr ⟨v, _, _, _, _, _, rfl, w.gh _ _ h1, paired_tys Ts, r1.ty w ht, kitAny_tys ht hT, k _ _ _ (.bl _) (.refl w) (rv_any trivial (.bl _)) q⟩⟩
/-- the name of a built-in class as a value -/
theorem dc_isiK {K : Frag} (hK : X.K = K) : DC X F m (.builtin "isinstance") (rIsiAll K) dIsi := by subst hK; exact dc_isi 
theorem fe_ty {x : Str} {T : String} {pos : Pos} (hm : X.mg x = none) (hv : bootBuiltins x = some (.type T) := by decide +kernel) (hg : Gl X x := by rfl) (hn : x ≠ "__name__" := by decide) (hd : (x == ("__debug__" : Str)) = false := by decide) :
    FE X F m (.Name x pos) (tC (.ty T)) (dC (.ty T)) := ⟨pe_bltn hg hm hv rfl hn hd, sim_c (fun _ => .ty T) trivial⟩
end

/-! ### what a def promises, of data -/
abbrev DSp := List D → (D → Prop) → (Exc → Prop) → Prop
/-- how a result lies for the caller -/
def RR (fr : Bool) (H0 G H : Hp) (v : V) : D → Prop
  | .lst ds => if fr = true then ∃ a vs, v = .ref a ∧ H a = some (.lst vs) ∧ H0 a = none ∧ G a = none ∧ Reps G vs ds else Rep G v (.lst ds)
  | d => Rep G v d
def ExcTo (T : Tbs) (G H : Hp) (EX : Exc → Prop) (E : XK) : Prop := ∀ (x : Exc) (G' H' : Hp) (dd : Addr) (fs : List (Str × V)), Ext T G H G' H' → H' dd = some (.xd fs) → RepF G' fs x.fs → EX x → E (.ref x.cls) (some dd) H'
def lift (T : Tbs) (fr : Bool) (sp : DSp) : Sp := fun vs H Q E => ∃ (G : Hp) (ds : List D) (QD : D → Prop) (EX : Exc → Prop), Wf G H ∧ LamX.Tabs T H ∧ RTs G H vs ds ∧ sp ds QD EX ∧
  (∀ v G' H' d, Ext T G H G' H' → RR fr H G' H' v d → QD d → Q v H') ∧ ExcTo T G H EX E
def Md.of (fr : Bool) : Md := if fr = true then .f else .g
theorem RR.rv {F : Fx} {fr : Bool} {H0 G H : Hp} {v : V} {d : D} (r : RR fr H0 G H v d) : RV F (.of fr) H0 G H v d := by
  cases fr with
  | true => cases d <;> exact r
  | false => cases d <;> exact r
theorem RV.rr {F : Fx} {fr : Bool} {H0 G H : Hp} {v : V} {d : D} (r : RV F (.of fr) H0 G H v d) : RR fr H0 G H v d := by
  cases fr with
  | true => cases d <;> exact r
  | false => cases d <;> exact r
section
variable {X : Cx} {F : Fx}
/-- what the body of a def knows of its wish about exceptions -/
def Fx.exc (F : Fx) : Prop := ExcTo F.T F.G0 F.H0 F.EX F.E
theorem lift_to {fr : Bool} {sp : DSp} {G H : Hp} {σ : St} {δ : DEnv} {vs : List V} {ds : List D} {Q : D → Prop} {Q' : VK} (he : F.exc) (s : SRep F G H σ δ) (rs : RTs G H vs ds) (q : sp ds Q F.EX)
    (k : ∀ v G' H' d, Ext F.T G H G' H' → RV F (.of fr) H G' H' v d → Q d → Q' v H') : lift F.T fr sp vs H Q' F.E :=
  ⟨G, ds, Q, F.EX, s.wf, s.tabs, rs, q, fun v G' H' d x r q => k v G' H' d x r.rv q, fun x G' H' dd fs e h1 h2 h3 => he x G' H' dd fs (s.ext.trans e) h1 h2 h3⟩
/-- a def of the module, as a caller sees it -/
structure FnG (P : Program) (w : World) (K : Frag) (mg : Str → Option Value) (base : Heap) (T : Tbs) (x : Str) (k : Nat) (f : Addr) (fd : FuncData) (ps : List Str) (fr : Bool) (sp : DSp) : Prop where
  ok : FnOk P w K mg base (L2.CX P w) k f fd ps (lift T fr sp)
  mg : mg x = some (.ref f)
  kp : PySem.W.keepIn K (.ref f) = true
  bd : Binds K fd ps []
variable {e : Expr} {es : List Expr} {t : TA} {er : DA} {pos p : Pos}
def dCallF (sp : DSp) (EX : Exc → Prop) (dds : List D) (er : DA) : DE := fun δ Q => er δ fun ds => sp (ds ++ dds) Q EX
theorem sim_call {fr : Bool} {sp : DSp} {dvs : List V} {dds : List D} (he : F.exc) (hd : ∀ G H, RTs G H dvs dds) (h : SimB F t er) : Sim F (.of fr) (tCall (lift F.T fr sp) dvs F.E t) (dCallF sp F.EX dds er) := fun σ H G δ Q Q' s e k => by
  refine h σ H G δ _ _ s e fun vs G' H' ds x rs q => ?_
  exact lift_to he (s.to x) (rs.append (hd _ _)) q fun v G2 H2 d x2 r2 q2 => k _ _ _ _ (x.trans x2) (r2.lift x) q2
theorem fe_call {x : Str} {k : Nat} {f : Addr} {fd : FuncData} {ps : List Str} {fr : Bool} {sp : DSp} (D0 : FnG X.prog X.w X.K X.mg X.base F.T x k f fd ps fr sp) (he : F.exc) (hr : Room k X.A) (hx : Passes (L2.CX X.prog X.w) X F.E)
    (ha : FB X F (e :: es) t er) (hg : Gl X x := by rfl) (hdb : (x == ("__debug__" : Str)) = false := by decide) (hse : starEach (e :: es) X.env = (false, eval e X.env) :: starEach es X.env := by rfl) (hpl : (backTo pos (starEach es X.env)).any (·.1) = false := by rfl) :
    FE X F (.of fr) (.Call (.Name x p) (e :: es) [] pos) (tCall (lift F.T fr sp) [] F.E t) (dCallF sp F.EX [] er) := ⟨pe_call D0.ok hr hg D0.mg D0.kp D0.bd .nil hx ha.pa hdb hse hpl, sim_call he (fun _ _ => trivial) ha.sim⟩
/-- .. the last parameters by their defaults -/
theorem fe_callD {x : Str} {k : Nat} {f : Addr} {fd : FuncData} {ps : List Str} {fr : Bool} {sp : DSp} {dvs : List V} {us : List Value} {dds : List D} (D0 : FnG X.prog X.w X.K X.mg X.base F.T x k f fd ps fr sp) (he : F.exc) (hr : Room k X.A) (hx : Passes (L2.CX X.prog X.w) X F.E) (hb : Binds X.K fd ps us) (hv : Vals dvs us) (hd : ∀ G H, RTs G H dvs dds)
    (ha : FB X F (e :: es) t er) (hg : Gl X x := by rfl) (hdb : (x == ("__debug__" : Str)) = false := by decide) (hse : starEach (e :: es) X.env = (false, eval e X.env) :: starEach es X.env := by rfl) (hpl : (backTo pos (starEach es X.env)).any (·.1) = false := by rfl) :
    FE X F (.of fr) (.Call (.Name x p) (e :: es) [] pos) (tCall (lift F.T fr sp) dvs F.E t) (dCallF sp F.EX dds er) := ⟨pe_call D0.ok hr hg D0.mg D0.kp hb hv hx ha.pa hdb hse hpl, sim_call he hd ha.sim⟩
theorem fe_callG {x : Str} {k : Nat} {f : Addr} {fd : FuncData} {ps : List Str} {sp : DSp} (D0 : FnG X.prog X.w X.K X.mg X.base F.T x k f fd ps false sp) (he : F.exc) (hr : Room k X.A) (hx : Passes (L2.CX X.prog X.w) X F.E)
    (ha : FB X F (e :: es) t er) (hg : Gl X x := by rfl) (hdb : (x == ("__debug__" : Str)) = false := by decide) (hse : starEach (e :: es) X.env = (false, eval e X.env) :: starEach es X.env := by rfl) (hpl : (backTo pos (starEach es X.env)).any (·.1) = false := by rfl) :
    FE X F .g (.Call (.Name x p) (e :: es) [] pos) (tCall (lift F.T false sp) [] F.E t) (dCallF sp F.EX [] er) :=
  fe_call D0 he hr hx ha hg hdb hse hpl
theorem fe_callF {x : Str} {k : Nat} {f : Addr} {fd : FuncData} {ps : List Str} {sp : DSp} (D0 : FnG X.prog X.w X.K X.mg X.base F.T x k f fd ps true sp) (he : F.exc) (hr : Room k X.A) (hx : Passes (L2.CX X.prog X.w) X F.E)
    (ha : FB X F (e :: es) t er) (hg : Gl X x := by rfl) (hdb : (x == ("__debug__" : Str)) = false := by decide) (hse : starEach (e :: es) X.env = (false, eval e X.env) :: starEach es X.env := by rfl) (hpl : (backTo pos (starEach es X.env)).any (·.1) = false := by rfl) :
    FE X F .f (.Call (.Name x p) (e :: es) [] pos) (tCall (lift F.T true sp) [] F.E t) (dCallF sp F.EX [] er) :=
  fe_call D0 he hr hx ha hg hdb hse hpl
theorem fe_callDG {x : Str} {k : Nat} {f : Addr} {fd : FuncData} {ps : List Str} {sp : DSp} {dvs : List V} {us : List Value} {dds : List D} (D0 : FnG X.prog X.w X.K X.mg X.base F.T x k f fd ps false sp) (he : F.exc) (hr : Room k X.A) (hx : Passes (L2.CX X.prog X.w) X F.E) (hb : Binds X.K fd ps us) (hv : Vals dvs us) (hd : ∀ G H, RTs G H dvs dds)
    (ha : FB X F (e :: es) t er) (hg : Gl X x := by rfl) (hdb : (x == ("__debug__" : Str)) = false := by decide) (hse : starEach (e :: es) X.env = (false, eval e X.env) :: starEach es X.env := by rfl) (hpl : (backTo pos (starEach es X.env)).any (·.1) = false := by rfl) :
    FE X F .g (.Call (.Name x p) (e :: es) [] pos) (tCall (lift F.T false sp) dvs F.E t) (dCallF sp F.EX dds er) :=
  fe_callD D0 he hr hx hb hv hd ha hg hdb hse hpl
theorem fe_callDF {x : Str} {k : Nat} {f : Addr} {fd : FuncData} {ps : List Str} {sp : DSp} {dvs : List V} {us : List Value} {dds : List D} (D0 : FnG X.prog X.w X.K X.mg X.base F.T x k f fd ps true sp) (he : F.exc) (hr : Room k X.A) (hx : Passes (L2.CX X.prog X.w) X F.E) (hb : Binds X.K fd ps us) (hv : Vals dvs us) (hd : ∀ G H, RTs G H dvs dds)
    (ha : FB X F (e :: es) t er) (hg : Gl X x := by rfl) (hdb : (x == ("__debug__" : Str)) = false := by decide) (hse : starEach (e :: es) X.env = (false, eval e X.env) :: starEach es X.env := by rfl) (hpl : (backTo pos (starEach es X.env)).any (·.1) = false := by rfl) :
    FE X F .f (.Call (.Name x p) (e :: es) [] pos) (tCall (lift F.T true sp) dvs F.E t) (dCallF sp F.EX dds er) :=
  fe_callD D0 he hr hx hb hv hd ha hg hdb hse hpl
end
end DW

namespace DW
open PySem L2

/-- what is wanted behind a statement, of data -/
structure DEnds where
  nx : DEnv → Prop
  rt : D → Prop
  bk : DEnv → Prop
  ct : DEnv → Prop
abbrev DS := DEnds → DEnv → Prop
structure EndsOk (F : Fx) (Gf : Hp) (Dd : DEnds) (De : Ends) : Prop where
  nx : ∀ σ H G δ, SRep F G H σ δ → Sub Gf G → Dd.nx δ → De.nx σ H
  rt : ∀ v H G d, Ext F.T F.G0 F.H0 G H → RR F.fr F.H0 G H v d → Dd.rt d → De.rt v H
  bk : ∀ σ H G δ, SRep F G H σ δ → Sub Gf G → Dd.bk δ → De.bk σ H
  ct : ∀ σ H G δ, SRep F G H σ δ → Sub Gf G → Dd.ct δ → De.ct σ H
def SimS (F : Fx) (t : TS) (ev : DS) : Prop := ∀ (σ : St) (H G Gf : Hp) (δ : DEnv) (Dd : DEnds) (De : Ends), SRep F G H σ δ → Sub Gf G → EndsOk F Gf Dd De → ev Dd δ → t De σ H
structure FS (X : Cx) (F : Fx) (st : Stmt) (t : TS) (ev : DS) : Prop where
  ps : PS X st t
  sim : SimS F t ev
structure FSs (X : Cx) (F : Fx) (st : List Stmt) (t : TS) (ev : DS) : Prop where
  ps : PSs X st t
  sim : SimS F t ev

theorem tabs_keep {T : Tbs} {H : Hp} {a : Addr} {vs vs' : List V} (t : LamX.Tabs T H) (h : H a = some (.lst vs)) : LamX.Tabs T (upd H a (.lst vs')) := fun p hp => by
  obtain ⟨ps, h1, h2, h3⟩ := t p hp
  refine ⟨ps, ?_, h2, fun pos cv hc => ?_⟩
  · rw [upd_ne]
    · exact h1
    · intro z; rw [z, h] at h1; cases h1
  · obtain ⟨c, e1, e2⟩ := h3 pos cv hc
    refine ⟨c, e1, ?_⟩
    rw [upd_ne]
    · exact e2
    · intro z; rw [z, h] at e2; cases e2
/-! ### slots -/
theorem set_get {α : Type} {l : List α} {i j : Nat} {x y : α} (h : (l.set i x)[j]? = some y) : (i = j ∧ y = x ∧ i < l.length) ∨ (i ≠ j ∧ l[j]? = some y) := by
  by_cases e : i = j
  · subst e
    rw [List.getElem?_set] at h
    simp only [if_true] at h
    split at h
    · exact .inl ⟨rfl, (Option.some.inj h).symm, by assumption⟩
    · cases h
  · rw [List.getElem?_set_ne e] at h
    exact .inr ⟨e, h⟩
theorem SRep.setS {F : Fx} {G H : Hp} {σ : St} {δ : DEnv} {v : V} {d : D} (i : Nat) (s : SRep F G H σ δ) (r : Rep G v d) : SRep F G H (σ.set i (some v)) (δ.set i (some (.sh d))) where
  len := by rw [List.length_set, List.length_set]; exact s.len
  ext := s.ext
  slot := fun j sv h => by
    rcases set_get h with ⟨rfl, e, hl⟩ | ⟨ne, h⟩
    · cases e
      exact ⟨v, List.getElem?_set_self (by rw [s.len]; exact hl), r⟩
    · obtain ⟨u, h1, h2⟩ := s.slot j sv h
      exact ⟨u, by rw [List.getElem?_set_ne ne]; exact h1, h2⟩
  sep := fun j k ds es ne h1 h2 => by
    rcases set_get h1 with ⟨_, e, _⟩ | ⟨n1, h1⟩
    · cases e
    · rcases set_get h2 with ⟨_, e, _⟩ | ⟨n2, h2⟩
      · cases e
      · rw [List.getElem?_set_ne n1, List.getElem?_set_ne n2]
        exact s.sep j k ds es ne h1 h2
  tabs := s.tabs
/-- a list of one's own is put into a slot -/
theorem SRep.setO {F : Fx} {G H G' H' : Hp} {σ : St} {δ : DEnv} {a : Addr} {vs : List V} {ds : List D} (i : Nat) (s : SRep F G H σ δ) (e : Ext F.T G H G' H') (h1 : H' a = some (.lst vs)) (h2 : H a = none) (h3 : G' a = none) (r : Reps G' vs ds) :
    SRep F G' H' (σ.set i (some (.ref a))) (δ.set i (some (.ow ds))) where
  len := by rw [List.length_set, List.length_set]; exact s.len
  ext := s.ext.trans e
  slot := fun j sv h => by
    rcases set_get h with ⟨rfl, q, hl⟩ | ⟨ne, h⟩
    · cases q
      exact ⟨.ref a, List.getElem?_set_self (by rw [s.len]; exact hl), a, vs, rfl, h1, h3, s.ext.dn _ h2, r⟩
    · obtain ⟨u, q1, q2⟩ := s.slot j sv h
      exact ⟨u, by rw [List.getElem?_set_ne ne]; exact q1, q2.ext e⟩
  sep := fun j k xs es ne q1 q2 => by
    have away : ∀ (l : Nat) (zs : List D), δ[l]? = some (some (.ow zs)) → σ[l]? ≠ some (some (V.ref a)) := fun l zs hl z => by
      obtain ⟨u, w1, b, us, w2, w3, _⟩ := s.slot l _ hl
      rw [z] at w1
      cases w1
      cases w2
      rw [h2] at w3
      cases w3
    rcases set_get q1 with ⟨rfl, z, hl⟩ | ⟨n1, q1⟩
    · rcases set_get q2 with ⟨z2, _, _⟩ | ⟨n2, q2⟩
      · exact absurd z2 ne
      · rw [List.getElem?_set_self (by rw [s.len]; exact hl), List.getElem?_set_ne n2]
        exact fun z => away k es q2 z.symm
    · rcases set_get q2 with ⟨rfl, z, hl⟩ | ⟨n2, q2⟩
      · rw [List.getElem?_set_self (by rw [s.len]; exact hl), List.getElem?_set_ne n1]
        exact away j xs q1
      · rw [List.getElem?_set_ne n1, List.getElem?_set_ne n2]
        exact s.sep j k xs es ne q1 q2
  tabs := e.tb s.tabs
/-- a slot's list is changed in place -/
theorem SRep.upd {F : Fx} {G H : Hp} {σ : St} {δ : DEnv} {a : Addr} {vs vs' : List V} {ds ds' : List D} (i : Nat) (s : SRep F G H σ δ) (hd : δ[i]? = some (some (.ow ds))) (hv : σ[i]? = some (some (.ref a))) (h1 : H a = some (.lst vs)) (h2 : G a = none) (h3 : F.H0 a = none) (r : Reps G vs' ds') :
    SRep F G (upd H a (.lst vs')) σ (δ.set i (some (.ow ds'))) where
  len := by rw [List.length_set]; exact s.len
  ext := {
    hk := fun b o q n => by
      have : b ≠ a := fun z => by subst z; rw [h3] at q; cases q
      rw [upd_ne this]; exact s.ext.hk b o q n
    dn := fun b q => by
      by_cases z : b = a
      · rw [z]; exact h3
      · rw [upd_ne z] at q; exact s.ext.dn b q
    gs := s.ext.gs
    gh := fun b o q => by
      have : b ≠ a := fun z => by subst z; rw [h2] at q; cases q
      rw [upd_ne this]; exact s.ext.gh b o q
    gt := s.ext.gt
    gn := s.ext.gn
    tb := fun t => tabs_keep (s.ext.tb t) h1 }
  slot := fun j sv h => by
    rcases set_get h with ⟨rfl, q, hl⟩ | ⟨ne, h⟩
    · cases q
      exact ⟨.ref a, hv, a, vs', rfl, upd_same, h2, h3, r⟩
    · obtain ⟨u, q1, q2⟩ := s.slot j sv h
      refine ⟨u, q1, ?_⟩
      cases sv with
      | sh d => exact q2
      | bo es => exact q2
      | ow es =>
        obtain ⟨b, us, rfl, w2, w3, w4, w5⟩ := q2
        refine ⟨b, us, rfl, ?_, w3, w4, w5⟩
        rw [upd_ne]
        · exact w2
        · intro z
          subst z
          exact s.sep i j ds es ne hd h (hv.trans q1.symm)
  sep := fun j k xs es ne q1 q2 => by
    have own : ∀ (l : Nat) (zs : List D), (δ.set i (some (.ow ds')))[l]? = some (some (.ow zs)) → ∃ ws : List D, δ[l]? = some (some (.ow ws)) := fun l zs hl => by
      rcases set_get hl with ⟨rfl, z, _⟩ | ⟨_, hl⟩
      · exact ⟨ds, hd⟩
      · exact ⟨zs, hl⟩
    obtain ⟨w1, e1⟩ := own j xs q1
    obtain ⟨w2, e2⟩ := own k es q2
    exact s.sep j k w1 w2 ne e1 e2
  tabs := tabs_keep s.tabs h1
end DW

namespace DW
open PySem L2

def frzS : SV → SV
  | .ow ds => .sh (.lst ds)
  | s => s
def frz (δ : DEnv) : DEnv := δ.map (Option.map frzS)
theorem frz_get {δ : DEnv} {i : Nat} {s : SV} (h : (frz δ)[i]? = some (some s)) : ∃ s', δ[i]? = some (some s') ∧ s = frzS s' := by
  unfold frz at h
  rw [List.getElem?_map] at h
  cases e : δ[i]? with
  | none => rw [e] at h; cases h
  | some o =>
    rw [e] at h
    cases o with
    | none => cases h
    | some s' => exact ⟨s', rfl, (Option.some.inj (Option.some.inj h)).symm⟩
open Classical in
theorem SRep.freeze {F : Fx} {G H : Hp} {σ : St} {δ : DEnv} (s : SRep F G H σ δ) : ∃ G', Sub G G' ∧ SRep F G' H σ (frz δ) := by
  let own : Addr → Prop := fun a => ∃ (i : Nat) (ds : List D), δ[i]? = some (some (.ow ds)) ∧ σ[i]? = some (some (V.ref a))
  have ownH : ∀ a, own a → (∃ vs, H a = some (.lst vs)) ∧ G a = none ∧ F.H0 a = none := fun a ⟨i, ds, h1, h2⟩ => by
    obtain ⟨v, e1, b, vs, rfl, e2, e3, e4, _⟩ := s.slot i _ h1
    rw [h2] at e1
    cases e1
    exact ⟨⟨vs, e2⟩, e3, e4⟩
  let G' : Hp := fun a => if own a then H a else G a
  have gT : ∀ a, own a → G' a = H a := fun a h => if_pos h
  have gF : ∀ a, ¬ own a → G' a = G a := fun a h => if_neg h
  have sub : Sub G G' := fun a o h => by
    by_cases w : own a
    · rw [(ownH a w).2.1] at h; cases h
    · rw [gF a w]; exact h
  refine ⟨G', sub, ⟨by rw [s.len]; unfold frz; rw [List.length_map], ⟨s.ext.hk, s.ext.dn, s.ext.gs.trans sub, fun a o h => ?_, fun a ps h => ?_, fun a o h n => ?_, s.ext.tb⟩, fun i sv h => ?_, fun i j ds es ne h1 h2 => ?_, s.tabs⟩⟩
  · by_cases w : own a
    · rw [gT a w] at h; exact h
    · rw [gF a w] at h; exact s.ext.gh a o h
  · by_cases w : own a
    · obtain ⟨vs, e⟩ := (ownH a w).1
      rw [gT a w, e] at h; cases h
    · rw [gF a w] at h; exact s.ext.gt a ps h
  · by_cases w : own a
    · exact (ownH a w).2.2
    · rw [gF a w] at h; exact s.ext.gn a o h n
  · obtain ⟨s', e1, rfl⟩ := frz_get h
    obtain ⟨v, h1, h2⟩ := s.slot i s' e1
    refine ⟨v, h1, ?_⟩
    cases s' with
    | sh d => exact Rep.mono sub h2
    | bo es => obtain ⟨a, vs, r, q1, q2⟩ := h2; exact ⟨a, vs, r, q1, q2.mono sub⟩
    | ow es =>
      obtain ⟨a, vs, rfl, q1, q2, q3, q4⟩ := h2
      exact .lst (by rw [gT a ⟨i, es, e1, h1⟩]; exact q1) (q4.mono sub)
  · obtain ⟨s', e1, q⟩ := frz_get h1
    cases s' <;> cases q

section
variable {X : Cx} {F : Fx} {st : Stmt} {rest : List Stmt} {t u : TS} {ev ev' : DS} {e : Expr} {te : TE} {ee : DE} {pos : Pos} {m : Md}
def sNext : DS := fun D δ => D.nx δ
def sSeq (ev ev' : DS) : DS := fun D δ => ev { D with nx := ev' D } δ
theorem fss_nil : FSs X F [] tNext sNext := ⟨pss_nil, fun σ H G Gf δ Dd De s sf k e => k.nx σ H G δ s sf e⟩
theorem fss_cons (h1 : FS X F st t ev) (h2 : FSs X F rest u ev') : FSs X F (st :: rest) (tSeq t u) (sSeq ev ev') := ⟨pss_cons h1.ps h2.ps, fun σ H G Gf δ Dd De s sf k e =>
  h1.sim σ H G Gf δ { Dd with nx := ev' Dd } { De with nx := u De } s sf ⟨fun σ H G δ s sf q => h2.sim σ H G Gf δ Dd De s sf k q, k.rt, k.bk, k.ct⟩ e⟩
theorem fss_one (h1 : FS X F st t ev) : FSs X F [st] t ev := ⟨pss_one h1.ps, h1.sim⟩
theorem fs_pass : FS X F (.Pass pos) tNext sNext := ⟨ps_pass, fun σ H G Gf δ Dd De s sf k e => k.nx σ H G δ s sf e⟩
theorem fs_break : FS X F (.Break pos) tBreak (fun D δ => D.bk δ) := ⟨ps_break, fun σ H G Gf δ Dd De s sf k e => k.bk σ H G δ s sf e⟩
theorem fs_continue : FS X F (.Continue pos) tCont (fun D δ => D.ct δ) := ⟨ps_continue, fun σ H G Gf δ Dd De s sf k e => k.ct σ H G δ s sf e⟩
def sExpr (ee : DE) : DS := fun D δ => ee δ fun _ => D.nx δ
theorem fs_expr (he : FE X F m e te ee) (hs : swapsWith e none pos.line X.env = pure false := by rfl) : FS X F (.Expr e pos) (tDrop te) (sExpr ee) := ⟨ps_expr he.pe hs, fun σ H G Gf δ Dd De s sf k ev =>
  he.sim σ H G δ _ _ s ev fun v G' H' d x r q => k.nx σ H' G' δ (s.to x) (sf.trans x.gs) q⟩
/-- return e, what is held made fixed -/
def sRet (fr : Bool) (ee : DE) : DS := fun D δ => ee (frz δ) fun d => (fr = false ∨ NoL d) ∧ D.rt d
theorem RR.of {fr : Bool} {H0 G H : Hp} {v : V} {d : D} (h : fr = false ∨ NoL d) (r : Rep G v d) : RR fr H0 G H v d := by
  rcases h with rfl | h
  · cases d <;> exact r
  · cases d <;> first | exact r | exact h.elim
theorem fs_ret (he : FE X F .g e te ee) : FS X F (.Return (some e) pos) (tRet te) (sRet F.fr ee) := ⟨ps_ret he.pe, fun σ H G Gf δ Dd De s sf k ev => by
  obtain ⟨G1, _, s1⟩ := s.freeze
  exact he.sim σ H G1 (frz δ) _ _ s1 ev fun v G' H' d x r q => k.rt v H' G' d (s1.ext.trans x) (.of q.1 r) q.2⟩
/-- return e, a new list -/
def sRetF (ee : DE) : DS := fun D δ => ee δ D.rt
theorem fs_retF (hf : F.fr = true) (he : FE X F .f e te ee) : FS X F (.Return (some e) pos) (tRet te) (sRetF ee) := ⟨ps_ret he.pe, fun σ H G Gf δ Dd De s sf k ev =>
  he.sim σ H G δ _ _ s ev fun v G' H' d x r q => k.rt v H' G' d (s.ext.trans x) (by
    rw [hf]
    cases d with
    | lst ds => obtain ⟨a, vs, h1, h2, h3, h4, h5⟩ := r; exact ⟨a, vs, h1, h2, s.ext.dn _ h3, h4, h5⟩
    | _ => exact r) q⟩
/-- return x, a list of one's own -/
def asOw (o : Option (Option SV)) (k : List D → Prop) : Prop := match o with | some (some (.ow ds)) => k ds | _ => False
theorem asOw.out {o : Option (Option SV)} {k : List D → Prop} (h : asOw o k) : ∃ ds, o = some (some (.ow ds)) ∧ k ds := by
  unfold asOw at h
  split at h
  · exact ⟨_, rfl, h⟩
  · exact h.elim
def sRetO (i : Nat) : DS := fun D δ => asOw δ[i]? fun ds => D.rt (.lst ds)
theorem fs_retO (i : Nat) {x : Str} {p : Pos} (hf : F.fr = true) (hN : X.N[i]? = some x := by rfl) (hv : Vis X.env.scope x := by first | exact Or.inl rfl | exact Or.inr (Or.inl rfl) | exact Or.inr (Or.inr rfl)) (hd : (x == ("__debug__" : Str)) = false := by decide)
    (hcd : (x == ("__classdict__" : Str)) = false := by decide) : FS X F (.Return (some (.Name x p)) pos) (tRet (tVar i)) (sRetO i) := ⟨ps_ret (pe_var hN hv hd hcd), fun σ H G Gf δ Dd De s sf k ev => by
  have zz := asOw.out ev; clear ev; obtain ⟨ds, h1, q⟩ := zz
  obtain ⟨v, h2, a, vs, rfl, h3, h4, h5, h6⟩ := s.slot i _ h1
  exact ⟨_, h2, k.rt _ H G (.lst ds) s.ext (by rw [hf]; exact ⟨a, vs, rfl, h3, h5, h4, h6⟩) q⟩⟩
theorem fs_retN : FS X F (.Return none pos) tRetN (fun D _ => D.rt .non) := ⟨ps_retN, fun σ H G Gf δ Dd De s sf k ev => k.rt .non H G .non s.ext .non ev⟩
def sIf (ec : DT) (ea eb : DS) : DS := fun D δ => ec δ fun b => if b = true then ea D δ else eb D δ
theorem fs_if {c : Expr} {a b : List Stmt} {tc : TT} {ec : DT} {ea eb : DS} (hc : FT X F c tc ec) (ha : FSs X F a t ea) (hb : FSs X F b u eb) : FS X F (.If c a b pos) (tIfS tc t u) (sIf ec ea eb) := ⟨ps_if hc.pt ha.ps hb.ps, fun σ H G Gf δ Dd De s sf k ev => by
  refine hc.sim σ H G δ _ _ s ev fun b G' H' x q => ?_
  cases b with
  | true => exact ha.sim σ H' G' Gf δ Dd De (s.to x) (sf.trans x.gs) k q
  | false => exact hb.sim σ H' G' Gf δ Dd De (s.to x) (sf.trans x.gs) k q⟩
theorem fs_never : FS X F st tNever (fun _ _ => False) := ⟨ps_never, fun _ _ _ _ _ _ _ _ _ _ h => h.elim⟩
theorem fss_never {sts : List Stmt} : FSs X F sts tNever (fun _ _ => False) := ⟨pss_never, fun _ _ _ _ _ _ _ _ _ _ h => h.elim⟩

/-! ### targets -/
abbrev DG := D → DEnv → (DEnv → Prop) → Prop
abbrev DGs := List D → DEnv → (DEnv → Prop) → Prop
/-- nothing but the slots is at another value -/
def Same0 (is : List Nat) (σ σ' : St) : Prop := σ'.length = σ.length ∧ ∀ j, j ∉ is → σ'[j]? = σ[j]?
def SimG (F : Fx) (g : TG) (ev : DG) (is : List Nat) : Prop := ∀ (v : V) (d : D) (σ : St) (H G : Hp) (δ : DEnv) (Q : DEnv → Prop) (Q' : St → Hp → Prop), SRep F G H σ δ → Rep G v d → ev d δ Q →
  (∀ σ' δ', SRep F G H σ' δ' → Same0 is σ σ' → Q δ' → Q' σ' H) → g v σ H Q'
def SimGs (F : Fx) (g : TGs) (ev : DGs) (is : List Nat) : Prop := ∀ (vs : List V) (ds : List D) (σ : St) (H G : Hp) (δ : DEnv) (Q : DEnv → Prop) (Q' : St → Hp → Prop), SRep F G H σ δ → Reps G vs ds → ev ds δ Q →
  (∀ σ' δ', SRep F G H σ' δ' → Same0 is σ σ' → Q δ' → Q' σ' H) → g vs σ H Q'
structure FG (X : Cx) (F : Fx) (tg : Expr) (g : TG) (ev : DG) (is : List Nat) : Prop where
  pg : PG X tg g
  sim : SimG F g ev is
structure FGs (X : Cx) (F : Fx) (tg : List Expr) (g : TGs) (ev : DGs) (is : List Nat) : Prop where
  pg : PGs X tg g
  sim : SimGs F g ev is
def dName (i : Nat) : DG := fun d δ Q => Q (δ.set i (some (.sh d)))
theorem fg_name (i : Nat) {x : Str} {p : Pos} (hN : X.N.Nodup) (hi : X.N[i]? = some x := by rfl) (hx : Loc X.env.scope x := by first | exact Or.inl rfl | exact Or.inr rfl) (hf : X.fn x = true ∨ X.env.scope.names.lookup x = some .local := by first | exact .inl rfl | exact .inr rfl) : FG X F (.Name x p) (gName i) (dName i) [i] :=
  ⟨pg_name hN hi hx hf, fun v d σ H G δ Q Q' s r ev k => k _ _ (s.setS i r) ⟨List.length_set, fun j hj => List.getElem?_set_ne (fun z => hj (by simp [z]))⟩ ev⟩
def dGNil : DGs := fun ds δ Q => ds = [] ∧ Q δ
def dGCons (g : DG) (gs : DGs) : DGs := fun ds δ Q => match ds with | d :: r => g d δ fun δ' => gs r δ' Q | [] => False
theorem fgs_nil : FGs X F [] gNil dGNil [] := ⟨pgs_nil, fun vs ds σ H G δ Q Q' s r ev k => by
  obtain ⟨rfl, q⟩ := ev
  cases r
  exact ⟨rfl, k σ δ s ⟨rfl, fun _ _ => rfl⟩ q⟩⟩
theorem fgs_cons {es : List Expr} {g : TG} {gs : TGs} {eg : DG} {egs : DGs} {is js : List Nat} (h1 : FG X F e g eg is) (h2 : FGs X F es gs egs js) (hs : (assignEach (e :: es) X.env).map (·.2) = assign e X.env :: (assignEach es X.env).map (·.2) := by rfl) :
    FGs X F (e :: es) (gCons g gs) (dGCons eg egs) (is ++ js) := ⟨pgs_cons h1.pg h2.pg hs, fun vs ds σ H G δ Q Q' s r ev k => by
  cases r with
  | nil => exact ev.elim
  | @cons _ _ d ds' r1 r2 =>
    have q := ev
    refine ⟨_, _, rfl, h1.sim _ d σ H G δ _ _ s r1 q fun σ1 δ1 s1 n1 q1 => ?_⟩
    refine h2.sim _ ds' σ1 H G δ1 _ _ s1 r2 q1 fun σ2 δ2 s2 n2 q2 => k σ2 δ2 s2 ⟨n2.1.trans n1.1, fun j hj => ?_⟩ q2
    rw [n2.2 j (fun z => hj (List.mem_append_right _ z)), n1.2 j (fun z => hj (List.mem_append_left _ z))]⟩
def dGTup (n : Nat) (gs : DGs) : DG := fun d δ Q => asTup d fun ds => ds.length = n ∧ gs ds δ Q
theorem fg_tup {es : List Expr} {k : Nat} {gs : TGs} {egs : DGs} {is : List Nat} {n : Nat} (hc : X.calm = true) (h : FGs X F es gs egs is) (hn : (assignEach es X.env).length = n := by rfl) (hst : (assignEach es X.env).findIdx? (·.1) = none := by rfl) :
    FG X F (.Tuple es k pos) (gTup X.K n gs) (dGTup n egs) is := ⟨pg_tup hc h.pg hn hst, fun v d σ H G δ Q Q' s r ev k => by
  have zz := asTup.out ev; clear ev; obtain ⟨ds, rfl, hl, q⟩ := zz
  cases r with
  | @tup a vs _ h1 h2 => exact ⟨a, vs, rfl, .of (s.wf.gh _ _ h1), by rw [h2.length]; exact hl, h.sim vs ds σ H G δ _ _ s h2 q k⟩⟩
/-- target = e -/
theorem fg_tupK {K : Frag} (hK : X.K = K) {es : List Expr} {k : Nat} {gs : TGs} {egs : DGs} {is : List Nat} {n : Nat} (hc : X.calm = true) (h : FGs X F es gs egs is) (hn : (assignEach es X.env).length = n := by rfl) (hst : (assignEach es X.env).findIdx? (·.1) = none := by rfl) :
    FG X F (.Tuple es k pos) (gTup K n gs) (dGTup n egs) is := by subst hK; exact fg_tup hc h hn hst
def sAsg (ee : DE) (g : DG) : DS := fun D δ => ee δ fun d => g d δ D.nx
theorem fs_asg {tg : Expr} {g : TG} {eg : DG} {is : List Nat} (he : FE X F .g e te ee) (hg : FG X F tg g eg is) (hs : swapsWithSole [tg] e pos.line X.env = pure false := by rfl) (hw : swappedStores [tg] e X.env = pure none := by rfl)
    (h1 : (assignEach [tg] X.env).map (·.2) = [assign tg X.env] := by rfl) : FS X F (.Assign [tg] e pos) (tAsg te g) (sAsg ee eg) := ⟨ps_asg he.pe hg.pg hs hw h1, fun σ H G Gf δ Dd De s sf k ev =>
  he.sim σ H G δ _ _ s ev fun v G' H' d x r q => hg.sim v d σ H' G' δ _ _ (s.to x) r q fun σ' δ' s' _ q' => k.nx σ' H' G' δ' s' (sf.trans x.gs) q'⟩
theorem fs_set (i : Nat) {x : Str} {p : Pos} (hN : X.N.Nodup) (he : FE X F .g e te ee) (hi : X.N[i]? = some x := by rfl) (hx : Loc X.env.scope x := by first | exact Or.inl rfl | exact Or.inr rfl) (hs : swapsWith e (some (.Name x p)) pos.line X.env = pure false := by rfl)
    (hf : X.fn x = true ∨ X.env.scope.names.lookup x = some .local := by first | exact .inl rfl | exact .inr rfl) : FS X F (.Assign [.Name x p] e pos) (tAsg te (gName i)) (sAsg ee (dName i)) := ⟨ps_set hN hi hx he.pe hs hf, fun σ H G Gf δ Dd De s sf k ev =>
  he.sim σ H G δ _ _ s ev fun v G' H' d x r q => k.nx _ H' G' _ ((s.to x).setS i r) (sf.trans x.gs) q⟩
/-- x = a new list, one's own -/
def sSetO (i : Nat) (ee : DE) : DS := fun D δ => ee δ fun d => asLst d fun ds => D.nx (δ.set i (some (.ow ds)))
theorem fs_setO (i : Nat) {x : Str} {p : Pos} (hN : X.N.Nodup) (he : FE X F .f e te ee) (hi : X.N[i]? = some x := by rfl) (hx : Loc X.env.scope x := by first | exact Or.inl rfl | exact Or.inr rfl) (hs : swapsWith e (some (.Name x p)) pos.line X.env = pure false := by rfl)
    (hf : X.fn x = true ∨ X.env.scope.names.lookup x = some .local := by first | exact .inl rfl | exact .inr rfl) : FS X F (.Assign [.Name x p] e pos) (tAsg te (gName i)) (sSetO i ee) := ⟨ps_set hN hi hx he.pe hs hf, fun σ H G Gf δ Dd De s sf k ev =>
  he.sim σ H G δ _ _ s ev fun v G' H' d x r q => by
    have zz := q.out; clear q; obtain ⟨ds, rfl, q⟩ := zz
    obtain ⟨a, vs, rfl, h1, h2, h3, h4⟩ := r
    exact k.nx _ H' G' _ (s.setO i x h1 h2 h3 h4) (sf.trans x.gs) q⟩
/-- a, b = e1, e2 -/
def sPar (i j : Nat) (ea : DA) : DS := fun D δ => ea δ fun ds => as2 ds fun d e => D.nx ((δ.set i (some (.sh d))).set j (some (.sh e)))
theorem fs_par (i j : Nat) {x y : Str} {a b : Expr} {ta : TA} {ea : DA} {px py pt : Pos} {kt k2 pt2} (hc : X.calm = true) (hN : X.N.Nodup) (ha : FA X F [a, b] ta ea) (hi : X.N[i]? = some x := by rfl) (hj : X.N[j]? = some y := by rfl) (hij : i ≠ j := by decide)
    (hx : X.env.scope.names.lookup x = some .local := by rfl) (hy : X.env.scope.names.lookup y = some .local := by rfl)
    (hw : swappedStores [.Tuple [.Name x px, .Name y py] kt pt] (.Tuple [a, b] k2 pt2) X.env = pure (some [x, y]) := by rfl)
    (hs : swapsWithSole [.Tuple [.Name x px, .Name y py] kt pt] (.Tuple [a, b] k2 pt2) pos.line X.env = pure false := by rfl) :
    FS X F (.Assign [.Tuple [.Name x px, .Name y py] kt pt] (.Tuple [a, b] k2 pt2) pos) (tPar i j ta) (sPar i j ea) := ⟨ps_par hc hN hi hj hij hx hy ha.pa hw hs, fun σ H G Gf δ Dd De s sf k ev => by
  refine ha.sim σ H G δ _ _ s ev fun vs G' H' ds x r q => ?_
  have zz := q.out; clear q; obtain ⟨d, e, rfl, q⟩ := zz
  cases r with
  | cons r1 r2 => cases r2 with
    | cons r2 r3 =>
      cases r3
      exact ⟨_, _, rfl, k.nx _ H' G' _ (((s.to x).setS i r1).setS j r2) (sf.trans x.gs) q⟩⟩
end
end DW

/-! DWI: what is walked: a list or a tuple, zip and enumerate of these in any mix. -/
namespace DW
open PySem L2 PySem.Spec PyProof.Rows

inductive Src where
  | L | T
def SqS (K : Frag) : Src → Hp → Addr → List V → Prop
  | .L => SqL K
  | .T => SqT K
def ItS : Src → Heap → Addr → Addr → Nat → Prop
  | .L => fun h it a i => h.IsListIter it a i
  | .T => fun h it a i => h.IsTupleIter it a i
def IsS : Src → Heap → Addr → Array Value → Prop
  | .L => fun h a its => h.IsList a its
  | .T => fun h a its => h.IsTuple a its
def objS : Src → Addr → Obj
  | .L => fun a => { cls := .type "list_iterator", data := .fields #[.ref a, .int 0 0] }
  | .T => fun a => { cls := .type "tuple_iterator", data := .fields #[.ref a, .int 0 0] }
theorem beginsS (k : Src) (a : Addr) (its : Array Value) : Begins (.ref a) (objS k a) (fun h => IsS k h a its) := by
  cases k with
  | L => exact begins_list a its
  | T => exact begins_tuple a its
theorem drawsS {prog : Program} {w : World} {A : Around} (k : Src) (hh : A.handled = none) (it a : Addr) (hne : a ≠ it) (its : Array Value) :
    Draws prog w A it [it, a] its.size (fun i v => its[i]? = some v) (fun i h => ItS k h it a i ∧ IsS k h a its) := by
  cases k with
  | L => exact .list hh it a hne its
  | T => exact .tuple hh it a hne its
theorem itS_new (k : Src) {h : Heap} {it a : Addr} (e : h.get? it = some (objS k a)) : ItS k h it a 0 := by
  cases k with
  | L => exact ⟨_, e, rfl, rfl⟩
  | T => exact ⟨_, e, rfl, rfl⟩
theorem itS_at (k : Src) {h h' : Heap} {it a : Addr} {i : Nat} (s : ItS k h it a i) (e : ∀ o, h.get? it = some o → h'.get? it = some o) : ItS k h' it a i := by
  cases k with
  | L => exact s.at e
  | T => exact s.at e
theorem itS_obj (k : Src) {h : Heap} {it a : Addr} {i : Nat} (s : ItS k h it a i) : ∃ o, h.get? it = some o ∧ ∀ v, o.data ≠ .cell v := by
  cases k with
  | L => obtain ⟨o, e, _, d⟩ := s; exact ⟨o, e, fun v q => by rw [d] at q; cases q⟩
  | T => obtain ⟨o, e, _, d⟩ := s; exact ⟨o, e, fun v q => by rw [d] at q; cases q⟩
theorem isS_lt (k : Src) {h : Heap} {a : Addr} {its : Array Value} (s : IsS k h a its) : a < h.objs.size := by
  cases k with
  | L => obtain ⟨_, e, _⟩ := s; exact Heap.lt_size e
  | T => obtain ⟨_, e, _⟩ := s; exact Heap.lt_size e
section
variable {X : Cx} {pins : List (Addr × Obj)} {σ : L2.St} {H : Hp} {s : Shared} {a : Addr} {xs ys : List V}
theorem inv_sq (k : Src) (I : Inv X pins σ H s) (h : SqS X.K k H a xs) : ∃ its : List Value, Vals xs its ∧ IsS k s.heap a its.toArray := by
  cases k with
  | L => obtain ⟨its, r, p, _⟩ := I.list h; exact ⟨its, r, p.isList⟩
  | T => obtain ⟨its, r, p, _⟩ := I.tuple h; exact ⟨its, r, p⟩
theorem inv_sq_inj (k : Src) (I : Inv X pins σ H s) (h : SqS X.K k H a xs) (h' : SqS X.K k H a ys) : xs = ys := by
  cases k with
  | L => exact I.list_inj h h'
  | T => exact I.tuple_inj h h'
end

/-! ### zip of two -/
def ItzS (K : Frag) (k1 k2 : Src) (a b : Addr) : It :=
  ⟨fun i H => ∃ (xs ys : List V) (x y : V), SqS K k1 H a xs ∧ SqS K k2 H b ys ∧ xs[i]? = some x ∧ ys[i]? = some y,
    fun i H v H' => ∃ T x y, v = .ref T ∧ H T = none ∧ H' = upd H T (.tup [x, y]) ∧ (∀ xs, SqS K k1 H a xs → xs[i]? = some x) ∧ ∀ ys, SqS K k2 H b ys → ys[i]? = some y,
    fun i H => ∃ xs ys : List V, SqS K k1 H a xs ∧ SqS K k2 H b ys ∧ i = min xs.length ys.length⟩
theorem turn_zipS {P : Program} {w : World} {K : Frag} {elts : List Expr} {kk : Nat} {tpos : Pos} (k1 k2 : Src) {a b z TI TO i1 i2 : Addr} (S : ZipSep2 z TI TO i1 i2 [i1, a] [i2, b]) (n1 : a ≠ i1) (n2 : b ≠ i2) :
    Turn P w K (.Tuple elts kk tpos) (ItzS K k1 k2 a b) [z, TI, TO, i1, i2] z (fun i h => PySem.IsZip h z TI TO .none ∧ IsTupOf2 h TI (.ref i1) (.ref i2) ∧ (∃ x y, IsTupOf2 h TO x y) ∧ ItS k1 h i1 a i ∧ ItS k2 h i2 b i) where
  mem := by simp
  obj := fun i h st c hc => by
    obtain ⟨hz, hTI, ⟨x, y, hTO⟩, h1, h2⟩ := st
    have e' : c = z ∨ c = TI ∨ c = TO ∨ c = i1 ∨ c = i2 := by simpa using hc
    rcases e' with q | q | q | q | q
    · rw [q]; exact ⟨_, hz, fun v q => nomatch q⟩
    · rw [q]; exact ⟨_, hTI, fun v q => nomatch q⟩
    · rw [q]; exact ⟨_, hTO, fun v q => nomatch q⟩
    · rw [q]; exact itS_obj k1 h1
    · rw [q]; exact itS_obj k2 h2
  keep := fun i h h' st k => by
    obtain ⟨hz, hTI, ⟨x, y, hTO⟩, h1, h2⟩ := st
    exact ⟨k z (by simp) _ hz, k TI (by simp) _ hTI, ⟨x, y, k TO (by simp) _ hTO⟩, itS_at k1 h1 fun o q => k i1 (by simp) o q, itS_at k2 h2 fun o q => k i2 (by simp) o q⟩
  item := by
    intro X hP hw hK hc i pins s σ H E I hf st hg
    subst hP hw hK
    obtain ⟨hz, hTI, hTO, h1, h2⟩ := st
    obtain ⟨xs, ys, x, y, hqx, hqy, hx, hy⟩ := hg
    obtain ⟨its, rv, p⟩ := inv_sq k1 I hqx
    obtain ⟨its2, rv2, p2⟩ := inv_sq k2 I hqy
    obtain ⟨u, hu, ru⟩ := rv.get hx
    obtain ⟨u2, hu2, ru2⟩ := rv2.get hy
    have hh : X.A.in1.handled = none := I.ok.hd hc
    have W := WalksT.zipD2 (prog := X.prog) (w := X.w) (A := X.A) S (drawsS k1 hh i1 a n1 its.toArray) (drawsS k2 hh i2 b n2 its2.toArray)
    have l1 : i < its.toArray.size := by rw [List.size_toArray]; exact (List.getElem?_eq_some_iff.mp hu).1
    have l2 : i < its2.toArray.size := by rw [List.size_toArray]; exact (List.getElem?_eq_some_iff.mp hu2).1
    have lz : z < s.heap.objs.size := Heap.lt_size hz
    refine W.item i s _ _ (by omega) ⟨hz, hTI, hTO, ⟨h1, p⟩, ⟨h2, p2⟩⟩ fun T vals h' tk hP hnew hT hm hk => ?_
    obtain ⟨x1, x2, hx1, hx2, rfl⟩ := hP
    obtain rfl : x1 = u := by
      have hx1 : its.toArray[i]? = some x1 := hx1
      have q : its[i]? = some x1 := by simpa using hx1
      rw [hu] at q; exact (Option.some.inj q).symm
    obtain rfl : x2 = u2 := by
      have hx2 : its2.toArray[i]? = some x2 := hx2
      have q : its2[i]? = some x2 := by simpa using hx2
      rw [hu2] at q; exact (Option.some.inj q).symm
    refine ⟨_, rfl, W.go elts kk tpos i T { s with heap := h', toks := tk } _ _ hm fun h2' st2 hk2 => ?_⟩
    have hTw := W.apart i T h' hm
    have hT2 : h2'.IsTuple T #[x1, x2] := hT.at fun o e => hk2 T o hTw e
    obtain ⟨oT, e1, e2, n, e3⟩ := hT2
    have new : ObjOk X.prog X.w (upd H T (.tup [x, y])) h2' T (.tup [x, y]) :=
      ⟨by show 2 ≤ sizeLine; decide, [x1, x2], .cons ru (.cons ru2 .nil), ⟨oT, e1, e2, n, e3⟩⟩
    have I1 : L2.Inv X pins σ (upd H T (.tup [x, y])) { s with heap := h2', toks := tk } :=
      I.turnedNew (ch := [z, TI, TO, i1, i2]) (fun c o hb q => hk2 c o (fun z' => hb (by simp at z' ⊢; rcases z' with r | r | r | r <;> simp [r])) (hk c o (fun z' => hb (by simp at z' ⊢; rcases z' with r | r | r | r <;> simp [r])) q)) hf hnew new
    refine ⟨.ref T, _, I1, rfl, ⟨T, x, y, rfl, I.hok.fresh hnew, rfl, fun l hl => by rw [inv_sq_inj k1 I hl hqx]; exact hx, fun l hl => by rw [inv_sq_inj k2 I hl hqy]; exact hy⟩, ⟨st2.1, st2.2.1, st2.2.2.1, st2.2.2.2.1.1, st2.2.2.2.2.1⟩, fun c hcm => ?_⟩
    have hlt : c < s.heap.objs.size := by
      have e' : c = z ∨ c = TI ∨ c = TO ∨ c = i1 ∨ c = i2 := by simpa using hcm
      rcases e' with q | q | q | q | q
      · rw [q]; exact lz
      · rw [q]; exact Heap.lt_size hTI
      · rw [q]; obtain ⟨_, _, e⟩ := hTO; exact Heap.lt_size e
      · rw [q]; obtain ⟨_, e, _⟩ := itS_obj k1 h1; exact Heap.lt_size e
      · rw [q]; obtain ⟨_, e, _⟩ := itS_obj k2 h2; exact Heap.lt_size e
    rw [upd_ne (Nat.ne_of_lt (Nat.lt_of_lt_of_le hlt hnew))]
    exact (hf c hcm).1
  done := by
    intro X hP hw hK hc i pins s σ H E I hf st hg
    subst hP hw hK
    obtain ⟨hz, hTI, hTO, h1, h2⟩ := st
    obtain ⟨xs, ys, hqx, hqy, hend⟩ := hg
    obtain ⟨its, rv, p⟩ := inv_sq k1 I hqx
    obtain ⟨its2, rv2, p2⟩ := inv_sq k2 I hqy
    have hh : X.A.in1.handled = none := I.ok.hd hc
    have W := WalksT.zipD2 (prog := X.prog) (w := X.w) (A := X.A) S (drawsS k1 hh i1 a n1 its.toArray) (drawsS k2 hh i2 b n2 its2.toArray)
    have en : i = min its.toArray.size its2.toArray.size := by
      rw [List.size_toArray, List.size_toArray, ← rv.length, ← rv2.length]; exact hend
    subst en
    exact W.done s _ _ ⟨hz, hTI, hTO, ⟨h1, p⟩, ⟨h2, p2⟩⟩ fun h' tk hk => ⟨rfl, I.turnedL (ch := [z, TI, TO, i1, i2]) (fun c o hb q => hk c o (fun z' => hb (by simp at z' ⊢; rcases z' with r | r | r | r <;> simp [r])) q) hf⟩
  self := fun A i s Q E st h => wpAny_pyIter_zip st.1 h
def iZipS (K : Frag) (ta : TA) : TI := fun σ H R => ta σ H fun vs H1 => ∃ a b xs ys k1 k2, vs = [.ref a, .ref b] ∧ SqS K k1 H1 a xs ∧ SqS K k2 H1 b ys ∧ R (ItzS K k1 k2 a b) H1
theorem pi_zipS {X : Cx} {e e2 : Expr} {ta : TA} {p pos tpos : Pos} {elts : List Expr} {kk : Nat} (hm : X.mg "zip" = none) (ha : PA X [e, e2] ta) (hg : Gl X "zip" := by rfl)
    (hs : starEach [e, e2] X.env = (false, eval e X.env) :: starEach [e2] X.env := by rfl) (hpl : (backTo pos (starEach [e2] X.env)).any (·.1) = false := by rfl) :
    PI X (.Tuple elts kk tpos) (.Call (.Name "zip" p) [e, e2] [] pos) (iZipS X.K ta) := by
  refine ⟨fun pins s σ H R I h => ?_⟩
  refine Call_ (ld_blt I hg hm PyProof.Rows.boot_zip (PyProof.Rows.callWith_type1 (thn (ha.run pos pins s σ H _ I h) fun us s1 ⟨vs, H1, I1, r1, q1⟩ => ?_) hs hpl))
  obtain ⟨a, b, xs, ys, k1, k2, ex, hqx, hqy, q⟩ := q1
  subst ex
  cases r1 with
  | cons r rr =>
    cases rr with
    | cons r' rr =>
      cases rr
      cases r
      cases r'
      obtain ⟨its, rv, p1⟩ := inv_sq k1 I1 hqx
      obtain ⟨its2, rv2, p2⟩ := inv_sq k2 I1 hqy
      have la : a < s1.heap.objs.size := isS_lt k1 p1
      have lb : b < s1.heap.objs.size := isS_lt k2 p2
      refine zip_begins2 (beginsS k1 a its.toArray) (beginsS k2 b its2.toArray) p1 p2 fun h' hz hTI hTO h1 h2 hsz hk => wpAny_pyIter_zip hz ?_
      have I2 : L2.Inv X pins σ H1 { s1 with heap := h' } := I1.kept (t' := s1.toks) hk
      refine ⟨s1.heap.objs.size + 4, [s1.heap.objs.size + 4, s1.heap.objs.size + 2, s1.heap.objs.size + 3, s1.heap.objs.size, s1.heap.objs.size + 1], _, _, H1, rfl, I2,
        turn_zipS k1 k2 (zip_sep2 (fp1 := [a]) (fp2 := [b]) (fun c hc => by simp at hc; rw [hc]; exact la) (fun c hc => by simp at hc; rw [hc]; exact lb)) (Nat.ne_of_lt la) (Nat.ne_of_lt (Nat.lt_succ_of_lt lb)), ⟨hz, hTI, ⟨_, _, hTO⟩, itS_new k1 h1, itS_new k2 h2⟩, fun c hcm => ?_, q⟩
      have e' : c = s1.heap.objs.size + 4 ∨ c = s1.heap.objs.size + 2 ∨ c = s1.heap.objs.size + 3 ∨ c = s1.heap.objs.size ∨ c = s1.heap.objs.size + 1 := by simpa using hcm
      have hle : s1.heap.objs.size ≤ c := by
        rcases e' with z | z | z | z | z
        · rw [z]; exact Nat.le_add_right _ _
        · rw [z]; exact Nat.le_add_right _ _
        · rw [z]; exact Nat.le_add_right _ _
        · rw [z]; exact Nat.le_refl _
        · rw [z]; exact Nat.le_add_right _ _
      exact I1.fpOk hle (I1.hok.fresh hle)

/-! ### enumerate -/
def IteS (K : Frag) (k : Src) (a : Addr) : It :=
  ⟨fun i H => ∃ (xs : List V) (x : V), SqS K k H a xs ∧ xs[i]? = some x, fun i H v H' => ∃ T x, v = .ref T ∧ H T = none ∧ H' = upd H T (.tup [.int (i : Nat), x]) ∧ ∀ xs, SqS K k H a xs → xs[i]? = some x, fun i H => ∃ xs : List V, SqS K k H a xs ∧ xs.length = i⟩
theorem turn_enumS {P : Program} {w : World} {K : Frag} {elts : List Expr} {kk : Nat} {tpos : Pos} (k : Src) {a e it : Addr} (hei : e ≠ it) (hea : e ≠ a) (hai : a ≠ it) :
    Turn P w K (.Tuple elts kk tpos) (IteS K k a) [e, it] e (fun i h => (∃ old, IsEnum h e it (0 + (i : Int)) old) ∧ ItS k h it a i) where
  mem := by simp
  obj := fun i h st b hb => by
    obtain ⟨⟨old, he⟩, h1⟩ := st
    have e' : b = e ∨ b = it := by simpa using hb
    rcases e' with z | z
    · rw [z]; exact ⟨_, he, fun v q => nomatch q⟩
    · rw [z]; exact itS_obj k h1
  keep := fun i h h' st kp => let ⟨⟨old, he⟩, hi⟩ := st; ⟨⟨old, kp e (by simp) _ he⟩, itS_at k hi fun o q => kp it (by simp) o q⟩
  item := by
    intro X hP hw hK hc i pins s σ H E I hf st hg
    subst hP hw hK
    obtain ⟨he, hit⟩ := st
    obtain ⟨xs, x, hq, hx⟩ := hg
    obtain ⟨its, rv, p⟩ := inv_sq k I hq
    obtain ⟨u, hu, ru⟩ := rv.get hx
    have hh : X.A.in1.handled = none := I.ok.hd hc
    have W := WalksT.enumFrom (prog := X.prog) (w := X.w) (A := X.A) 0 (drawsS k hh it a hai its.toArray) e hei (by simp [hei, hea]) (by simp)
    have l1 : i < its.toArray.size := by rw [List.size_toArray]; exact (List.getElem?_eq_some_iff.mp hu).1
    refine W.item i s _ _ l1 ⟨he, hit, p⟩ fun T vals h' tk hP hnew hT hm hk => ?_
    obtain ⟨t, x1, hx1, rfl⟩ := hP
    obtain rfl : x1 = u := by
      have hx1 : its.toArray[i]? = some x1 := hx1
      have q : its[i]? = some x1 := by simpa using hx1
      rw [hu] at q; exact (Option.some.inj q).symm
    refine ⟨_, rfl, W.go elts kk tpos i T { s with heap := h', toks := tk } _ _ hm fun h2' st2 hk2 => ?_⟩
    have hTw := W.apart i T h' hm
    obtain ⟨oT, e1, e2, n, e3⟩ := (hT.at fun o e => hk2 T o hTw e : h2'.IsTuple T _)
    have e0 : (0 : Int) + (i : Int) = ((i : Nat) : Int) := by omega
    have new : ObjOk X.prog X.w (upd H T (.tup [.int (i : Nat), x])) h2' T (.tup [.int (i : Nat), x]) :=
      ⟨by show 2 ≤ sizeLine; decide, [.int (0 + (i : Int)) t, x1], .cons ⟨t, by rw [e0]⟩ (.cons ru .nil), ⟨oT, e1, e2, n, e3⟩⟩
    have I1 : L2.Inv X pins σ (upd H T (.tup [.int (i : Nat), x])) { s with heap := h2', toks := tk } :=
      I.turnedNew (ch := [e, it]) (fun c o hb q => hk2 c o hb (hk c o hb q)) hf hnew new
    refine ⟨.ref T, _, I1, rfl, ⟨T, x, rfl, I.hok.fresh hnew, rfl, fun l hl => by rw [inv_sq_inj k I hl hq]; exact hx⟩, ⟨st2.1, st2.2.1⟩, fun c hcm => ?_⟩
    have hlt : c < s.heap.objs.size := by
      have e' : c = e ∨ c = it := by simpa using hcm
      rcases e' with q | q
      · rw [q]; obtain ⟨old, e⟩ := he; exact Heap.lt_size e
      · rw [q]; obtain ⟨_, e, _⟩ := itS_obj k hit; exact Heap.lt_size e
    rw [upd_ne (Nat.ne_of_lt (Nat.lt_of_lt_of_le hlt hnew))]
    exact (hf c hcm).1
  done := by
    intro X hP hw hK hc i pins s σ H E I hf st hg
    subst hP hw hK
    obtain ⟨he, hit⟩ := st
    obtain ⟨xs, hq, hx⟩ := hg
    obtain ⟨its, rv, p⟩ := inv_sq k I hq
    have hh : X.A.in1.handled = none := I.ok.hd hc
    have W := WalksT.enumFrom (prog := X.prog) (w := X.w) (A := X.A) 0 (drawsS k hh it a hai its.toArray) e hei (by simp [hei, hea]) (by simp)
    have en : i = its.toArray.size := by rw [List.size_toArray, ← rv.length]; exact hx.symm
    subst en
    exact W.done s _ _ ⟨he, hit, p⟩ fun h' tk hk => ⟨rfl, I.turnedL (ch := [e, it]) (fun c o hb q => hk c o hb q) hf⟩
  self := fun A i s Q E st h => let ⟨⟨_, he⟩, _⟩ := st; wpAny_pyIter_enum he h

open AutoSeq1 (wpAny_loadPart') in
theorem meets_enum1 {v : Value} {o : Obj} {H : Heap → Prop} (B : Begins v o H) :
    Meets (Builtin.«enumerate.__new__» ⟨[.type "enumerate", v], []⟩) (fun _ R s => H s.heap ∧
      R (.ok (.ret (.ref (s.heap.push o).objs.size))) { s with heap := (s.heap.push o).push { cls := .type "enumerate", data := .fields #[.none, .bool false, .ref s.heap.objs.size, rawInt 0, .none, .none] } }) :=
  .of_wp fun prog w A R s h => by
    obtain ⟨hp, g, d, tk, os⟩ := s; obtain ⟨h1, h⟩ := h
    have hsub := sub_enumerate
    have q1 : ∀ {A' : Around} {E : Value → Shared → Prop} {Q : Value → Shared → Prop}, Q (.ref hp.objs.size) ⟨hp.push o, g, d, tk, os⟩ → wpAny (model prog w) A' (pyIter v) Q E ⟨hp, g, d, tk, os⟩ :=
      fun q => B.iter prog w _ _ ⟨hp, g, d, tk, os⟩ _ h1 q
    wp_walk using q1
    refine wpAny_stack_any fun st => wpAny_pure ?_
    split
    · rename_i c _ _ _ _ _
      cases (c == Value.type "enumerate")
      · wp_walk using q1
        exact ⟨_, rfl, h⟩
      · wp_walk using q1
        exact ⟨_, rfl, h⟩
    · wp_walk using q1
      exact ⟨_, rfl, h⟩
theorem enum_begins1 {prog : Program} {w : World} {A : Around} {E : Value → Shared → Prop} {s : Shared} {v : Value} {o : Obj} {H : Heap → Prop} {Q : Value → Shared → Prop} (B : Begins v o H) (h1 : H s.heap)
    (h : ∀ h', IsEnum h' (s.heap.objs.size + 1) s.heap.objs.size 0 .none → h'.get? s.heap.objs.size = some o → h'.objs.size = s.heap.objs.size + 2 →
      (∀ b o, s.heap.get? b = some o → h'.get? b = some o) → Q (.ref (s.heap.objs.size + 1)) { s with heap := h' }) :
    wpAny (model prog w) A (call (.type "enumerate") [v]) Q E s := by
  refine callType_new F.called_enumerate (by decide) (F.typeCall_enumerate_1 _) (F.newCall_enumerate_1 _) (fun obj => F.args_object_init_2 obj _) F.entry_enumerate_new
    (meets_enum1 B) ⟨h1, ?_⟩
  have hz : (s.heap.push o).objs.size = s.heap.objs.size + 1 := Heap.size_push ..
  show _ ∧ _
  rw [hz]
  have he : IsEnum ((s.heap.push o).push
      { cls := .type "enumerate", data := .fields #[.none, .bool false, .ref s.heap.objs.size, rawInt 0, .none, .none] }) (s.heap.objs.size + 1) s.heap.objs.size 0 .none := by
    have := Heap.get?_push_size (s.heap.push o)
      (o := { cls := .type "enumerate", data := .fields #[.none, .bool false, .ref s.heap.objs.size, rawInt 0, .none, .none] }) rfl
    rw [hz] at this; exact this
  refine ⟨⟨_, he, rfl⟩, h _ he (Heap.get?_push_of_some _ (Heap.get?_push_size _ B.free)) (by rw [Heap.size_push, hz]) fun b o x => Heap.get?_push_of_some _ (Heap.get?_push_of_some _ x)⟩
def iEnumS (K : Frag) (ta : TA) : TI := fun σ H R => ta σ H fun vs H1 => ∃ a xs k, vs = [.ref a] ∧ SqS K k H1 a xs ∧ R (IteS K k a) H1
theorem pi_enumS {X : Cx} {e : Expr} {ta : TA} {p pos tpos : Pos} {elts : List Expr} {kk : Nat} (hm : X.mg "enumerate" = none) (ha : PA X [e] ta) (hg : Gl X "enumerate" := by rfl) (hs : starEach [e] X.env = [(false, eval e X.env)] := by rfl) :
    PI X (.Tuple elts kk tpos) (.Call (.Name "enumerate" p) [e] [] pos) (iEnumS X.K ta) := by
  refine ⟨fun pins s σ H R I h => ?_⟩
  refine Call_ (ld_blt I hg hm boot_enumerate (PyProof.Rows.callWith_type1 (thn (ha.run pos pins s σ H _ I h) fun us s1 ⟨vs, H1, I1, r1, q1⟩ => ?_) hs rfl))
  obtain ⟨a, xs, k, ex, hq, q⟩ := q1
  subst ex
  cases r1 with
  | cons r rr =>
    cases rr
    cases r
    obtain ⟨its, rv, p'⟩ := inv_sq k I1 hq
    have la : a < s1.heap.objs.size := isS_lt k p'
    refine enum_begins1 (beginsS k a its.toArray) p' fun h' he hit hsz hk => wpAny_pyIter_enum he ?_
    have I2 : L2.Inv X pins σ H1 { s1 with heap := h' } := I1.kept (t' := s1.toks) hk
    refine ⟨s1.heap.objs.size + 1, [s1.heap.objs.size + 1, s1.heap.objs.size], _, _, H1, rfl, I2, turn_enumS k (a := a) (e := s1.heap.objs.size + 1) (it := s1.heap.objs.size) (Nat.succ_ne_self _) (Nat.ne_of_gt (Nat.lt_succ_of_lt la)) (Nat.ne_of_lt la), ⟨⟨.none, he⟩, itS_new k hit⟩, fun b hb => ?_, q⟩
    have e' : b = s1.heap.objs.size + 1 ∨ b = s1.heap.objs.size := by simpa using hb
    have hle : s1.heap.objs.size ≤ b := by
      rcases e' with z | z
      · rw [z]; exact Nat.le_add_right _ _
      · rw [z]; exact Nat.le_refl _
    exact I1.fpOk hle (I1.hok.fresh hle)
/-- a list or a tuple walked -/
def iSeq (K : Frag) (tl : TE) : TI := fun σ H R => tl σ H fun x H1 => ∃ a, x = .ref a ∧ ((∃ xs, SqL K H1 a xs) ∧ R (Itl K a) H1 ∨ (∃ xs, SqT K H1 a xs) ∧ R (Itt K a) H1)
theorem pi_seq {X : Cx} {tg l : Expr} {tl : TE} (hl : PE X l tl) : PI X tg l (iSeq X.K tl) := by
  refine ⟨fun pins s σ H R I h => ?_⟩
  refine thn (hl.run pins s σ H _ I h) fun v s1 ⟨x, H1, I1, r1, q1⟩ => ?_
  obtain ⟨a, e, q⟩ := q1
  subst e
  cases r1
  rcases q with ⟨⟨xs, hq⟩, q⟩ | ⟨⟨xs, hq⟩, q⟩
  · obtain ⟨its, rv, p, hz⟩ := I1.list hq
    refine wpAny_pyIter_list p.isList ?_
    refine ⟨s1.heap.objs.size, [s1.heap.objs.size], _, _, H1, rfl, I1.kept (t' := s1.toks) fun b o e => Heap.get?_push_of_some _ e, turn_list a _, ⟨_, Heap.get?_push_size _ rfl, rfl, rfl⟩, fun b hb => ?_, q⟩
    have e : b = s1.heap.objs.size := by simpa using hb
    subst e
    exact I1.fpOk (Nat.le_refl _) (I1.hok.fresh (Nat.le_refl _))
  · obtain ⟨its, rv, p, hz⟩ := I1.tuple hq
    refine wpAny_pyIter_tuple (show s1.heap.IsTuple a its.toArray from p) ?_
    refine ⟨s1.heap.objs.size, [s1.heap.objs.size], _, _, H1, rfl, I1.kept (t' := s1.toks) fun b o e => Heap.get?_push_of_some _ e, turn_tuple a _, ⟨_, Heap.get?_push_size _ rfl, rfl, rfl⟩, fun b hb => ?_, q⟩
    have e : b = s1.heap.objs.size := by simpa using hb
    subst e
    exact I1.fpOk (Nat.le_refl _) (I1.hok.fresh (Nat.le_refl _))
end DW

/-! DWL: loops and comprehensions over data. -/
namespace DW
open PySem L2

/-! ### what is walked -/
/-- from the state G1 on the iterator gives the items, whatever is done to one's own lists -/
structure ItOk (F : Fx) (G1 : Hp) (J : It) (ds : List D) : Prop where
  go : ∀ i G H, Sub G1 G → Ext F.T F.G0 F.H0 G H → i < ds.length → J.go i H
  yld : ∀ i G H x H', Sub G1 G → Ext F.T F.G0 F.H0 G H → i < ds.length → J.yld i H x H' → ∃ d G', ds[i]? = some d ∧ Ext F.T G H G' H' ∧ Rep G' x d
  stop : ∀ G H, Sub G1 G → Ext F.T F.G0 F.H0 G H → J.stop ds.length H
abbrev DI := DEnv → (List D → Prop) → Prop
def SimI (F : Fx) (wi : TI) (ei : DI) : Prop := ∀ (σ : St) (H G : Hp) (δ : DEnv) (R : List D → Prop) (R' : It → Hp → Prop), SRep F G H σ δ → ei δ R →
  (∀ J G' H' ds, Ext F.T G H G' H' → ItOk F G' J ds → R ds → R' J H') → wi σ H R'
structure FI (X : Cx) (F : Fx) (tg iter : Expr) (wi : TI) (ei : DI) : Prop where
  pi : PI X tg iter wi
  sim : SimI F wi ei
/-- where a list or tuple lies for good -/
def Ly (F : Fx) (G : Hp) (a : Addr) (k : Src) (vs : List V) : Prop := match k with
  | .L => G a = some (.lst vs) ∨ F.H0 a = some (.lst vs)
  | .T => G a = some (.tup vs)
theorem Ly.at {F : Fx} {G1 G H : Hp} {a : Addr} {k : Src} {vs : List V} {K : Frag} (l : Ly F G1 a k vs) (s : Sub G1 G) (e : Ext F.T F.G0 F.H0 G H) : SqS K k H a vs := by
  cases k with
  | L =>
    rcases l with h | h
    · exact .of (e.gh _ _ (s _ _ h))
    · exact .of (e.hk _ _ h (fun ps q => nomatch q))
  | T => exact .of (e.gh _ _ (s _ _ l))
/-- a datum's items -/
def items : D → Option (List D)
  | .lst ds => some ds
  | .tup ds => some ds
  | _ => none
theorem ly_of {F : Fx} {H0 G H : Hp} {v : V} {d : D} {ds : List D} (r : RV F .s H0 G H v d) (h : items d = some ds) : ∃ a k vs, v = .ref a ∧ Ly F G a k vs ∧ Reps G vs ds := by
  cases d with
  | lst es => cases h; obtain ⟨a, vs, rfl, _, h2, h3⟩ := r; exact ⟨a, .L, vs, rfl, h2, h3⟩
  | tup es => cases h; cases (show Rep G v (.tup ds) from r) with | tup h1 h2 => exact ⟨_, .T, _, rfl, h1, h2⟩
  | _ => cases h
section
variable {X : Cx} {F : Fx} {tg e : Expr} {te : TE} {ee : DE} {p pos tpos : Pos} {t : TA} {er : DA}
theorem fi_seq (he : FE X F .s e te ee) : FI X F tg e (iSeq X.K te) (fun δ R => ee δ fun d => asO (items d) R) := ⟨pi_seq he.pe, fun σ H G δ R R' s ev k => by
  refine he.sim σ H G δ _ _ s ev fun v G' H' d x r q => ?_
  have zz := q.out; clear q; obtain ⟨ds, hi, q⟩ := zz
  obtain ⟨a, kk, vs, rfl, l, rs⟩ := ly_of r hi
  have e0 := s.ext.trans x
  cases kk with
  | L =>
    have e1 : SqL X.K H' a vs := l.at (K := X.K) (.refl _) e0
    refine ⟨a, rfl, .inl ⟨⟨vs, e1⟩, k (Itl X.K a) G' H' ds x ⟨fun i G2 H2 s2 x2 hi => ?_, fun i G2 H2 y H3 s2 x2 _ hy => ?_, fun G2 H2 s2 x2 => ?_⟩ q⟩⟩
    · obtain ⟨v, h1, _⟩ := rs.get (List.getElem?_eq_getElem hi)
      exact ⟨vs, v, l.at (K := X.K) s2 x2, h1⟩
    · obtain ⟨rfl, h2⟩ := hy
      obtain ⟨d, h3, h4⟩ := rs.getV (h2 vs (l.at (K := X.K) s2 x2))
      exact ⟨d, G2, h3, .refl x2.wf, h4.mono s2⟩
    · exact ⟨vs, l.at (K := X.K) s2 x2, by rw [rs.length]; exact Nat.le_refl _⟩
  | T =>
    have e1 : SqT X.K H' a vs := l.at (K := X.K) (.refl _) e0
    refine ⟨a, rfl, .inr ⟨⟨vs, e1⟩, k (Itt X.K a) G' H' ds x ⟨fun i G2 H2 s2 x2 hi => ?_, fun i G2 H2 y H3 s2 x2 _ hy => ?_, fun G2 H2 s2 x2 => ?_⟩ q⟩⟩
    · obtain ⟨v, h1, _⟩ := rs.get (List.getElem?_eq_getElem hi)
      exact ⟨vs, v, l.at (K := X.K) s2 x2, h1⟩
    · obtain ⟨rfl, h2⟩ := hy
      obtain ⟨d, h3, h4⟩ := rs.getV (h2 vs (l.at (K := X.K) s2 x2))
      exact ⟨d, G2, h3, .refl x2.wf, h4.mono s2⟩
    · exact ⟨vs, l.at (K := X.K) s2 x2, by rw [rs.length]; exact Nat.le_refl _⟩⟩
theorem fi_seqK {K : Frag} (hK : X.K = K) (he : FE X F .s e te ee) : FI X F tg e (iSeq K te) (fun δ R => ee δ fun d => asO (items d) R) := by subst hK; exact fi_seq he
theorem rng_ok {G1 : Hp} (lo : Int) (n : Nat) : ItOk F G1 (Itr lo n) ((List.range n).map fun i => D.int (lo + (i : Nat))) where
  go := fun i G H _ _ h => by show i < n; simpa using h
  yld := fun i G H x H' s x2 hi h => by
    obtain ⟨rfl, rfl⟩ := h
    have hi : i < n := by simpa using hi
    exact ⟨.int (lo + i), G, by simp [hi], .refl x2.wf, .int _⟩
  stop := fun G H _ _ => by show n ≤ _; simp
def RngOk (i j : Int) : Prop := -(2 ^ 62) ≤ i ∧ i < 2 ^ 62 ∧ -(2 ^ 62) ≤ j ∧ j < 2 ^ 62
theorem fi_range1 (hm : X.mg "range" = none) (hb : FB X F [e] t er) (hg : Gl X "range" := by rfl) (hs : starEach [e] X.env = [(false, eval e X.env)] := by rfl) : FI X F tg (.Call (.Name "range" p) [e] [] pos) (iRng1 t)
    (fun δ R => er δ fun ds => as1 ds fun x => asI x fun j => RngOk 0 j ∧ R ((List.range j.toNat).map fun i => D.int (0 + (i : Nat)))) := ⟨pi_range1 hg hm hb.pa hs, fun σ H G δ R R' s ev k => by
  refine hb.sim σ H G δ _ _ s ev fun vs G' H' ds x r q => ?_
  have zz := q.out; clear q; obtain ⟨x, rfl, q⟩ := zz
  have zz := q.out; clear q; obtain ⟨j, rfl, h, q⟩ := zz
  obtain ⟨v, rfl, r2⟩ := rts1 r
  cases (show Rep G' v (.int j) from r2)
  exact ⟨j, rfl, h.2.2.1, h.2.2.2, k _ G' H' _ x (rng_ok 0 j.toNat) q⟩⟩
theorem fi_range2 {e2 : Expr} (hm : X.mg "range" = none) (hb : FB X F [e, e2] t er) (hg : Gl X "range" := by rfl) (hs : starEach [e, e2] X.env = [(false, eval e X.env), (false, eval e2 X.env)] := by rfl) (hs2 : starEach [e2] X.env = [(false, eval e2 X.env)] := by rfl) :
    FI X F tg (.Call (.Name "range" p) [e, e2] [] pos) (iRng2 t)
    (fun δ R => er δ fun ds => as2 ds fun x y => asI x fun i => asI y fun j => RngOk i j ∧ R ((List.range (j - i).toNat).map fun k => D.int (i + (k : Nat)))) := ⟨pi_range2 hg hm hb.pa hs hs2, fun σ H G δ R R' s ev k => by
  refine hb.sim σ H G δ _ _ s ev fun vs G' H' ds x r q => ?_
  have zz := q.out; clear q; obtain ⟨x, y, rfl, q⟩ := zz
  have zz := q.out; clear q; obtain ⟨i, rfl, q⟩ := zz
  have zz := q.out; clear q; obtain ⟨j, rfl, h, q⟩ := zz
  obtain ⟨v, u, rfl, r1, r2⟩ := rts2 r
  cases (show Rep G' v (.int i) from r1)
  cases (show Rep G' u (.int j) from r2)
  exact ⟨i, j, rfl, h, k _ G' H' _ x (rng_ok i (j - i).toNat) q⟩⟩
theorem Ly.mono {F : Fx} {G G' : Hp} {a : Addr} {k : Src} {vs : List V} (l : Ly F G a k vs) (s : Sub G G') : Ly F G' a k vs := by
  cases k with
  | L =>
    rcases l with h | h
    · exact .inl (s _ _ h)
    · exact .inr h
  | T => exact s _ _ l
/-- a new pair, given out by zip or enumerate -/
theorem pair_new {T : Tbs} {G H : Hp} {p : Addr} {x y : V} {d e : D} (w : Wf G H) (hp : H p = none) (r1 : Rep G x d) (r2 : Rep G y e) : ∃ G', Ext T G H G' (upd H p (.tup [x, y])) ∧ Rep G' (.ref p) (.tup [d, e]) :=
  ⟨_, upd_newG w hp (fun ps q => nomatch q), .tup upd_same (.cons (r1.mono (.upd_new (w.none hp))) (.cons (r2.mono (.upd_new (w.none hp))) .nil))⟩
theorem fi_enum {elts : List Expr} {kk : Nat} (hm : X.mg "enumerate" = none) (he : FE X F .s e te ee) (hg : Gl X "enumerate" := by rfl) (hs : starEach [e] X.env = [(false, eval e X.env)] := by rfl) (hse : starEach [e] X.env = (false, eval e X.env) :: starEach [] X.env := by rfl) :
    FI X F (.Tuple elts kk tpos) (.Call (.Name "enumerate" p) [e] [] pos) (iEnumS X.K (tCons te tNil))
    (fun δ R => ee δ fun d => asO (items d) fun ds => R ((List.range ds.length).zipWith (fun i d => D.tup [.int (i : Nat), d]) ds)) := ⟨pi_enumS hm (pa_cons he.pe pa_nil hse) hg hs, fun σ H G δ R R' s ev k => by
  refine he.sim σ H G δ _ _ s ev fun v G' H' d x r q => ?_
  have zz := q.out; clear q; obtain ⟨ds, hi, q⟩ := zz
  obtain ⟨a, kk, vs, rfl, l, rs⟩ := ly_of r hi
  have e0 := s.ext.trans x
  refine ⟨a, vs, kk, rfl, l.at (K := X.K) (.refl _) e0, k _ G' H' _ x ⟨fun i G2 H2 s2 x2 hi => ?_, fun i G2 H2 y H3 s2 x2 hi hy => ?_, fun G2 H2 s2 x2 => ?_⟩ q⟩
  · have hi : i < ds.length := by simpa using hi
    obtain ⟨v, h1, _⟩ := rs.get (List.getElem?_eq_getElem hi)
    exact ⟨vs, v, l.at (K := X.K) s2 x2, h1⟩
  · have hi : i < ds.length := by simpa using hi
    obtain ⟨p, v, rfl, hp, rfl, h2⟩ := hy
    obtain ⟨d, h3, h4⟩ := rs.getV (h2 vs (l.at (K := X.K) s2 x2))
    obtain ⟨G3, x3, r3⟩ := pair_new (T := F.T) x2.wf hp (.int (i : Nat)) (h4.mono s2)
    exact ⟨_, G3, by rw [List.getElem?_zipWith, h3, List.getElem?_range hi], x3, r3⟩
  · exact ⟨vs, l.at (K := X.K) s2 x2, by rw [rs.length]; simp⟩⟩
theorem fi_enumK {K : Frag} (hK : X.K = K) {elts : List Expr} {kk : Nat} (hm : X.mg "enumerate" = none) (he : FE X F .s e te ee) (hg : Gl X "enumerate" := by rfl) (hs : starEach [e] X.env = [(false, eval e X.env)] := by rfl) (hse : starEach [e] X.env = (false, eval e X.env) :: starEach [] X.env := by rfl) :
    FI X F (.Tuple elts kk tpos) (.Call (.Name "enumerate" p) [e] [] pos) (iEnumS K (tCons te tNil))
    (fun δ R => ee δ fun d => asO (items d) fun ds => R ((List.range ds.length).zipWith (fun i d => D.tup [.int (i : Nat), d]) ds)) := by subst hK; exact fi_enum hm he hg hs hse
theorem fi_zip {e2 : Expr} {te2 : TE} {ee2 : DE} {elts : List Expr} {kk : Nat} (hm : X.mg "zip" = none) (he : FE X F .s e te ee) (he2 : FE X F .s e2 te2 ee2) (hg : Gl X "zip" := by rfl)
    (hs : starEach [e, e2] X.env = (false, eval e X.env) :: starEach [e2] X.env := by rfl) (hpl : (backTo pos (starEach [e2] X.env)).any (·.1) = false := by rfl) (hse : starEach [e2] X.env = (false, eval e2 X.env) :: starEach [] X.env := by rfl) :
    FI X F (.Tuple elts kk tpos) (.Call (.Name "zip" p) [e, e2] [] pos) (iZipS X.K (tCons te (tCons te2 tNil)))
    (fun δ R => ee δ fun d => ee2 δ fun d2 => asO (items d) fun ds => asO (items d2) fun ds2 => R (ds.zipWith (fun x y => D.tup [x, y]) ds2)) := ⟨pi_zipS hm (pa_cons he.pe (pa_cons he2.pe pa_nil hse) hs) hg hs hpl, fun σ H G δ R R' s ev k => by
  refine he.sim σ H G δ _ _ s ev fun v G1 H1 d x1 r1 q => ?_
  refine he2.sim σ H1 G1 δ _ _ (s.to x1) q fun u G' H' d2 x2 r2 q => ?_
  have zz := q.out; clear q; obtain ⟨ds, hi1, q⟩ := zz
  have zz := q.out; clear q; obtain ⟨ds2, hi2, q⟩ := zz
  obtain ⟨a, k1, vs, rfl, l1, rs1⟩ := ly_of r1 hi1
  obtain ⟨b, k2, us, rfl, l2, rs2⟩ := ly_of r2 hi2
  have x := x1.trans x2
  have e0 := s.ext.trans x
  have l1' := l1.mono x2.gs
  refine ⟨a, b, vs, us, k1, k2, rfl, l1'.at (K := X.K) (.refl _) e0, l2.at (K := X.K) (.refl _) e0, k _ G' H' _ x ⟨fun i G2 H2 s2 x2 hi => ?_, fun i G2 H2 y H3 s2 x2 hi hy => ?_, fun G2 H2 s2 x2 => ?_⟩ q⟩
  · have hi : i < ds.length ∧ i < ds2.length := by simpa [Nat.lt_min] using hi
    obtain ⟨v, h1, _⟩ := rs1.get (List.getElem?_eq_getElem hi.1)
    obtain ⟨u, h2, _⟩ := rs2.get (List.getElem?_eq_getElem hi.2)
    exact ⟨vs, us, v, u, l1'.at (K := X.K) s2 x2, l2.at (K := X.K) s2 x2, h1, h2⟩
  · obtain ⟨p, v, u, rfl, hp, rfl, h2, h3⟩ := hy
    obtain ⟨d, h4, h5⟩ := rs1.getV (h2 vs (l1'.at (K := X.K) s2 x2))
    obtain ⟨d2, h6, h7⟩ := rs2.getV (h3 us (l2.at (K := X.K) s2 x2))
    obtain ⟨G3, x3, r3⟩ := pair_new (T := F.T) x2.wf hp ((h5.mono (‹Ext F.T G1 H1 G' H'›).gs).mono s2) (h7.mono s2)
    exact ⟨_, G3, by simp [List.getElem?_zipWith, h4, h6], x3, r3⟩
  · exact ⟨vs, us, l1'.at (K := X.K) s2 x2, l2.at (K := X.K) s2 x2, by rw [rs1.length, rs2.length]; simp⟩⟩

/-! ### for, while -/
/-- the loop over the items -/
theorem fi_zipK {K : Frag} (hK : X.K = K) {e2 : Expr} {te2 : TE} {ee2 : DE} {elts : List Expr} {kk : Nat} (hm : X.mg "zip" = none) (he : FE X F .s e te ee) (he2 : FE X F .s e2 te2 ee2) (hg : Gl X "zip" := by rfl)
    (hs : starEach [e, e2] X.env = (false, eval e X.env) :: starEach [e2] X.env := by rfl) (hpl : (backTo pos (starEach [e2] X.env)).any (·.1) = false := by rfl) (hse : starEach [e2] X.env = (false, eval e2 X.env) :: starEach [] X.env := by rfl) :
    FI X F (.Tuple elts kk tpos) (.Call (.Name "zip" p) [e, e2] [] pos) (iZipS K (tCons te (tCons te2 tNil)))
    (fun δ R => ee δ fun d => ee2 δ fun d2 => asO (items d) fun ds => asO (items d2) fun ds2 => R (ds.zipWith (fun x y => D.tup [x, y]) ds2)) := by subst hK; exact fi_zip hm he he2 hg hs hpl hse
def dFor (g : DG) (b : DS) (Dd : DEnds) : List D → DEnv → Prop
  | [], δ => Dd.nx δ
  | d :: ds, δ => g d δ fun δ1 => b { nx := dFor g b Dd ds, rt := Dd.rt, bk := Dd.nx, ct := dFor g b Dd ds } δ1
def sFor (ei : DI) (g : DG) (b : DS) : DS := fun Dd δ => ei δ fun ds => dFor g b Dd ds δ
theorem fs_for {iter : Expr} {body : List Stmt} {wi : TI} {ei : DI} {g : TG} {eg : DG} {is : List Nat} {tb : TS} {eb : DS} (hp : PassesOwn (model X.prog X.w) X.A X.env X.xe) (hc : X.calm = true) (hi : FI X F tg iter wi ei) (hg : FG X F tg g eg is) (hb : FSs X F body tb eb)
    (hs : ∀ x, foldedSetIterable iter X.env x = pure x := by intro _; rfl) : FS X F (.For tg iter body [] pos) (tFor wi g tb) (sFor ei eg eb) := ⟨ps_for hp hc hi.pi hg.pg hb.ps hs, fun σ H G Gf δ Dd De s sf k ev => by
  refine hi.sim σ H G δ _ _ s ev fun J G1 H1 ds x io q => ?_
  have gf1 : Sub Gf G1 := sf.trans x.gs
  refine ⟨fun i m σ H => ∃ G δ, SRep F G H σ δ ∧ Sub G1 G ∧ i + m = ds.length ∧ dFor eg eb Dd (ds.drop i) δ, ⟨ds.length, G1, δ, s.to x, .refl _, Nat.zero_add _, q⟩, fun i m σ H ⟨G2, δ2, s2, sub, hm, q2⟩ => ?_⟩
  by_cases hlt : i < ds.length
  · rw [List.drop_eq_getElem_cons hlt] at q2
    refine .inr ⟨io.go i G2 H sub s2.ext hlt, fun σ' H' => ∃ G δ, SRep F G H' σ' δ ∧ Sub G1 G ∧ dFor eg eb Dd (ds.drop (i + 1)) δ, fun σ' H' ⟨G3, δ3, s3, sub3, q3⟩ => ⟨m - 1, by omega, G3, δ3, s3, sub3, by omega, q3⟩, fun x0 H' hy => ?_⟩
    obtain ⟨d, G3, e1, x3, r3⟩ := io.yld i G2 H x0 H' sub s2.ext hlt hy
    rw [List.getElem?_eq_getElem hlt] at e1
    cases e1
    refine hg.sim x0 _ σ H' G3 δ2 _ _ (s2.to x3) r3 q2 fun σ4 δ4 s4 _ q4 => ?_
    have sub4 : Sub G1 G3 := sub.trans x3.gs
    refine hb.sim σ4 H' G3 G1 δ4 { nx := fun δ => dFor eg eb Dd (ds.drop (i + 1)) δ, rt := Dd.rt, bk := Dd.nx, ct := fun δ => dFor eg eb Dd (ds.drop (i + 1)) δ } _ s4 sub4 ⟨fun σ5 H5 G5 δ5 s5 f5 q5 => ⟨G5, δ5, s5, f5, q5⟩, k.rt, fun σ5 H5 G5 δ5 s5 f5 q5 => k.nx σ5 H5 G5 δ5 s5 (gf1.trans f5) q5, fun σ5 H5 G5 δ5 s5 f5 q5 => ⟨G5, δ5, s5, f5, q5⟩⟩ q4
  · have e : i = ds.length := by omega
    subst e
    rw [List.drop_length] at q2
    exact .inl ⟨io.stop G2 H sub s2.ext, k.nx σ H G2 δ2 s2 (gf1.trans sub) q2⟩⟩
end
end DW

/-! DWC: while, comprehensions, lists changed in place. -/
namespace DW
open PySem L2

section
variable {X : Cx} {F : Fx} {st : Stmt} {rest : List Stmt} {e : Expr} {te : TE} {ee : DE} {pos : Pos} {m : Md}
def sWhile (c : DT) (b : DS) : DS := fun Dd δ => ∃ W : Nat → DEnv → Prop, (∃ m, W m δ) ∧ ∀ m δ, W m δ → c δ fun k => if k = true then b { nx := fun δ' => ∃ m', m' < m ∧ W m' δ', rt := Dd.rt, bk := Dd.nx, ct := fun δ' => ∃ m', m' < m ∧ W m' δ' } δ else Dd.nx δ
theorem fs_while {c : Expr} {body : List Stmt} {tc : TT} {tb : TS} {ec : DT} {eb : DS} (hp : PassesOwn (model X.prog X.w) X.A X.env X.xe) (hc : FT X F c tc ec) (hb : FSs X F body tb eb) : FS X F (.While c body [] pos) (tWhile tc tb) (sWhile ec eb) := ⟨ps_while hp hc.pt hb.ps, fun σ H G Gf δ Dd De s sf k ev => by
  obtain ⟨W, ⟨m0, w0⟩, turn⟩ := ev
  refine ⟨fun m σ H => ∃ G δ, SRep F G H σ δ ∧ Sub Gf G ∧ W m δ, ⟨m0, G, δ, s, sf, w0⟩, fun m σ H ⟨G2, δ2, s2, sf2, w2⟩ => ?_⟩
  refine hc.sim σ H G2 δ2 _ _ s2 (turn m δ2 w2) fun b G3 H3 x q => ?_
  cases b with
  | false => exact k.nx σ H3 G3 δ2 (s2.to x) (sf2.trans x.gs) q
  | true =>
    refine ⟨fun σ' H' => ∃ G δ, SRep F G H' σ' δ ∧ Sub Gf G ∧ ∃ m', m' < m ∧ W m' δ, fun σ' H' ⟨G4, δ4, s4, sf4, m', hm, w4⟩ => ⟨m', hm, G4, δ4, s4, sf4, w4⟩, ?_⟩
    exact hb.sim σ H3 G3 Gf δ2 { nx := fun δ' => ∃ m', m' < m ∧ W m' δ', rt := Dd.rt, bk := Dd.nx, ct := fun δ' => ∃ m', m' < m ∧ W m' δ' } _ (s2.to x) (sf2.trans x.gs)
      ⟨fun σ5 H5 G5 δ5 s5 f5 q5 => ⟨G5, δ5, s5, f5, q5⟩, k.rt, fun σ5 H5 G5 δ5 s5 f5 q5 => k.nx σ5 H5 G5 δ5 s5 f5 q5, fun σ5 H5 G5 δ5 s5 f5 q5 => ⟨G5, δ5, s5, f5, q5⟩⟩ q⟩

/-! ### comprehensions -/
/-- within a comprehension no exception leaves -/
def Fx.no (F : Fx) : Fx := { F with E := E0, EX := fun _ => False }
theorem SRep.no {G H : Hp} {σ : St} {δ : DEnv} (s : SRep F G H σ δ) : SRep F.no G H σ δ :=
  ⟨s.len, s.ext, fun i sv h => let ⟨v, h1, h2⟩ := s.slot i sv h; ⟨v, h1, by cases sv <;> exact h2⟩, s.sep, s.tabs⟩
theorem SRep.un {G H : Hp} {σ : St} {δ : DEnv} (s : SRep F.no G H σ δ) : SRep F G H σ δ :=
  ⟨s.len, s.ext, fun i sv h => let ⟨v, h1, h2⟩ := s.slot i sv h; ⟨v, h1, by cases sv <;> exact h2⟩, s.sep, s.tabs⟩
theorem Fx.no_exc : F.no.exc := fun _ _ _ _ _ _ _ _ h => h.elim
structure FTs (X : Cx) (F : Fx) (ifs : List Expr) (t : TT) (ev : DT) : Prop where
  pt : PTs X ifs t
  sim : SimT F t ev
theorem fts_nil : FTs X F [] tYes (fun _ Q => Q true) := ⟨pts_nil, fun σ H G δ Q Q' s e k => k true G H (.refl s.wf) e⟩
theorem fts_one {c : Expr} {t : TT} {ev : DT} (h : FT X F c t ev) : FTs X F [c] t ev := ⟨pts_one h.pt, h.sim⟩
/-- the slots of the block's own names forgotten -/
def wipeD (δ : DEnv) : List Nat → DEnv
  | [] => δ
  | v :: vs => (wipeD δ vs).set v none
theorem SRep.wipe {G H : Hp} {σ : St} {δ : DEnv} (s : SRep F G H σ δ) : ∀ vs : List Nat, SRep F G H (L2.wipe σ vs) (wipeD δ vs)
  | [] => s
  | v :: vs => by
    have s := SRep.wipe s vs
    refine ⟨by unfold L2.wipe wipeD; rw [List.length_set, List.length_set]; exact s.len, s.ext, fun i sv h => ?_, fun i j ds es ne h1 h2 => ?_, s.tabs⟩
    · rcases set_get h with ⟨rfl, q, _⟩ | ⟨ne, h⟩
      · cases q
      · obtain ⟨u, h1, h2⟩ := s.slot i sv h
        exact ⟨u, by unfold L2.wipe; rw [List.getElem?_set_ne ne]; exact h1, h2⟩
    · rcases set_get h1 with ⟨rfl, q, _⟩ | ⟨n1, h1⟩
      · cases q
      · rcases set_get h2 with ⟨rfl, q, _⟩ | ⟨n2, h2⟩
        · cases q
        · unfold L2.wipe
          rw [List.getElem?_set_ne n1, List.getElem?_set_ne n2]
          exact s.sep i j ds es ne h1 h2
theorem wipe_get {σ : St} {j : Nat} : ∀ {vs : List Nat}, (L2.wipe σ vs)[j]? = if j ∈ vs then (if j < σ.length then some none else none) else σ[j]?
  | [] => by simp [L2.wipe]
  | v :: vs => by
    unfold L2.wipe
    by_cases h : v = j
    · subst h
      rw [List.getElem?_set]
      simp only [if_true, L2.wipe_length, List.mem_cons_self]
    · rw [List.getElem?_set_ne h, wipe_get]
      have : (j ∈ v :: vs) = (j ∈ vs) := by simp [Ne.symm h]
      simp only [this]
theorem wipe_same {σ σ' : St} {is vs : List Nat} (h : Same0 is (L2.wipe σ vs) σ') (hs : ∀ i ∈ is, i ∈ vs) : L2.wipe σ' vs = L2.wipe σ vs := by
  apply List.ext_getElem?
  intro j
  have hl : σ'.length = σ.length := by rw [h.1, L2.wipe_length]
  rw [wipe_get, wipe_get, hl]
  by_cases hj : j ∈ vs
  · rw [if_pos hj, if_pos hj]
  · rw [if_neg hj, if_neg hj, h.2 j (fun z => hj (hs j z)), wipe_get, if_neg hj]
def dLc (g : DG) (tt : DT) (te : DE) (Q : List D → Prop) (δ : DEnv) : List D → List D → Prop
  | [], acc => Q acc
  | d :: ds, acc => g d δ fun δ2 => tt δ2 fun b => if b = true then te δ2 fun y => dLc g tt te Q δ ds (acc ++ [y]) else dLc g tt te Q δ ds acc
def dComp (ei : DI) (g : DG) (tt : DT) (te : DE) (vs : List Nat) : DE := fun δ Q => ei δ fun ds => ds.length ≤ sizeLine ∧ dLc g tt te (fun ys => Q (.lst ys)) (wipeD δ vs) ds []
/-- a list that is new since G0 H0, outside of the fixed part, is changed in place -/
theorem Ext.updN {T : Tbs} {G0 H0 G H : Hp} {p : Addr} {us us' : List V} (e : Ext T G0 H0 G H) (h0 : H0 p = none) (hg : G p = none) (hp : H p = some (.lst us)) : Ext T G0 H0 G (upd H p (.lst us')) where
  hk := fun b o q n => by
    have : b ≠ p := fun z => by subst z; rw [h0] at q; cases q
    rw [upd_ne this]; exact e.hk b o q n
  dn := fun b q => by
    by_cases z : b = p
    · rw [z]; exact h0
    · rw [upd_ne z] at q; exact e.dn b q
  gs := e.gs
  gh := fun b o q => by
    have : b ≠ p := fun z => by subst z; rw [hg] at q; cases q
    rw [upd_ne this]; exact e.gh b o q
  gt := e.gt
  gn := e.gn
  tb := fun t => tabs_keep (e.tb t) hp
theorem SRep.updN {G H : Hp} {σ : St} {δ : DEnv} {p : Addr} {us us' : List V} (s : SRep F G H σ δ) (h0 : F.H0 p = none) (hg : G p = none) (hp : H p = some (.lst us)) (aw : ∀ (i : Nat) (ds : List D), δ[i]? = some (some (.ow ds)) → σ[i]? ≠ some (some (V.ref p))) :
    SRep F G (L2.upd H p (.lst us')) σ δ where
  len := s.len
  ext := s.ext.updN h0 hg hp
  slot := fun j sv h => by
    obtain ⟨u, q1, q2⟩ := s.slot j sv h
    refine ⟨u, q1, ?_⟩
    cases sv with
    | sh d => exact q2
    | bo es => exact q2
    | ow es =>
      obtain ⟨b, us, rfl, w2, w3, w4, w5⟩ := q2
      refine ⟨b, us, rfl, ?_, w3, w4, w5⟩
      rw [upd_ne]
      · exact w2
      · intro z
        subst z
        exact aw j es h q1
  sep := s.sep
  tabs := tabs_keep s.tabs hp
theorem Ext.keepN {T : Tbs} {G H G' H' : Hp} {p : Addr} {o : HO} (e : Ext T G H G' H') (hp : H p = some o) (hg : G p = none) : G' p = none := by
  cases q : G' p with
  | none => rfl
  | some u => have := e.gn p u q hg; rw [hp] at this; cases this
theorem sim_lc {wi : TI} {ei : DI} {g : TG} {eg : DG} {is : List Nat} {tt : TT} {et : DT} {te : TE} {ee : DE} {vs : List Nat} (hi : SimI F wi ei) (hg : SimG F.no g eg is) (ht : SimT F.no tt et) (he : Sim F.no .g te ee) (hs : ∀ i ∈ is, i ∈ vs) :
    Sim F .f (tLc wi g tt te vs) (dComp ei eg et ee vs) := fun σ H G δ Q Q' s ev k => by
  refine hi σ H G δ _ _ s ev fun J G1 H1 ds x io q => ?_
  obtain ⟨hz, q⟩ := q
  intro D0 hD
  have s1 := (s.to x).wipe vs
  have nG : G1 D0 = none := x.wf.none hD
  have n0 : F.H0 D0 = none := s1.ext.dn _ hD
  have nH : H D0 = none := x.dn _ hD
  have aw : ∀ (i : Nat) (ds : List D), (wipeD δ vs)[i]? = some (some (.ow ds)) → (L2.wipe σ vs)[i]? ≠ some (some (V.ref D0)) := fun i ds h z => by
    obtain ⟨v, h1, a, us, rfl, h2, _⟩ := s1.slot i _ h
    rw [z] at h1
    cases h1
    rw [hD] at h2
    cases h2
  have x0 : Ext F.T G1 H1 G1 (upd H1 D0 (.lst [])) := upd_new x.wf hD (fun ps q => nomatch q)
  -- the list that is made stands at D0, outside of the fixed part
  refine ⟨fun i m H => ∃ G acc us, SRep F G H (L2.wipe σ vs) (wipeD δ vs) ∧ Ext F.T G1 H1 G H ∧ H D0 = some (.lst us) ∧ G D0 = none ∧ Reps G us acc ∧ us.length ≤ i ∧ i + m = ds.length ∧ dLc eg et ee (fun ys => Q (.lst ys)) (wipeD δ vs) (ds.drop i) acc,
    ⟨ds.length, G1, [], [], s1.to x0, x0, upd_same, nG, .nil, Nat.le_refl _, Nat.zero_add _, q⟩, fun i m H2 ⟨G2, acc, us, s2, x2, hD2, nG2, rs, hl, him, q2⟩ => ?_⟩
  by_cases hlt : i < ds.length
  · rw [List.drop_eq_getElem_cons hlt] at q2
    refine .inr ⟨io.go i G2 H2 x2.gs s2.ext hlt, fun H => ∃ G acc us, SRep F G H (L2.wipe σ vs) (wipeD δ vs) ∧ Ext F.T G1 H1 G H ∧ H D0 = some (.lst us) ∧ G D0 = none ∧ Reps G us acc ∧ us.length ≤ i + 1 ∧ dLc eg et ee (fun ys => Q (.lst ys)) (wipeD δ vs) (ds.drop (i + 1)) acc,
      fun H' ⟨G3, acc, us, h1, h2, h3, h4, h5, h6, h7⟩ => ⟨m - 1, by omega, G3, acc, us, h1, h2, h3, h4, h5, h6, by omega, h7⟩, fun v0 H' hy => ?_⟩
    obtain ⟨d, G3, e1, x3, r3⟩ := io.yld i G2 H2 v0 H' x2.gs s2.ext hlt hy
    rw [List.getElem?_eq_getElem hlt] at e1
    cases e1
    have s3 := s2.to x3
    refine hg v0 _ _ H' G3 _ _ _ s3.no r3 q2 fun σ4 δ4 s4 sm q4 => ?_
    refine ⟨wipe_same sm hs, ?_⟩
    refine ht σ4 H' G3 δ4 _ _ s4 q4 fun b G5 H5 x5 q5 => ?_
    cases b with
    | false =>
      have x5' := x3.trans x5
      exact ⟨G5, acc, us, s2.to x5', x2.trans x5', x5'.hk _ _ hD2 (fun ps q => nomatch q), x5'.keepN hD2 nG2, rs.mono x5'.gs, by omega, q5⟩
    | true =>
      refine he σ4 H5 G5 δ4 _ _ (s4.to x5) q5 fun y G6 H6 e x6 r6 q6 => ?_
      have x6' := (x3.trans x5).trans x6
      have hD6 := x6'.hk _ _ hD2 (fun ps q => nomatch q)
      have nG6 := x6'.keepN hD2 nG2
      have s6 := s2.to x6'
      refine ⟨us, hD6, by omega, G6, acc ++ [e], us ++ [y], s6.updN n0 nG6 hD6 aw, (x2.trans x6').updN hD nG6 hD6, upd_same, nG6, (rs.mono x6'.gs).append (.cons r6 .nil), by simp; omega, q6⟩
  · have e : i = ds.length := by omega
    subst e
    rw [List.drop_length] at q2
    exact .inl ⟨io.stop G2 H2 x2.gs s2.ext, k _ G2 H2 (.lst acc) (x.trans x2) ⟨D0, us, rfl, hD2, nH, nG2, rs⟩ q2⟩
/-- a block's contexts -/
abbrev Blk (X : Cx) (scope : Scope) (P : Cx → Prop) : Prop := ∀ (s : Shared) (H : Hp) (C : Addr) (cl : List (Str × Addr)) (fp : List Addr), P (X.blk s H scope (compEnvC scope cl C X.env) fp)
theorem blkOk_at {N N' : List Str} {sc sc' scope : Scope} {own : List (Str × Nat)} (e1 : N = N') (e2 : sc = sc') (h : blkC N' sc' scope own = true) : BlkOk N sc scope own := by subst e1; subst e2; exact blkOk_by h
theorem fe_lc {elt tg iter : Expr} {ifs : List Expr} {scope : Scope} (own : List (Str × Nat)) {wi : TI} {ei : DI} {g : TG} {eg : DG} {is : List Nat} {tt : TT} {et : DT} (hc : X.calm = true) (hN : X.N.Nodup) (ok : BlkOk X.N X.env.scope scope own) (hi : FI X F tg iter wi ei)
    (hg : ∀ (s : Shared) (H : Hp) (C : Addr) (cl : List (Str × Addr)) (fp : List Addr), FG (X.blk s H scope (compEnvC scope cl C X.env) fp) F.no tg g eg is) (ht : ∀ (s : Shared) (H : Hp) (C : Addr) (cl : List (Str × Addr)) (fp : List Addr), FTs (X.blk s H scope (compEnvC scope cl C X.env) fp) F.no ifs tt et) (he : ∀ (s : Shared) (H : Hp) (C : Addr) (cl : List (Str × Addr)) (fp : List Addr), FE (X.blk s H scope (compEnvC scope cl C X.env) fp) F.no .g elt te ee) (hsub : ∀ i ∈ is, i ∈ own.map (·.2) := by decide) (hs : ∀ x, foldedSetIterable iter X.env x = pure x := by intro _; rfl) :
    FE X F .f (.ListComp elt [⟨tg, iter, ifs, 0⟩] scope pos) (tLc wi g tt te (own.map (·.2))) (dComp ei eg et ee (own.map (·.2))) :=
  ⟨pe_lc hc hN hi.pi ok (fun s H C cl fp => (hg s H C cl fp).pg) (fun s H C cl fp => (ht s H C cl fp).pt) (fun s H C cl fp => (he s H C cl fp).pe) hs,
   sim_lc hi.sim (hg {} (fun _ => none) 0 [] []).sim (ht {} (fun _ => none) 0 [] []).sim (he {} (fun _ => none) 0 [] []).sim hsub⟩
end
end DW

/-! DWD: the rule for a def. -/
namespace DW
open PySem L2

theorem RTs.get {G H : Hp} : ∀ {vs : List V} {ds : List D} {i : Nat} {d : D}, RTs G H vs ds → ds[i]? = some d → ∃ v, vs[i]? = some v ∧ RT G H v d
  | [], [], _, _, _, e => by simp at e
  | _ :: _, [], _, _, h, _ => h.elim
  | [], _ :: _, _, _, h, _ => h.elim
  | v :: _, _ :: _, 0, _, h, e => by simp at e; subst e; exact ⟨v, rfl, h.1⟩
  | _ :: _, _ :: _, i + 1, _, h, e => by
    obtain ⟨v, h1, h2⟩ := RTs.get (i := i) h.2 (by simpa using e)
    exact ⟨v, by simpa using h1, h2⟩
def sv0 : D → SV
  | .lst ds => .bo ds
  | d => .sh d
def st0 (N : List Str) (ds : List D) : DEnv := ds.map (fun d => some (sv0 d)) ++ List.replicate (N.length - ds.length) none
theorem SRep.start {F : Fx} {N : List Str} {G H : Hp} {vs : List V} {ds : List D} (hG : F.G0 = G) (hH : F.H0 = H) (w : Wf G H) (t : LamX.Tabs F.T H) (rs : RTs G H vs ds) : SRep F G H (L2.start N vs) (st0 N ds) where
  len := by unfold L2.start st0; rw [List.length_append, List.length_append, List.length_map, List.length_map, List.length_replicate, List.length_replicate, rs.length]
  ext := by rw [hG, hH]; exact .refl w
  slot := fun i sv h => by
    unfold st0 at h
    by_cases hi : i < ds.length
    · rw [List.getElem?_append_left (by simpa using hi), List.getElem?_map] at h
      obtain ⟨d, e1⟩ : ∃ d, ds[i]? = some d := ⟨_, List.getElem?_eq_getElem hi⟩
      rw [e1] at h
      cases h
      obtain ⟨v, e2, r⟩ := rs.get e1
      refine ⟨v, ?_, ?_⟩
      · unfold L2.start
        have hv : i < vs.length := by rw [rs.length]; exact hi
        rw [List.getElem?_append_left (by simpa using hv), List.getElem?_map, e2]; rfl
      · cases d with
        | lst es => obtain ⟨a, us, rfl, h1, h2⟩ := r; exact ⟨a, us, rfl, by rw [hH]; exact h1, h2⟩
        | _ => exact r
    · rw [List.getElem?_append_right (by simpa using hi), List.getElem?_replicate] at h
      split at h <;> cases h
  sep := fun i j xs es ne h1 h2 => by
    unfold st0 at h1
    by_cases hi : i < ds.length
    · rw [List.getElem?_append_left (by simpa using hi), List.getElem?_map] at h1
      cases e : ds[i]? with
      | none => rw [e] at h1; cases h1
      | some d => rw [e] at h1; cases d <;> cases h1
    · rw [List.getElem?_append_right (by simpa using hi), List.getElem?_replicate] at h1
      split at h1 <;> cases h1
  tabs := t
def dEnds (Q : D → Prop) : DEnds := ⟨fun _ => Q .non, Q, fun _ => False, fun _ => False⟩
section
variable {P : Program} {w : World} {K : PySem.W.Frag} {mg : Str → Option Value} {base : Heap}
theorem fn_ok {x qual : Str} {st : Stmt} {f : Addr} {fd : FuncData} {N ps : List Str} {k : Nat} {T : Tbs} {fr : Bool} {sp : DSp} (Fn : Fun K x qual st f fd) (S : FnScope N ps (defScope st)) (len : ∀ ds Q EX, sp ds Q EX → ds.length = ps.length)
    (hbody : ∀ (cdv : Value) (A : Around) (outer : List Env) (s : Shared) (G H : Hp) (E : XK) (EX : Exc → Prop), let X := cxOf (L2.CX P w) P w K mg base N qual (defScope st) f cdv A outer s H E; let F : Fx := ⟨T, G, H, E, EX, fr⟩
      Room k X.A → X.A.units + 64 < cLine → F.exc → Passes (L2.CX P w) X E → PassesOwn (model P w) X.A X.env X.xe → ∃ t ev, FSs X F (defBody st) t ev ∧ ∀ ds Q, sp ds Q EX → ev (dEnds Q) (st0 N ds)) :
    FnOk P w K mg base (L2.CX P w) (k + 1) f fd ps (lift T fr sp) := by
  refine Fn.okX S (fun vs H Q E h => ?_) (fun cdv A outer s H vs Q E hr h => ?_)
  · obtain ⟨G, ds, QD, EX, w1, tb, rs, h, _⟩ := h
    rw [rs.length]; exact len _ _ _ h
  · obtain ⟨G, ds, QD, EX, w1, tb, rs, h, k1, k2⟩ := h
    obtain ⟨t, ev, fs, hev⟩ := hbody cdv A outer s G H E EX hr (by have := hr.un; show (A.deeper (PyProof.Rows.envOfC qual (defScope st) s.heap.objs.size f cdv)).units + 64 < cLine; omega) k2 (passes_call (takes_of rfl rfl rfl rfl) (fun _ _ _ _ h => h)) (passes_of rfl)
    refine ⟨t, fs.ps, ?_⟩
    have s0 : SRep (⟨T, G, H, E, EX, fr⟩ : Fx) G H (L2.start N vs) (st0 N ds) := .start rfl rfl w1 tb rs
    refine fs.sim _ H G G _ (dEnds QD) _ s0 (.refl _) ⟨fun σ H' G' δ s _ q => k1 .non G' H' .non s.ext .non q, fun v H' G' d x r q => k1 v G' H' d x r q, fun _ _ _ _ _ _ q => q.elim, fun _ _ _ _ _ _ q => q.elim⟩ (hev ds QD h)
theorem fn_okD {x qual : Str} {st : Stmt} {dvs : List V} {kws : List (Str × V)} {f : Addr} {fd : FuncData} {N ps : List Str} {k : Nat} {T : Tbs} {fr : Bool} {sp : DSp} (Fn : FunD K x qual (defArgs st) (defBody st) (defScope st) dvs kws f fd) (S : FnScope N ps (defScope st)) (len : ∀ ds Q EX, sp ds Q EX → ds.length = ps.length)
    (hbody : ∀ (cdv : Value) (A : Around) (outer : List Env) (s : Shared) (G H : Hp) (E : XK) (EX : Exc → Prop), let X := cxOf (L2.CX P w) P w K mg base N qual (defScope st) f cdv A outer s H E; let F : Fx := ⟨T, G, H, E, EX, fr⟩
      Room k X.A → X.A.units + 64 < cLine → F.exc → Passes (L2.CX P w) X E → PassesOwn (model P w) X.A X.env X.xe → ∃ t ev, FSs X F (defBody st) t ev ∧ ∀ ds Q, sp ds Q EX → ev (dEnds Q) (st0 N ds)) :
    FnOk P w K mg base (L2.CX P w) (k + 1) f fd ps (lift T fr sp) := by
  refine Fn.ok S (fun vs H Q E h => ?_) (fun cdv A outer s H vs Q E hr h => ?_)
  · obtain ⟨G, ds, QD, EX, w1, tb, rs, h, _⟩ := h
    rw [rs.length]; exact len _ _ _ h
  · obtain ⟨G, ds, QD, EX, w1, tb, rs, h, k1, k2⟩ := h
    obtain ⟨t, ev, fs, hev⟩ := hbody cdv A outer s G H E EX hr (by have := hr.un; show (A.deeper (PyProof.Rows.envOfC qual (defScope st) s.heap.objs.size f cdv)).units + 64 < cLine; omega) k2 (passes_call (takes_of rfl rfl rfl rfl) (fun _ _ _ _ h => h)) (passes_of rfl)
    refine ⟨t, fs.ps, ?_⟩
    have s0 : SRep (⟨T, G, H, E, EX, fr⟩ : Fx) G H (L2.start N vs) (st0 N ds) := .start rfl rfl w1 tb rs
    refine fs.sim _ H G G _ (dEnds QD) _ s0 (.refl _) ⟨fun σ H' G' δ s _ q => k1 .non G' H' .non s.ext .non q, fun v H' G' d x r q => k1 v G' H' d x r q, fun _ _ _ _ _ _ q => q.elim, fun _ _ _ _ _ _ q => q.elim⟩ (hev ds QD h)
end
end DW

/-! DWE: more statements and calls. -/
namespace DW
open PySem L2

section
variable {X : Cx} {F : Fx} {st : Stmt} {rest : List Stmt} {e : Expr} {te : TE} {ee : DE} {pos : Pos} {m : Md}
/-- name = [..], kept as a datum -/
theorem fs_setLc (i : Nat) {y : Str} {py spos : Pos} {elt tg iter : Expr} {ifs : List Expr} {scope : Scope} (own : List (Str × Nat)) {wi : TI} {ei : DI} {g : TG} {eg : DG} {is : List Nat} {tt : TT} {et : DT} (hc : X.calm = true) (hN : X.N.Nodup) (ok : BlkOk X.N X.env.scope scope own) (hi : FI X F tg iter wi ei)
    (hg : ∀ (s : Shared) (H : Hp) (C : Addr) (cl : List (Str × Addr)) (fp : List Addr), FG (X.blk s H scope (compEnvC scope cl C X.env) fp) F.no tg g eg is) (ht : ∀ (s : Shared) (H : Hp) (C : Addr) (cl : List (Str × Addr)) (fp : List Addr), FTs (X.blk s H scope (compEnvC scope cl C X.env) fp) F.no ifs tt et) (he : ∀ (s : Shared) (H : Hp) (C : Addr) (cl : List (Str × Addr)) (fp : List Addr), FE (X.blk s H scope (compEnvC scope cl C X.env) fp) F.no .g elt te ee) (hy : X.N[i]? = some y := by rfl) (hyl : X.env.scope.names.lookup y = some .local := by rfl)
    (hsw : swapsWith (.ListComp elt [⟨tg, iter, ifs, 0⟩] scope pos) (some (.Name y py)) spos.line X.env = pure true := by exact sw_true rfl rfl rfl (by decide +kernel)) (hsub : ∀ i ∈ is, i ∈ own.map (·.2) := by decide) (hs : ∀ x, foldedSetIterable iter X.env x = pure x := by intro _; rfl) :
    FS X F (.Assign [.Name y py] (.ListComp elt [⟨tg, iter, ifs, 0⟩] scope pos) spos) (tAsg (tLc wi g tt te (own.map (·.2))) (gName i)) (sAsg (dComp ei eg et ee (own.map (·.2))) (dName i)) :=
  ⟨ps_setLc hc hN hy hyl hsw hi.pi ok (fun s H C cl fp => (hg s H C cl fp).pg) (fun s H C cl fp => (ht s H C cl fp).pt) (fun s H C cl fp => (he s H C cl fp).pe) hs, fun σ H G Gf δ Dd De s sf k ev =>
    (sim_lc hi.sim (hg {} (fun _ => none) 0 [] []).sim (ht {} (fun _ => none) 0 [] []).sim (he {} (fun _ => none) 0 [] []).sim hsub).fg σ H G δ _ _ s ev fun v G' H' d x r q => k.nx _ H' G' _ ((s.to x).setS i r) (sf.trans x.gs) q⟩
/-- .. as a list of one's own -/
theorem fs_setLcO (i : Nat) {y : Str} {py spos : Pos} {elt tg iter : Expr} {ifs : List Expr} {scope : Scope} (own : List (Str × Nat)) {wi : TI} {ei : DI} {g : TG} {eg : DG} {is : List Nat} {tt : TT} {et : DT} (hc : X.calm = true) (hN : X.N.Nodup) (ok : BlkOk X.N X.env.scope scope own) (hi : FI X F tg iter wi ei)
    (hg : ∀ (s : Shared) (H : Hp) (C : Addr) (cl : List (Str × Addr)) (fp : List Addr), FG (X.blk s H scope (compEnvC scope cl C X.env) fp) F.no tg g eg is) (ht : ∀ (s : Shared) (H : Hp) (C : Addr) (cl : List (Str × Addr)) (fp : List Addr), FTs (X.blk s H scope (compEnvC scope cl C X.env) fp) F.no ifs tt et) (he : ∀ (s : Shared) (H : Hp) (C : Addr) (cl : List (Str × Addr)) (fp : List Addr), FE (X.blk s H scope (compEnvC scope cl C X.env) fp) F.no .g elt te ee) (hy : X.N[i]? = some y := by rfl) (hyl : X.env.scope.names.lookup y = some .local := by rfl)
    (hsw : swapsWith (.ListComp elt [⟨tg, iter, ifs, 0⟩] scope pos) (some (.Name y py)) spos.line X.env = pure true := by exact sw_true rfl rfl rfl (by decide +kernel)) (hsub : ∀ i ∈ is, i ∈ own.map (·.2) := by decide) (hs : ∀ x, foldedSetIterable iter X.env x = pure x := by intro _; rfl) :
    FS X F (.Assign [.Name y py] (.ListComp elt [⟨tg, iter, ifs, 0⟩] scope pos) spos) (tAsg (tLc wi g tt te (own.map (·.2))) (gName i)) (sSetO i (dComp ei eg et ee (own.map (·.2)))) :=
  ⟨ps_setLc hc hN hy hyl hsw hi.pi ok (fun s H C cl fp => (hg s H C cl fp).pg) (fun s H C cl fp => (ht s H C cl fp).pt) (fun s H C cl fp => (he s H C cl fp).pe) hs, fun σ H G Gf δ Dd De s sf k ev =>
    sim_lc hi.sim (hg {} (fun _ => none) 0 [] []).sim (ht {} (fun _ => none) 0 [] []).sim (he {} (fun _ => none) 0 [] []).sim hsub σ H G δ _ _ s ev fun v G' H' d x r q => by
      obtain ⟨ds, rfl, q⟩ := asLst.out q
      obtain ⟨a, vs, rfl, h1, h2, h3, h4⟩ := r
      exact k.nx _ H' G' _ (s.setO i x h1 h2 h3 h4) (sf.trans x.gs) q⟩
/-- x.append(e), x one's own -/
def sAppend (i : Nat) (ee : DE) : DS := fun D δ => asOw δ[i]? fun ds => ee δ fun d => ds.length < sizeLine ∧ D.nx (δ.set i (some (.ow (ds ++ [d]))))
theorem fs_append (i : Nat) {x : Str} {p apos cpos : Pos} (he : FE X F .g e te ee) (hN : X.N[i]? = some x := by rfl) (hv : Vis X.env.scope x := by first | exact Or.inl rfl | exact Or.inr (Or.inl rfl) | exact Or.inr (Or.inr rfl)) (hd : (x == ("__debug__" : Str)) = false := by decide)
    (hcd : (x == ("__classdict__" : Str)) = false := by decide) (hs : starEach [e] X.env = (false, eval e X.env) :: starEach [] X.env := by rfl)
    (hfew : ((backTo cpos (starEach [e] X.env)).all (fun x => !x.1) && (backToKw cpos (keywordEach [] X.env)).all (fun x => x.1.isSome)
      && decide (([e] : List Expr).length + ([] : List Keyword).length + (if ([] : List Keyword).isEmpty then 0 else 1) < 30)) = true := by rfl) (hline : (apos.endLine == cpos.line) = true := by rfl) (hbase : attributeBase (.Name x p) "append" X.env (eval (.Name x p) X.env) = eval (.Name x p) X.env := by rfl)
    (hsw : swapsWith (.Call (.Attribute (.Name x p) "append" apos) [e] [] cpos) none pos.line X.env = pure false := by rfl) :
    FS X F (.Expr (.Call (.Attribute (.Name x p) "append" apos) [e] [] cpos) pos) (tDrop (tBM X.K "list" rAppend (tVar i) (tCons te tNil))) (sAppend i ee) :=
  ⟨ps_expr (pe_bm PySem.F.plainAttrs_list PySem.F.slot_list_append PySem.F.type_list_append mt_append (pe_var hN hv hd hcd) (pa_cons he.pe pa_nil hs) hbase hfew hline hs) hsw, fun σ H G Gf δ Dd De s sf k ev => by
    obtain ⟨ds, h1, q⟩ := asOw.out ev
    obtain ⟨v, h2, a, vs, rfl, h3, h4, h5, h6⟩ := s.slot i _ h1
    refine ⟨_, h2, .inl ⟨rfl, vs, .of h3⟩, he.sim σ H G δ _ _ s q fun y G' H' d x r q => ?_⟩
    have h3' := x.hk _ _ h3 (fun ps q => nomatch q)
    have h4' := x.keepN h3 h4
    refine ⟨a, vs, y, rfl, rfl, h3', by rw [h6.length]; exact q.1, ?_⟩
    exact k.nx σ _ G' _ ((s.to x).upd i h1 h2 h3' h4' h5 ((h6.mono x.gs).append (.cons r .nil))) (sf.trans x.gs) q.2⟩
theorem Reps.setI {G : Hp} {vs : List V} {ds : List D} (r : Reps G vs ds) : vs.length = ds.length := r.length
/-- x[i] = e, x one's own -/
def sItem (i : Nat) (ej ee : DE) : DS := fun D δ => ee δ fun d => asOw δ[i]? fun ds => ej δ fun z => asI z fun n => asO (ixN ds.length n) fun j => D.nx (δ.set i (some (.ow (ds.set j d))))
theorem fs_item (i : Nat) {x : Str} {p tpos : Pos} {ej : Expr} {tj : TE} {dj : DE} (hj : FE X F .t ej tj dj) (he : FE X F .g e te ee) (hN : X.N[i]? = some x := by rfl) (hv : Vis X.env.scope x := by first | exact Or.inl rfl | exact Or.inr (Or.inl rfl) | exact Or.inr (Or.inr rfl)) (hd : (x == ("__debug__" : Str)) = false := by decide)
    (hcd : (x == ("__classdict__" : Str)) = false := by decide) (hs : swapsWithSole [.Subscript (.Name x p) ej tpos] e pos.line X.env = pure false := by rfl) (hw : swappedStores [.Subscript (.Name x p) ej tpos] e X.env = pure none := by rfl)
    (h1 : (assignEach [.Subscript (.Name x p) ej tpos] X.env).map (·.2) = [assign (.Subscript (.Name x p) ej tpos) X.env] := by rfl)
    (ha : ∀ v, assign (.Subscript (.Name x p) ej tpos) X.env v = (do
      let ov ← holding [v] (eval (.Name x p) X.env)
      let iv ← holding [v, ov] (eval ej X.env)
      standAt tpos
      holding [v, ov, iv] (setItem ov iv v)
      release [v, ov, iv] []) := by intro _; rfl) :
    FS X F (.Assign [.Subscript (.Name x p) ej tpos] e pos) (tAsg te (gSub (tVar i) tj rSetL)) (sItem i dj ee) :=
  ⟨ps_asg he.pe (pg_sub (pe_var hN hv hd hcd) hj.pe set_list ha) hs hw h1, fun σ H G Gf δ Dd De s sf k ev => by
    refine he.sim σ H G δ _ _ s ev fun y G' H' d x r q => ?_
    obtain ⟨ds, h1, q⟩ := asOw.out q
    have s1 := s.to x
    obtain ⟨v, h2, a, vs, rfl, h3, h4, h5, h6⟩ := s1.slot i _ h1
    refine ⟨_, h2, hj.sim σ H' G' δ _ _ s1 q fun z G2 H2 dz x2 rz q => ?_⟩
    obtain ⟨n, rfl, q⟩ := asI.out q
    obtain ⟨j, hj', q⟩ := asO.out q
    cases (show Rep G2 z (.int n) from rz.rep trivial)
    have h3' := x2.hk _ _ h3 (fun ps q => nomatch q)
    have h4' := x2.keepN h3 h4
    refine ⟨a, vs, n, j, rfl, rfl, h3', by rw [h6.length]; exact hj', ?_⟩
    exact k.nx σ _ G2 _ ((s1.to x2).upd i h1 h2 h3' h4' h5 (Reps.set (Rep.mono x2.gs r) j (h6.mono x2.gs))) ((sf.trans x.gs).trans x2.gs) q⟩
/-- x op= e, of ints -/
structure DIp (X : Cx) (op : Operator) (ti : TIp) (f : Int → Int → Int) (C : Int → Int → Prop) : Prop where
  ip : PIp X op ti
  to : ∀ i j H Q, C i j → Q (.int (f i j)) H → ti (.int i) (.int j) H Q
theorem dip_add : DIp X .Add (ipI fun i j => i + j) (fun i j => i + j) (fun _ _ => True) := ⟨ip_add, fun i j H Q _ q => ⟨i, j, rfl, rfl, q⟩⟩
theorem dip_sub : DIp X .Sub (ipI fun i j => i - j) (fun i j => i - j) (fun _ _ => True) := ⟨ip_sub, fun i j H Q _ q => ⟨i, j, rfl, rfl, q⟩⟩
def sAug (i : Nat) (ee : DE) (f : Int → Int → Int) (C : Int → Int → Prop) : DS := fun D δ => dVar i δ fun z => asI z fun n => ee δ fun y => asI y fun k => C n k ∧ D.nx (δ.set i (some (.sh (.int (f n k)))))
theorem fs_aug (i : Nat) {x : Str} {p : Pos} {op : Operator} {ti : TIp} {f : Int → Int → Int} {C : Int → Int → Prop} (hN : X.N.Nodup) (ho : DIp X op ti f C) (he : FE X F .t e te ee) (hi : X.N[i]? = some x := by rfl) (hx : Loc X.env.scope x := by first | exact Or.inl rfl | exact Or.inr rfl)
    (hf : X.fn x = true ∨ X.env.scope.names.lookup x = some .local := by first | exact .inl rfl | exact .inr rfl) : FS X F (.AugAssign (.Name x p) op e pos) (tAug i te ti) (sAug i ee f C) :=
  ⟨ps_aug hN hi hx he.pe ho.ip hf, fun σ H G Gf δ Dd De s sf k ev => by
    obtain ⟨z, h1, q⟩ := dVar.out ev
    obtain ⟨n, rfl, q⟩ := asI.out q
    obtain ⟨v, h2, r⟩ := s.slot i _ h1
    refine ⟨v, h2, he.sim σ H G δ _ _ s q fun y G' H' d x r' q => ?_⟩
    obtain ⟨j, rfl, q⟩ := asI.out q
    cases (show Rep G v (.int n) from r)
    cases (show Rep G' y (.int j) from r'.rep trivial)
    exact ho.to n j H' _ q.1 (k.nx _ H' G' _ ((s.to x).setS i (.int _)) (sf.trans x.gs) q.2)⟩
end

/-! ### calls by name -/
def pick {α : Type} (ord : List Nat) (l : List α) : List α := ord.filterMap (l[·]?)
theorem Vals.pick {vs : List V} {us : List Value} (r : Vals vs us) : ∀ ord : List Nat, Vals (DW.pick ord vs) (DW.pick ord us)
  | [] => .nil
  | i :: ord => by
    unfold DW.pick
    have ih := Vals.pick r ord
    unfold DW.pick at ih
    cases e : vs[i]? with
    | none =>
      have e2 : us[i]? = none := by
        rw [List.getElem?_eq_none_iff] at e ⊢
        rw [← r.length]; exact e
      rw [List.filterMap_cons_none e, List.filterMap_cons_none e2]
      exact ih
    | some v =>
      obtain ⟨u, e2, rv⟩ := r.get e
      rw [List.filterMap_cons_some e, List.filterMap_cons_some e2]
      exact .cons rv ih
theorem RTs.pick {G H : Hp} {vs : List V} {ds : List D} (r : RTs G H vs ds) : ∀ ord : List Nat, RTs G H (DW.pick ord vs) (DW.pick ord ds)
  | [] => trivial
  | i :: ord => by
    unfold DW.pick
    have ih := RTs.pick r ord
    unfold DW.pick at ih
    cases e : ds[i]? with
    | none =>
      have e2 : vs[i]? = none := by
        rw [List.getElem?_eq_none_iff] at e ⊢
        rw [r.length]; exact e
      rw [List.filterMap_cons_none e, List.filterMap_cons_none e2]
      exact ih
    | some d =>
      obtain ⟨v, e2, rv⟩ := r.get e
      rw [List.filterMap_cons_some e, List.filterMap_cons_some e2]
      exact ⟨rv, ih⟩
/-- how n written values and those of the names ks are bound -/
abbrev KBd (K : Frag) (fd : FuncData) (ps : List Str) (n : Nat) (ks : List Str) (ord : List Nat) : Prop := KBn K fd ps n ks (fun us ws => pick ord (us ++ ws)) (fun vs zs => pick ord (vs ++ zs))
theorem kbd_of {K : Frag} {x qual : Str} {st : Stmt} {f : Addr} {fd : FuncData} {ps : List Str} {n : Nat} {ks : List Str} {ord : List Nat} (Fn : Fun K x qual st f fd)
    (h : ∀ (kV doc pm : Value) (an : Option Addr) (cdv ct : Value) (us ws : List Value), us.length = n → ws.length = ks.length → bindArgs (PySem.W.fnOf x qual (defArgs st) (defBody st) (defScope st) .none kV doc pm an cdv ct) ⟨us, ks.zip ws⟩ = pure (ps.zip (pick ord (us ++ ws)))) : KBd K fd ps n ks ord := by
  obtain ⟨oc, od, kV, doc, pm, an, cdv, ct, osl, rfl, lk, hcd⟩ := Fn.ex
  exact ⟨fun s us ws _ h1 h2 => .of_eq (h kV doc pm an cdv ct us ws h1 h2), fun r1 r2 => Vals.pick (r1.append r2) ord⟩
section
variable {X : Cx} {F : Fx} {e : Expr} {es : List Expr} {kws : List Keyword} {t tk : TA} {er ek : DA} {pos p kpos : Pos} {nm : Option Str} {te : TE} {ee : DE}
structure FK (X : Cx) (F : Fx) (kws : List Keyword) (t : TA) (ev : DA) : Prop where
  pk : PK X kws t
  sim : SimB F t ev
theorem fk_nil : FK X F [] tNil dANil := ⟨pk_nil, fun σ H G δ Q Q' s e k => k [] G H [] (.refl s.wf) trivial e⟩
theorem fk_cons (he : FE X F .t e te ee) (hr : FK X F kws t er) : FK X F (⟨nm, e, kpos⟩ :: kws) (tCons te t) (dACons ee er) := ⟨pk_cons he.pe hr.pk, fun σ H G δ Q Q' s ev k => by
  refine he.sim σ H G δ _ _ s ev fun v G' H' d x r q => ?_
  refine hr.sim σ H' G' δ _ _ (s.to x) q fun vs G2 H2 ds x2 r2 q2 => ?_
  exact k _ _ _ (d :: ds) (x.trans x2) ⟨r.rt.ext x2, r2⟩ q2⟩
def dCallK (sp : DSp) (EX : Exc → Prop) (n m : Nat) (ord : List Nat) (er ek : DA) : DE := fun δ Q => er δ fun ds => ek δ fun es => ds.length = n ∧ es.length = m ∧ sp (pick ord (ds ++ es)) Q EX
theorem sim_callK {fr : Bool} {sp : DSp} {n m : Nat} {ord : List Nat} (he : F.exc) (h : SimB F t er) (hk : SimB F tk ek) : Sim F (.of fr) (tCallN n m (lift F.T fr sp) (fun vs zs => pick ord (vs ++ zs)) F.E t tk) (dCallK sp F.EX n m ord er ek) := fun σ H G δ Q Q' s e k => by
  refine h σ H G δ _ _ s e fun vs G' H' ds x rs q => ?_
  refine hk σ H' G' δ _ _ (s.to x) q fun zs G2 H2 es x2 rz q => ?_
  have r := ((rs.ext x2).append rz).pick ord
  exact ⟨by rw [rs.length]; exact q.1, by rw [rz.length]; exact q.2.1, lift_to he ((s.to x).to x2) r q.2.2 fun v G3 H3 d x3 r3 q3 => k _ _ _ _ ((x.trans x2).trans x3) (r3.lift (x.trans x2)) q3⟩
theorem fe_callK {x : Str} {k n : Nat} {f : Addr} {fd : FuncData} {ps ks : List Str} {ord : List Nat} {fr : Bool} {sp : DSp} (D0 : FnG X.prog X.w X.K X.mg X.base F.T x k f fd ps fr sp) (he : F.exc) (hr : Room k X.A) (hx : Passes (L2.CX X.prog X.w) X F.E) (hb : KBd X.K fd ps n ks ord)
    (ha : FB X F (e :: es) t er) (hkw : FK X F kws tk ek) (hg : Gl X x := by rfl) (hall : (backToKw pos (keywordEach kws X.env)).all (·.1.isSome) = true := by rfl) (hks : (backToKw pos (keywordEach kws X.env)).filterMap (·.1) = ks := by rfl)
    (hdb : (x == ("__debug__" : Str)) = false := by decide) (hse : starEach (e :: es) X.env = (false, eval e X.env) :: starEach es X.env := by rfl)
    (hpl : ((backTo pos (starEach (e :: es) X.env)).any (·.1) || (backToKw pos (keywordEach kws X.env)).any (·.1.isNone)) = false := by rfl) :
    FE X F (.of fr) (.Call (.Name x p) (e :: es) kws pos) (tCallN n ks.length (lift F.T fr sp) (fun vs zs => pick ord (vs ++ zs)) F.E t tk) (dCallK sp F.EX n ks.length ord er ek) :=
  ⟨pe_callN D0.ok hr hg D0.mg D0.kp hb hx ha.pa hkw.pk hall hks hdb hse hpl, sim_callK he ha.sim hkw.sim⟩
theorem pe_callN0 {CX : CXT} {k : Nat} {f : Addr} {fd : FuncData} {ps ks : List Str} {sp : Sp} {E : XK} {x : Str} {g : List Value → List Value → List Value} {gV : List V → List V → List V} (Fo : FnOk X.prog X.w X.K X.mg X.base CX k f fd ps sp) (hr : Room k X.A) (hg : Gl X x) (hm : X.mg x = some (.ref f)) (hk : PySem.W.keepIn X.K (.ref f) = true) (hb : KBn X.K fd ps 0 ks g gV) (hx : Passes CX X E)
    (hkw : PK X kws tk) (hall : (backToKw pos (keywordEach kws X.env)).all (·.1.isSome) = true := by rfl) (hks : (backToKw pos (keywordEach kws X.env)).filterMap (·.1) = ks := by rfl)
    (hdb : (x == ("__debug__" : Str)) = false := by decide)
    (hpl : ((backTo pos (starEach [] X.env)).any (·.1) || (backToKw pos (keywordEach kws X.env)).any (·.1.isNone)) = false := by rfl) :
    PE X (.Call (.Name x p) [] kws pos) (tCallN 0 ks.length sp gV E tNil tk) := by
  refine ⟨fun pins s σ H Q I h => ?_⟩
  refine wpAny_Call_Name_kw (ld_glob I hg hm ?_ hdb)
  refine PySem.W.callWith_KW0 (h₀ := X.base) I.ok.mod.kin hk hall (thn (hkw.run pos pins s σ H _ I h) fun ws s2 ⟨zs, H2, I2, rz, l1, l2, q2⟩ => ⟨I2.kIn, ?_⟩) hpl
  rw [hks]
  exact run_fnN (us := []) Fo hr hb hx I2 .nil rz l1 l2 q2
theorem fe_callK0 {x : Str} {k : Nat} {f : Addr} {fd : FuncData} {ps ks : List Str} {ord : List Nat} {fr : Bool} {sp : DSp} (D0 : FnG X.prog X.w X.K X.mg X.base F.T x k f fd ps fr sp) (he : F.exc) (hr : Room k X.A) (hx : Passes (L2.CX X.prog X.w) X F.E) (hb : KBd X.K fd ps 0 ks ord)
    (hkw : FK X F kws tk ek) (hg : Gl X x := by rfl) (hall : (backToKw pos (keywordEach kws X.env)).all (·.1.isSome) = true := by rfl) (hks : (backToKw pos (keywordEach kws X.env)).filterMap (·.1) = ks := by rfl)
    (hdb : (x == ("__debug__" : Str)) = false := by decide)
    (hpl : ((backTo pos (starEach [] X.env)).any (·.1) || (backToKw pos (keywordEach kws X.env)).any (·.1.isNone)) = false := by rfl) :
    FE X F (.of fr) (.Call (.Name x p) [] kws pos) (tCallN 0 ks.length (lift F.T fr sp) (fun vs zs => pick ord (vs ++ zs)) F.E tNil tk) (dCallK sp F.EX 0 ks.length ord dANil ek) :=
  ⟨pe_callN0 D0.ok hr hg D0.mg D0.kp hb hx hkw.pk hall hks hdb hpl, sim_callK he (fb_nil (X := X)).sim hkw.sim⟩
theorem fe_callKG {x : Str} {k n : Nat} {f : Addr} {fd : FuncData} {ps ks : List Str} {ord : List Nat} {sp : DSp} (D0 : FnG X.prog X.w X.K X.mg X.base F.T x k f fd ps false sp) (he : F.exc) (hr : Room k X.A) (hx : Passes (L2.CX X.prog X.w) X F.E) (hb : KBd X.K fd ps n ks ord)
    (ha : FB X F (e :: es) t er) (hkw : FK X F kws tk ek) (hg : Gl X x := by rfl) (hall : (backToKw pos (keywordEach kws X.env)).all (·.1.isSome) = true := by rfl) (hks : (backToKw pos (keywordEach kws X.env)).filterMap (·.1) = ks := by rfl)
    (hdb : (x == ("__debug__" : Str)) = false := by decide) (hse : starEach (e :: es) X.env = (false, eval e X.env) :: starEach es X.env := by rfl)
    (hpl : ((backTo pos (starEach (e :: es) X.env)).any (·.1) || (backToKw pos (keywordEach kws X.env)).any (·.1.isNone)) = false := by rfl) :
    FE X F .g (.Call (.Name x p) (e :: es) kws pos) (tCallN n ks.length (lift F.T false sp) (fun vs zs => pick ord (vs ++ zs)) F.E t tk) (dCallK sp F.EX n ks.length ord er ek) :=
  fe_callK D0 he hr hx hb ha hkw hg hall hks hdb hse hpl
theorem fe_callKF {x : Str} {k n : Nat} {f : Addr} {fd : FuncData} {ps ks : List Str} {ord : List Nat} {sp : DSp} (D0 : FnG X.prog X.w X.K X.mg X.base F.T x k f fd ps true sp) (he : F.exc) (hr : Room k X.A) (hx : Passes (L2.CX X.prog X.w) X F.E) (hb : KBd X.K fd ps n ks ord)
    (ha : FB X F (e :: es) t er) (hkw : FK X F kws tk ek) (hg : Gl X x := by rfl) (hall : (backToKw pos (keywordEach kws X.env)).all (·.1.isSome) = true := by rfl) (hks : (backToKw pos (keywordEach kws X.env)).filterMap (·.1) = ks := by rfl)
    (hdb : (x == ("__debug__" : Str)) = false := by decide) (hse : starEach (e :: es) X.env = (false, eval e X.env) :: starEach es X.env := by rfl)
    (hpl : ((backTo pos (starEach (e :: es) X.env)).any (·.1) || (backToKw pos (keywordEach kws X.env)).any (·.1.isNone)) = false := by rfl) :
    FE X F .f (.Call (.Name x p) (e :: es) kws pos) (tCallN n ks.length (lift F.T true sp) (fun vs zs => pick ord (vs ++ zs)) F.E t tk) (dCallK sp F.EX n ks.length ord er ek) :=
  fe_callK D0 he hr hx hb ha hkw hg hall hks hdb hse hpl
theorem fe_callK0G {x : Str} {k : Nat} {f : Addr} {fd : FuncData} {ps ks : List Str} {ord : List Nat} {sp : DSp} (D0 : FnG X.prog X.w X.K X.mg X.base F.T x k f fd ps false sp) (he : F.exc) (hr : Room k X.A) (hx : Passes (L2.CX X.prog X.w) X F.E) (hb : KBd X.K fd ps 0 ks ord)
    (hkw : FK X F kws tk ek) (hg : Gl X x := by rfl) (hall : (backToKw pos (keywordEach kws X.env)).all (·.1.isSome) = true := by rfl) (hks : (backToKw pos (keywordEach kws X.env)).filterMap (·.1) = ks := by rfl)
    (hdb : (x == ("__debug__" : Str)) = false := by decide)
    (hpl : ((backTo pos (starEach [] X.env)).any (·.1) || (backToKw pos (keywordEach kws X.env)).any (·.1.isNone)) = false := by rfl) :
    FE X F .g (.Call (.Name x p) [] kws pos) (tCallN 0 ks.length (lift F.T false sp) (fun vs zs => pick ord (vs ++ zs)) F.E tNil tk) (dCallK sp F.EX 0 ks.length ord dANil ek) :=
  fe_callK0 D0 he hr hx hb hkw hg hall hks hdb hpl
theorem fe_callK0F {x : Str} {k : Nat} {f : Addr} {fd : FuncData} {ps ks : List Str} {ord : List Nat} {sp : DSp} (D0 : FnG X.prog X.w X.K X.mg X.base F.T x k f fd ps true sp) (he : F.exc) (hr : Room k X.A) (hx : Passes (L2.CX X.prog X.w) X F.E) (hb : KBd X.K fd ps 0 ks ord)
    (hkw : FK X F kws tk ek) (hg : Gl X x := by rfl) (hall : (backToKw pos (keywordEach kws X.env)).all (·.1.isSome) = true := by rfl) (hks : (backToKw pos (keywordEach kws X.env)).filterMap (·.1) = ks := by rfl)
    (hdb : (x == ("__debug__" : Str)) = false := by decide)
    (hpl : ((backTo pos (starEach [] X.env)).any (·.1) || (backToKw pos (keywordEach kws X.env)).any (·.1.isNone)) = false := by rfl) :
    FE X F .f (.Call (.Name x p) [] kws pos) (tCallN 0 ks.length (lift F.T true sp) (fun vs zs => pick ord (vs ++ zs)) F.E tNil tk) (dCallK sp F.EX 0 ks.length ord dANil ek) :=
  fe_callK0 D0 he hr hx hb hkw hg hall hks hdb hpl
end
end DW

/-! DWB: the drawing bag. -/
namespace DW
open PySem L2

def BagB (i c d k : Int) : Prop := 0 ≤ i ∧ 0 ≤ c ∧ 0 ≤ d ∧ d < 2147483587 ∧ 0 ≤ k
def bagL (L : Addr) (i c d k : Int) : HO := .lst [.ref L, .int i, .int c, .int d, .int k]
/-! ### the two views -/
section
variable {P : Program} {w : World}
theorem ObjOk.view {H H' : Hp} {h : Heap} {b : Addr} (ht : ∀ x xs, H x = some (.tup xs) → H' x = some (.tup xs)) (ho : ∀ x y, H x = some (.own y) → H' x = some (.own y)) {o : HO} (ok : ObjOk P w H h b o) : ObjOk P w H' h b o := by
  revert ok
  induction o generalizing b with
  | dT kvs =>
    rintro ⟨h1, h2, xs, h3, h4⟩
    exact ⟨h1, h2, xs, h3.mono (fun p q ⟨e1, e2, e3⟩ => ⟨e1, ht _ _ e2, e3⟩), h4⟩
  | ins C dx fs =>
    rintro ⟨h1, h2⟩
    exact ⟨ho _ _ h1, h2⟩
  | frz o u ih =>
    rintro ⟨h1, h2⟩
    exact ⟨h1, ih h2⟩
  | _ => exact fun h => h
theorem bag_in {H : Hp} {h : Heap} {a L : Addr} (ok : HOk P w H h) (ha : H a = some (bagO a L)) : ∃ i c d k, BagB i c d k ∧ HOk P w (upd H a (bagL L i c d k)) h := by
  obtain ⟨⟨i, c, d, k, t1, t2, t3, t4, n, e, b1, b2, b3, b4, b5⟩, _, _⟩ := ok a _ ha
  refine ⟨i, c, d, k, ⟨b1, b2, b3, b4, b5⟩, fun b o hb => ?_⟩
  by_cases z : b = a
  · subst z
    rw [upd_same] at hb
    cases hb
    exact ⟨by show 5 ≤ sizeLine; decide, _, n, .cons rfl (.cons ⟨t1, rfl⟩ (.cons ⟨t2, rfl⟩ (.cons ⟨t3, rfl⟩ (.cons ⟨t4, rfl⟩ .nil)))), e⟩
  · rw [upd_ne z] at hb
    exact DW.ObjOk.view (ok := ok b o hb) (fun x xs q => by rw [upd_ne]; exact q; intro z; rw [z, ha] at q; cases q) (fun x xs q => by rw [upd_ne]; exact q; intro z; rw [z, ha] at q; cases q)
theorem bag_out {H : Hp} {h : Heap} {a L : Addr} {i c d k : Int} (ok : HOk P w H h) (ha : H a = some (bagL L i c d k)) (hb : BagB i c d k) : HOk P w (upd H a (bagO a L)) h := by
  have h0 := ok a _ ha
  refine fun b o e => ?_
  by_cases z : b = a
  · subst z
    rw [upd_same] at e
    cases e
    obtain ⟨_, its, n, r, e⟩ := h0
    cases r with
    | cons r0 r => cases r with
      | cons r1 r => cases r with
        | cons r2 r => cases r with
          | cons r3 r => cases r with
            | cons r4 r =>
              cases r
              obtain ⟨t1, rfl⟩ := r1; obtain ⟨t2, rfl⟩ := r2; obtain ⟨t3, rfl⟩ := r3; obtain ⟨t4, rfl⟩ := r4
              cases r0
              exact ⟨⟨i, c, d, k, t1, t2, t3, t4, n, e, hb⟩, ⟨_, e⟩, fun h1 h2 ⟨i, c, d, k, t1, t2, t3, t4, n, e, hb⟩ same => ⟨i, c, d, k, t1, t2, t3, t4, n, same _ e, hb⟩⟩
  · rw [upd_ne z] at e
    exact DW.ObjOk.view (ok := ok b o e) (fun x xs q => by rw [upd_ne]; exact q; intro z; rw [z, ha] at q; cases q) (fun x xs q => by rw [upd_ne]; exact q; intro z; rw [z, ha] at q; cases q)
end
/-! ### what _law_pull promises -/
def PullOk (m : Int) : Prop := 1 ≤ m ∧ m.natAbs.log2 < 9000
def spPull : DSp := fun ds Q _ => as2 ds fun x y => (match x with | .bag => True | _ => False) ∧ asI y fun m => PullOk m ∧ ∀ n : Int, 0 ≤ n → n < m → Q (.int n)
def spPull1 : Sp := fun vs H Q _ => ∃ (a L : Addr) (ns : List Int) (i c d k m : Int), vs = [.ref a, .int m] ∧ H a = some (bagL L i c d k) ∧ H L = some (.lst (ns.map V.int)) ∧ PullOk m ∧ BagB i c d k ∧
  ∀ n i' c' d' k' : Int, 0 ≤ n → n < m → BagB i' c' d' k' → Q (.int n) (upd H a (bagL L i' c' d' k'))
theorem CE.view {P : Program} {w : World} {outer : List Env} {H H1 : Hp} {s s' : Shared} {Q Q2 : VK} {u : Value} (h : CE outer P w H1 s Q u s')
    (hn : ∀ b, H b = none → H1 b = none) (hu : ∀ (v : V) (K : Hp), Un (frs outer) [] H1 K s.heap s'.heap → HOk P w K s'.heap → Q v K → ∃ K2, Un (frs outer) [] H K2 s.heap s'.heap ∧ HOk P w K2 s'.heap ∧ Q2 v K2) : CE outer P w H s Q2 u s' := by
  obtain ⟨v, K, os, bare, un, ok, r, q⟩ := h
  obtain ⟨K2, un2, ok2, q2⟩ := hu v K un ok q
  exact ⟨v, K2, os, bare, un2, ok2, r, q2⟩
theorem pull_fn {P : Program} {w : World} {K : Frag} {mg : Str → Option Value} {base : Heap} {T : Tbs} {k : Nat} {f : Addr} {fd : FuncData} {ps : List Str} (Fo : FnOk P w K mg base (L2.CX P w) k f fd ps spPull1) (hp : ps.length = 2) : FnOk P w K mg base (L2.CX P w) k f fd ps (lift T false spPull) := by
  refine ⟨fun vs H Q E h => ?_, fun A outer s H args us vs Q E hr e0 hb hv hs => ?_⟩
  · obtain ⟨G, ds, QD, EX, w1, tb, rs, h, _⟩ := h
    obtain ⟨x, y, rfl, _⟩ := as2.out h
    rw [rs.length, hp]; rfl
  · obtain ⟨G, ds, QD, EX, w1, tb, rs, h, k1, k2⟩ := hs
    obtain ⟨x, y, rfl, hx, h⟩ := as2.out h
    obtain ⟨m, rfl, hm, q⟩ := asI.out h
    cases x <;> first | exact hx.elim | skip
    obtain ⟨v, u, rfl, r1, r2⟩ := rts2 rs
    cases (show Rep G u (.int m) from r2)
    cases (show Rep G v .bag from r1) with
    | @bag a L ns g1 g2 =>
      have ha := w1.gh _ _ g1
      obtain ⟨i, c, d, kk, bb, ok1⟩ := bag_in e0.hok ha
      have hL : L ≠ a := fun z => by rw [z, g1] at g2; cases g2
      have hn : ∀ b, H b = none → upd H a (bagL L i c d kk) b = none := fun b z => by rw [upd_ne]; exact z; intro z'; rw [z', ha] at z; cases z
      have e1 : Env0 P w K mg base A outer s (upd H a (bagL L i c d kk)) := ⟨e0.frames, e0.mod, fun b o e => ⟨(e0.bs b o e).1, hn b (e0.bs b o e).2⟩, e0.bsz, e0.funs, fun b hb => hn b (e0.frf b hb), ok1, e0.bare⟩
      refine codeAny_mono (Fo.run A outer s (upd H a (bagL L i c d kk)) args us _ (fun v K => ∃ n i' c' d' k' : Int, v = .int n ∧ 0 ≤ n ∧ n < m ∧ BagB i' c' d' k' ∧ K = upd H a (bagL L i' c' d' k')) E0 hr e1 hb hv
        ⟨a, L, ns, i, c, d, kk, m, rfl, upd_same, by rw [upd_ne hL]; exact w1.gh _ _ g2, hm, bb, fun n i' c' d' k' n0 n1 b' => ⟨n, i', c', d', k', rfl, n0, n1, b', by rw [upd_upd]⟩⟩) fun r s' hq => ?_
      cases r with
      | error e =>
        obtain ⟨_, _, _, _, _, _, _, _, _, _, _, _, z⟩ := hq
        exact z.elim
      | ok fl =>
        cases fl with
        | ret u =>
          refine CE.view (H := H) hq hn fun v K un ok q' => ?_
          obtain ⟨n, i', c', d', k', rfl, n0, n1, b', rfl⟩ := q'
          have ok2 := bag_out (a := a) ok upd_same b'
          rw [upd_upd] at ok2
          have eH : upd H a (bagO a L) = H := by
            funext b
            by_cases z : b = a
            · rw [z, upd_same, ha]
            · rw [upd_ne z]
          rw [eH] at ok2
          exact ⟨H, ⟨fun b o e z => un.keep b o e (hn b z), fun b o e z => un.slot b o e (hn b z), fun b o e z _ => z, un.there, fun b xs z => z, fun b o u z => z, fun b ps z => ⟨#[], by rw [Array.append_empty]; exact z⟩⟩, ok2, k1 _ G H (.int n) (.refl w1) (.int n) (q n n0 n1)⟩
        | next => exact hq.elim
        | brk => exact hq.elim
        | cont => exact hq.elim
/-! ### reading its text -/
theorem upd_self {H : Hp} {a : Addr} {o : HO} (h : H a = some o) : upd H a o = H := by
  funext b
  by_cases z : b = a
  · rw [z, upd_same, h]
  · rw [upd_ne z]
section
variable {K : Frag} {σ : St} {H : Hp} {Q : VK} {a L : Addr} {R : St → Hp → Prop}
theorem R_get {xs : List V} {j : Int} {v : V} (e : L2.atI xs j = some v) (hσ : σ[0]? = some (some (.ref a))) (q : Q v (upd H a (.lst xs))) : tOp (rIxL K) (tVar 0) (tC (.int j)) σ (upd H a (.lst xs)) Q :=
  ⟨_, hσ, a, xs, j, v, rfl, rfl, .of upd_same, e, q⟩
theorem R_put {xs : List V} {j : Int} {n : Nat} {v : V} (e : ixN xs.length j = some n) (hσ : σ[0]? = some (some (.ref a))) (q : R σ (upd H a (.lst (xs.set n v)))) : gSub (tVar 0) (tC (.int j)) rSetL v σ (upd H a (.lst xs)) R :=
  ⟨_, hσ, a, xs, j, n, rfl, rfl, upd_same, e, by rw [upd_upd]; exact q⟩
theorem R_int {t : TE} {Q : VK} (h : t σ H fun x H1 => ∃ i, x = .int i ∧ Q (.int i) H1) (hm : ∀ Q Q' : VK, (∀ x H1, Q x H1 → Q' x H1) → t σ H Q → t σ H Q') : tCB (fun xs H Q => (∃ i, xs = [.int i] ∧ Q (.int i) H) ∨ ∃ k, xs = [.bl k] ∧ Q (.int (if k then 1 else 0)) H) (tCons t tNil) σ H Q :=
  hm _ _ (fun x H1 ⟨i, e, q⟩ => by subst e; exact .inl ⟨i, rfl, q⟩) h
end
theorem upd_start {T : Hp → Prop} {H : Hp} {a : Addr} {o : HO} (h : H a = some o) (g : T (upd H a o)) : T H := upd_self h ▸ g
theorem seq_mid {t u : TS} {D : Ends} {σ : St} {H : Hp} (Pm : St → Hp → Prop) (h1 : ∀ N, (∀ σ H, Pm σ H → N σ H) → t { D with nx := N } σ H) (h2 : ∀ σ H, Pm σ H → u D σ H) : tSeq t u D σ H := h1 (u D) h2
theorem bag_ne {H : Hp} {a L : Addr} {i c d k : Int} {ns : List Int} (ha : H a = some (bagL L i c d k)) (hL : H L = some (.lst (ns.map V.int))) : L ≠ a := fun z => by
  rw [z, ha] at hL
  have e := HO.lst.inj (Option.some.inj hL)
  cases ns with
  | nil => cases e
  | cons n r => rw [List.map_cons] at e; cases (List.cons.inj e).1
/-- the end of a draw -/
theorem fmod_rng {x m : Int} (h : 1 ≤ m) : 0 ≤ x.fmod m ∧ x.fmod m < m := by
  rw [Int.fmod_eq_emod_of_nonneg _ (by omega)]
  exact ⟨Int.emod_nonneg _ (by omega), Int.emod_lt_of_pos _ (by omega)⟩
theorem fdiv_nn {x m : Int} (h : 1 ≤ m) (hx : 0 ≤ x) : 0 ≤ x.fdiv m := by
  rw [Int.fdiv_eq_ediv_of_nonneg _ (by omega)]
  exact Int.ediv_nonneg hx (by omega)
theorem small_mul {x y : Int} (h1 : -(2 ^ 64) < y) (h2 : y < 2 ^ 64) : IntMulOk x y := CMul.ok (.inr ⟨h1, h2⟩)
/-! ### what _law_opened promises -/
def spOpen (K : Frag) : DSp := fun ds Q _ => as1 ds fun x => (match x with | .fz K' _ => K' = K | _ => False) ∧ Q .bag
def spOpen1 (K : Frag) : Sp := fun vs H Q _ => ∃ (a : Addr) (ns : List Int), vs = [.ref a] ∧ SqL K H a (ns.map V.int) ∧ ∀ (p l q : Addr) (ys : List Int), H p = none → (upd H p (.lst (ys.map V.int))) l = none → (upd (upd H p (.lst (ys.map V.int))) l (.lst (ys.map V.int))) q = none →
  Q (.ref q) (upd (upd (upd H p (.lst (ys.map V.int))) l (.lst (ys.map V.int))) q (bagL l 0 0 10031 0))
theorem cutV_ints (ns : List Int) (lo hi : Option Int) : cutV (ns.map V.int) lo hi = ((ns.drop (HT.sIx ns.length 0 lo)).take (HT.sIx ns.length ns.length hi - HT.sIx ns.length 0 lo)).map V.int := by
  unfold cutV
  rw [List.length_map, List.map_take, List.map_drop]
theorem open_fn {P : Program} {w : World} {K : Frag} {mg : Str → Option Value} {base : Heap} {T : Tbs} {k : Nat} {f : Addr} {fd : FuncData} {ps : List Str} (Fo : FnOk P w K mg base (L2.CX P w) k f fd ps (spOpen1 K)) (hp : ps.length = 1) : FnOk P w K mg base (L2.CX P w) k f fd ps (lift T false (spOpen K)) := by
  refine ⟨fun vs H Q E h => ?_, fun A outer s H args us vs Q E hr e0 hb hv hs => ?_⟩
  · obtain ⟨G, ds, QD, EX, w1, tb, rs, h, _⟩ := h
    obtain ⟨x, rfl, _⟩ := as1.out h
    rw [rs.length, hp]; rfl
  · obtain ⟨G, ds, QD, EX, w1, tb, rs, h, k1, k2⟩ := hs
    obtain ⟨x, rfl, hx, q⟩ := as1.out h
    obtain ⟨a, ns, rfl, hS⟩ : ∃ (a : Addr) (ns : List Int), vs = [.ref a] ∧ SqL K H a (ns.map V.int) := by
      obtain ⟨v, rfl, r⟩ := rts1 rs
      cases x <;> first | exact hx.elim | skip
      rename_i K' ns
      obtain rfl : K' = K := hx
      cases (show Rep G v (.fz K' ns) from r) with
      | fz h => exact ⟨_, ns, rfl, h H w1.gh⟩
    refine codeAny_mono (Fo.run A outer s H args us _ (fun v K => ∃ (p l q : Addr) (ys : List Int), v = .ref q ∧ H p = none ∧ (upd H p (.lst (ys.map V.int))) l = none ∧ (upd (upd H p (.lst (ys.map V.int))) l (.lst (ys.map V.int))) q = none ∧
        K = upd (upd (upd H p (.lst (ys.map V.int))) l (.lst (ys.map V.int))) q (bagL l 0 0 10031 0)) E0 hr e0 hb hv ⟨a, ns, rfl, hS, fun p l q ys h1 h2 h3 => ⟨p, l, q, ys, rfl, h1, h2, h3, rfl⟩⟩) fun r s' hq => ?_
    cases r with
    | error e =>
      obtain ⟨_, _, _, _, _, _, _, _, _, _, _, _, z⟩ := hq
      exact z.elim
    | ok fl =>
      cases fl with
      | ret u =>
        refine CE.view (H := H) hq (fun b z => z) fun v K un ok q' => ?_
        obtain ⟨p, l, b, ys, rfl, h1, h2, h3, rfl⟩ := q'
        have ok2 := bag_out (a := b) ok upd_same ⟨by decide, by decide, by decide, by decide, by decide⟩
        rw [upd_upd] at ok2
        have x1 := upd_newG (T := T) w1 h1 (o := .lst (ys.map V.int)) (fun ps q => nomatch q)
        have x2 := upd_newG (T := T) x1.wf h2 (o := .lst (ys.map V.int)) (fun ps q => nomatch q)
        have x3 := upd_newG (T := T) x2.wf h3 (o := bagO b l) (fun ps q => by unfold bagO at q; cases q)
        have x := (x1.trans x2).trans x3
        have hlb : l ≠ b := fun z => by rw [z, upd_same] at h3; cases h3
        refine ⟨_, ⟨un.keep, un.slot, fun c o e z hc => ?_, un.there, fun c xs z => x.hk _ _ z (fun ps q => nomatch q), fun c o u z => x.hk _ _ z (fun ps q => nomatch q), fun c ps z => ?_⟩, ok2, k1 _ _ _ .bag x ?_ q⟩
        · have f0 := un.free c o e z hc
          by_cases zc : c = b
          · rw [zc, upd_same] at f0; cases f0
          · rw [upd_ne zc] at f0 ⊢; exact f0
        · obtain ⟨more, e⟩ := un.tbls c ps z
          refine ⟨more, ?_⟩
          by_cases zc : c = b
          · rw [zc, upd_same] at e; cases e
          · rw [upd_ne zc] at e ⊢; exact e
        · exact .bag upd_same (by rw [upd_ne hlb, upd_same])
      | next => exact hq.elim
      | brk => exact hq.elim
      | cont => exact hq.elim
end DW

/-! DWF: plain laws of numbers, fractions. -/
namespace DW
open PySem L2

/-! ### sizes -/
def Sz (n : Nat) (i : Int) : Prop := i.natAbs < 2 ^ n
theorem Sz.mono {n m : Nat} {i : Int} (h : Sz n i) (hm : n ≤ m) : Sz m i := Nat.lt_of_lt_of_le h (Nat.pow_le_pow_right (by decide) hm)
theorem Sz.mul {n m : Nat} {i j : Int} (h : Sz n i) (g : Sz m j) : Sz (n + m) (i * j) := by
  unfold Sz at *
  rw [Int.natAbs_mul, Nat.pow_add]
  exact Nat.mul_lt_mul'' h g
theorem Sz.add {n : Nat} {i j : Int} (h : Sz n i) (g : Sz n j) : Sz (n + 1) (i + j) := by
  unfold Sz at *
  rw [Nat.pow_succ]
  have := Int.natAbs_add_le i j
  omega
theorem Sz.neg {n : Nat} {i : Int} (h : Sz n i) : Sz n (-i) := by unfold Sz at *; rw [Int.natAbs_neg]; exact h
theorem Sz.sub {n : Nat} {i j : Int} (h : Sz n i) (g : Sz n j) : Sz (n + 1) (i - j) := by rw [Int.sub_eq_add_neg]; exact h.add g.neg
theorem Sz.le {n : Nat} {i j : Int} (h : Sz n i) (g : j.natAbs ≤ i.natAbs) : Sz n j := Nat.lt_of_le_of_lt g h
theorem Sz.log2 {n : Nat} {i : Int} (h : Sz n i) (hn : 0 < n) : i.natAbs.log2 < n := by
  unfold Sz at h
  by_cases z : i.natAbs = 0
  · rw [z]; simpa using hn
  · exact (Nat.log2_lt z).mpr h
theorem Sz.mulOk {n m : Nat} {i j : Int} (h : Sz n i) (g : Sz m j) (hn : n + m ≤ 900000) : IntMulOk i j := by
  refine CMulW.ok ?_
  unfold CMulW
  have h1 := (h.mono (Nat.le_add_right n 1)).log2 (Nat.succ_pos _)
  have h2 := (g.mono (Nat.le_add_right m 1)).log2 (Nat.succ_pos _)
  omega
theorem Sz.divOk {n : Nat} {i j : Int} (h : Sz n j) (hn : n < 9000) (hj : j ≠ 0) : DivOk i j := ⟨hj, by
  have h1 := (h.mono (Nat.le_add_right n 1)).log2 (Nat.succ_pos _)
  omega⟩
theorem Sz.of_lt {n : Nat} {i : Int} (h1 : -(2 ^ n : Nat) < i) (h2 : i < (2 ^ n : Nat)) : Sz n i := by unfold Sz; omega

/-! ### fractions -/
/-- a rational as a pair of its numerator and denominator -/
def qd (x : Rat) : D := .tup [.int x.num, .int (x.den : Int)]
theorem fdiv_num {p q : Int} (hq : 0 < q) : p.fdiv (Int.gcd p q) = (Rat.divInt p q).num := by
  rw [Rat.num_divInt, Int.sign_eq_one_of_pos hq, Int.one_mul, Int.gcd_comm]
  have hg : 0 < Int.gcd q p := Int.gcd_pos_of_ne_zero_left _ (by omega)
  rw [Int.fdiv_eq_ediv_of_nonneg _ (by omega)]
theorem fdiv_den {p q : Int} (hq : 0 < q) : q.fdiv (Int.gcd p q) = ((Rat.divInt p q).den : Int) := by
  rw [Rat.den_divInt, if_neg (by omega), Int.gcd_comm]
  have hg : 0 < Int.gcd q p := Int.gcd_pos_of_ne_zero_left _ (by omega)
  rw [Int.fdiv_eq_ediv_of_nonneg _ (by omega), Int.natCast_ediv, Int.natAbs_of_nonneg (by omega)]
theorem divInt_neg' (p q : Int) : Rat.divInt (-p) (-q) = Rat.divInt p q := by
  rw [Rat.divInt_eq_div, Rat.divInt_eq_div, Rat.intCast_neg, Rat.intCast_neg]
  grind
theorem fdiv_num' {p q : Int} (hq : q < 0) : p.fdiv (-(Int.gcd p q : Int)) = (Rat.divInt p q).num := by
  rw [← divInt_neg', ← fdiv_num (by omega : 0 < -q), Int.gcd_neg, Int.neg_gcd, ← Int.neg_fdiv_neg, Int.neg_neg]
theorem fdiv_den' {p q : Int} (hq : q < 0) : q.fdiv (-(Int.gcd p q : Int)) = ((Rat.divInt p q).den : Int) := by
  rw [← divInt_neg', ← fdiv_den (by omega : 0 < -q), Int.gcd_neg, Int.neg_gcd, ← Int.neg_fdiv_neg, Int.neg_neg]
theorem num_le {p q : Int} : (Rat.divInt p q).num.natAbs ≤ p.natAbs := by
  rw [Rat.num_divInt]
  by_cases hq : q = 0
  · subst hq; simp
  · rw [Int.natAbs_ediv_of_dvd, Int.natAbs_mul]
    · have : q.sign.natAbs ≤ 1 := by rw [Int.natAbs_sign]; split <;> omega
      refine Nat.le_trans (Nat.div_le_self _ _) ?_
      calc q.sign.natAbs * p.natAbs ≤ 1 * p.natAbs := Nat.mul_le_mul_right _ this
        _ = p.natAbs := Nat.one_mul _
    · exact Int.dvd_trans (Int.gcd_dvd_right ..) (Int.dvd_mul_left ..)
theorem den_le {p q : Int} (hq : q ≠ 0) : (Rat.divInt p q).den ≤ q.natAbs := by
  rw [Rat.den_divInt, if_neg hq]
  exact Nat.div_le_self _ _
end DW

/-! DWS: loops of data, promises of shared defs. -/
namespace DW
open PySem L2

theorem as1.len {ds : List D} {k : D → Prop} (h : as1 ds k) : ds.length = 1 := by obtain ⟨x, rfl, _⟩ := as1.out h; rfl
theorem as2.len {ds : List D} {k : D → D → Prop} (h : as2 ds k) : ds.length = 2 := by obtain ⟨x, y, rfl, _⟩ := as2.out h; rfl
theorem as3.len {ds : List D} {k : D → D → D → Prop} (h : as3 ds k) : ds.length = 3 := by obtain ⟨x, y, z, rfl, _⟩ := as3.out h; rfl

/-! ### loops -/
theorem dFor_ind {g : DG} {b : DS} {Dd : DEnds} (P : List D → DEnv → Prop) (step : ∀ d rest δ (N : DEnv → Prop), P (d :: rest) δ → (∀ δ', P rest δ' → N δ') → g d δ fun δ1 => b { nx := N, rt := Dd.rt, bk := Dd.nx, ct := N } δ1)
    (fin : ∀ δ, P [] δ → Dd.nx δ) : ∀ {ds : List D} {δ : DEnv}, P ds δ → dFor g b Dd ds δ
  | [], δ, h => fin δ h
  | d :: ds, δ, h => step d ds δ _ h fun δ' h' => dFor_ind P step fin h'
/-- by places -/
theorem dFor_idx {g : DG} {b : DS} {Dd : DEnds} {ds : List D} (P : Nat → DEnv → Prop) (step : ∀ i d δ (N : DEnv → Prop), ds[i]? = some d → P i δ → (∀ δ', P (i + 1) δ' → N δ') → g d δ fun δ1 => b { nx := N, rt := Dd.rt, bk := Dd.nx, ct := N } δ1)
    (fin : ∀ δ, P ds.length δ → Dd.nx δ) {δ : DEnv} (h : P 0 δ) : dFor g b Dd ds δ := by
  refine dFor_ind (fun rest δ => ∃ i, rest = ds.drop i ∧ P i δ ∧ i ≤ ds.length) (fun d rest δ N ⟨i, e, p, hi⟩ k => ?_) (fun δ ⟨i, e, p, hi⟩ => ?_) ⟨0, rfl, h, Nat.zero_le _⟩
  · have : i = ds.length := by
      by_cases z : i < ds.length
      · rw [List.drop_eq_getElem_cons z] at e; cases e
      · omega
    subst this
    exact fin δ p
  · have hlt : i < ds.length := by
      by_cases z : i < ds.length
      · exact z
      · rw [List.drop_eq_nil_of_le (by omega)] at e; cases e
    rw [List.drop_eq_getElem_cons hlt] at e
    cases e
    exact step i _ δ N (List.getElem?_eq_getElem hlt) p fun δ' p' => k δ' ⟨i + 1, rfl, p', hlt⟩
/-- [e for x in ..], each item by a relation -/
theorem dLc_rel {g : DG} {te : DE} {Q : List D → Prop} {δ : DEnv} (R : D → D → Prop) : ∀ {ds acc : List D}, (∀ d ∈ ds, ∀ N : D → Prop, (∀ y, R d y → N y) → g d δ fun δ2 => te δ2 N) → (∀ ys, Paired R ds ys → Q (acc ++ ys)) → dLc g (fun _ Q => Q true) te Q δ ds acc
  | [], acc, _, k => by have := k [] .nil; rw [List.append_nil] at this; exact this
  | d :: ds, acc, h, k => by
    refine h d List.mem_cons_self _ fun y hy => ?_
    refine dLc_rel R (fun d' hd => h d' (List.mem_cons_of_mem _ hd)) fun ys hys => ?_
    have := k (y :: ys) (.cons hy hys)
    rw [List.append_assoc]
    exact this
theorem dLc_map {g : DG} {te : DE} {Q : List D → Prop} {δ : DEnv} (f : D → D) {ds : List D} (h : ∀ d ∈ ds, ∀ N : D → Prop, N (f d) → g d δ fun δ2 => te δ2 N) (k : Q (ds.map f)) : dLc g (fun _ Q => Q true) te Q δ ds [] := by
  refine dLc_rel (fun d y => y = f d) (fun d hd N hN => h d hd N (hN _ rfl)) fun ys hys => ?_
  have : ys = ds.map f := by
    clear h k
    induction hys with
    | nil => rfl
    | cons e _ ih => rw [e, ih]; rfl
  rw [this]; exact k
/-- .. with a test -/
theorem dLc_filter {g : DG} {tt : DT} {te : DE} {Q : List D → Prop} {δ : DEnv} (p : D → Bool) (f : D → D) : ∀ {ds acc : List D}, (∀ d ∈ ds, ∀ (N : D → Prop) (M : Prop), (p d = true → N (f d)) → (p d = false → M) → g d δ fun δ2 => tt δ2 fun b => if b = true then te δ2 N else M) → Q (acc ++ (ds.filter p).map f) → dLc g tt te Q δ ds acc
  | [], acc, _, k => by
    rw [List.filter_nil, List.map_nil, List.append_nil] at k
    exact k
  | d :: ds, acc, h, k => by
    refine h d List.mem_cons_self _ _ (fun hp => ?_) (fun hp => ?_)
    · refine dLc_filter p f (fun d' hd => h d' (List.mem_cons_of_mem _ hd)) ?_
      rw [List.filter_cons_of_pos hp, List.map_cons] at k
      rw [List.append_assoc]; exact k
    · refine dLc_filter p f (fun d' hd => h d' (List.mem_cons_of_mem _ hd)) ?_
      rw [List.filter_cons_of_neg (by rw [hp]; decide)] at k
      exact k

/-! ### promises -/
def isBag (d : D) : Prop := match d with | .bag => True | _ => False
theorem isBag.out {d : D} (h : isBag d) : d = .bag := by cases d <;> first | rfl | exact h.elim
def spAny : DSp := fun ds Q _ => as2 ds fun x y => isBag x ∧ asL y fun xs => xs ≠ [] ∧ xs.length ≤ 1000000 ∧ ∀ d ∈ xs, Q d
def spGcd : DSp := fun ds Q _ => as2 ds fun x y => asI x fun a => asI y fun b => Q (.int (Int.gcd a b))
def spFrac : DSp := fun ds Q _ => as2 ds fun x y => asI x fun p => asI y fun q => q ≠ 0 ∧ Sz 8900 q ∧ Q (qd (Rat.divInt p q))
/-- not above 2 ^ n above and below the line -/
def Qs (n : Nat) (u : Rat) : Prop := Sz n u.num ∧ Sz n (u.den : Int)
theorem Qs.mono {n m : Nat} {u : Rat} (h : Qs n u) (hm : n ≤ m) : Qs m u := ⟨h.1.mono hm, h.2.mono hm⟩
def spAdded : DSp := fun ds Q _ => as2 ds fun x y => ∃ (u v : Rat) (n m : Nat), x = qd u ∧ y = qd v ∧ Qs n u ∧ Qs m v ∧ n + m ≤ 8800 ∧ Q (qd (u + v))
def spScaled : DSp := fun ds Q _ => as2 ds fun x y => ∃ (i : Int) (v : Rat) (n m : Nat), x = .int i ∧ y = qd v ∧ Sz n i ∧ Qs m v ∧ n + m ≤ 8800 ∧ Q (qd (i * v))
/-- what is left of a rational over whole turns -/
def wd (u : Rat) : Rat := Rat.divInt (u.num % (u.den : Int)) u.den
theorem coprime_mod {a b : Int} (h : Int.gcd a b = 1) : Int.gcd (a % b) b = 1 := by
  have e : a % b = a + b * (-(a / b)) := by rw [Int.mul_neg, ← Int.sub_eq_add_neg]; exact Int.emod_def a b
  rw [e, Int.gcd_add_mul_left_left]; exact h
theorem divInt_low {a b : Int} (hb : 0 < b) (h : Int.gcd a b = 1) : (Rat.divInt a b).num = a ∧ ((Rat.divInt a b).den : Int) = b := by
  refine ⟨?_, ?_⟩
  · rw [← fdiv_num hb, h]; exact Int.fdiv_one a
  · rw [← fdiv_den hb, h]; exact Int.fdiv_one b
theorem rat_low (u : Rat) : Int.gcd u.num u.den = 1 := u.reduced
theorem den_posI (u : Rat) : (0 : Int) < u.den := by have := u.den_pos; omega
theorem wd_num (u : Rat) : (wd u).num = u.num % (u.den : Int) := (divInt_low (den_posI u) (coprime_mod (rat_low u))).1
theorem wd_den (u : Rat) : ((wd u).den : Int) = u.den := (divInt_low (den_posI u) (coprime_mod (rat_low u))).2
theorem qd_wd (u : Rat) : qd (wd u) = .tup [.int (u.num.fmod u.den), .int u.den] := by
  unfold qd
  rw [wd_num, wd_den, Int.fmod_eq_emod_of_nonneg _ (by have := den_posI u; omega)]
/-- it differs by a whole number -/
theorem wd_int (u : Rat) : u = wd u + ((u.num / (u.den : Int) : Int) : Rat) := by
  have h := den_posI u
  have hne : ((u.den : Int) : Rat) ≠ 0 := by
    intro z
    have : (u.den : Int) = 0 := by exact_mod_cast z
    omega
  have e1 : u = (u.num : Rat) / ((u.den : Int) : Rat) := by
    conv => lhs; rw [← Rat.num_divInt_den u]
    rw [Rat.divInt_eq_div]
  have e2 : (u.num : Rat) = ((u.num % (u.den : Int) : Int) : Rat) + ((u.den : Int) : Rat) * ((u.num / (u.den : Int) : Int) : Rat) := by
    rw [← Rat.intCast_mul, ← Rat.intCast_add, Int.emod_add_mul_ediv]
  unfold wd
  rw [Rat.divInt_eq_div]
  conv => lhs; rw [e1, e2]
  grind
/-- two rationals that differ by a whole number -/
theorem wd_eq {u v : Rat} (k : Int) (h : u = v + k) : wd u = wd v := by
  have hd := den_posI v
  have e : u = Rat.divInt (v.num + k * v.den) v.den := by
    rw [h, Rat.divInt_eq_div]
    have hne : ((v.den : Int) : Rat) ≠ 0 := by
      intro z
      have : (v.den : Int) = 0 := by exact_mod_cast z
      omega
    have e1 : v = (v.num : Rat) / ((v.den : Int) : Rat) := by
      conv => lhs; rw [← Rat.num_divInt_den v]
      rw [Rat.divInt_eq_div]
    conv => lhs; rw [e1]
    rw [Rat.intCast_add, Rat.intCast_mul]
    grind
  have hl := divInt_low (a := v.num + k * v.den) hd (by rw [Int.gcd_add_mul_right_left]; exact rat_low v)
  unfold wd
  rw [e, hl.1, hl.2, Int.add_mul_emod_self_right]
/-! ### sums of rows -/
def dotR : List Int → List Rat → Rat
  | m :: ms, u :: us => (m : Rat) * u + dotR ms us
  | _, _ => 0
theorem dotR_nilR : ∀ {ms : List Int}, dotR ms [] = 0
  | [] => rfl
  | _ :: _ => rfl
theorem items_out {d : D} {ds : List D} (h : items d = some ds) : d = .lst ds ∨ d = .tup ds := by
  cases d <;> cases h
  · exact .inr rfl
  · exact .inl rfl
def spDot : DSp := fun ds Q _ => as2 ds fun x y => ∃ (ms : List Int) (us : List Rat) (k : Nat), items x = some (ms.map D.int) ∧ items y = some (us.map qd) ∧ (∀ m ∈ ms, Sz k m) ∧ (∀ u ∈ us, Qs k u) ∧ (2 * k + 2) * (ms.length + 1) ≤ 8000 ∧ Q (qd (dotR ms us))
/-- the rows are as long as one another -/
def spTotal : DSp := fun ds Q _ => as2 ds fun x y => ∃ (ms : List Int) (us : List Rat) (k : Nat), items x = some (ms.map D.int) ∧ items y = some (us.map qd) ∧ ms.length = us.length ∧ (∀ m ∈ ms, Sz k m) ∧ (∀ u ∈ us, Qs k u) ∧ (2 * k + 2) * (ms.length + 1) ≤ 8000 ∧ Q (qd (dotR ms us))
def spWound : DSp := fun ds Q _ => as1 ds fun x => ∃ u, x = qd u ∧ Q (qd (wd u))
def spSum : DSp := fun ds Q _ => as2 ds fun x y => ∃ (ms : List Int) (us : List Rat) (k : Nat), items x = some (ms.map D.int) ∧ items y = some (us.map qd) ∧ ms.length = us.length ∧ (∀ m ∈ ms, Sz k m) ∧ (∀ u ∈ us, Qs k u) ∧ (2 * k + 2) * (ms.length + 1) ≤ 8000 ∧ Q (qd (wd (dotR ms us)))
/-- what happens to a sum at one more place -/
theorem dotR_step {ms : List Int} {us : List Rat} {i : Nat} {m : Int} {u : Rat} (h1 : ms[i]? = some m) (h2 : us[i]? = some u) : dotR (ms.drop i) (us.drop i) = (m : Rat) * u + dotR (ms.drop (i + 1)) (us.drop (i + 1)) := by
  obtain ⟨a, rfl⟩ := List.getElem?_eq_some_iff.mp h1
  obtain ⟨b, rfl⟩ := List.getElem?_eq_some_iff.mp h2
  rw [List.drop_eq_getElem_cons a, List.drop_eq_getElem_cons b]; rfl
theorem dotR_end {ms : List Int} {us : List Rat} {i : Nat} (h : ms.length ≤ i ∨ us.length ≤ i) : dotR (ms.drop i) (us.drop i) = 0 := by
  rcases h with h | h
  · rw [List.drop_eq_nil_of_le h]; rfl
  · rw [List.drop_eq_nil_of_le h]; exact dotR_nilR
theorem qs_divInt {n : Nat} {p q : Int} (hq : q ≠ 0) (h1 : Sz n p) (h2 : Sz n q) : Qs n (Rat.divInt p q) := ⟨h1.le num_le, by
  refine h2.le ?_
  rw [Int.natAbs_natCast]; exact den_le hq⟩
theorem rat_eq (u : Rat) : u = (u.num : Rat) / ((u.den : Int) : Rat) := by
  conv => lhs; rw [← Rat.num_divInt_den u]
  rw [Rat.divInt_eq_div]
theorem den_ne (u : Rat) : ((u.den : Int) : Rat) ≠ 0 := by
  intro z
  have : (u.den : Int) = 0 := by exact_mod_cast z
  have := den_posI u
  omega
theorem divInt_add (u v : Rat) : Rat.divInt (u.num * v.den + v.num * u.den) (u.den * v.den) = u + v := by
  have h1 := den_ne u
  have h2 := den_ne v
  rw [Rat.divInt_eq_div, Rat.intCast_add, Rat.intCast_mul, Rat.intCast_mul, Rat.intCast_mul]
  conv => rhs; rw [rat_eq u, rat_eq v]
  grind
theorem divInt_scale (i : Int) (v : Rat) : Rat.divInt (i * v.num) v.den = i * v := by
  have h2 := den_ne v
  rw [Rat.divInt_eq_div, Rat.intCast_mul]
  conv => rhs; rw [rat_eq v]
  grind
/-- the step of _law_total -/
theorem divInt_more (t v : Rat) (m : Int) : Rat.divInt (t.num * v.den + m * v.num * t.den) (t.den * v.den) = t + m * v := by
  have h1 := den_ne t
  have h2 := den_ne v
  rw [Rat.divInt_eq_div, Rat.intCast_add, Rat.intCast_mul, Rat.intCast_mul, Rat.intCast_mul, Rat.intCast_mul]
  conv => rhs; rw [rat_eq t, rat_eq v]
  grind
theorem Int.mul_ne_zero' {a b : Int} (h1 : 0 < a) (h2 : 0 < b) : a * b ≠ 0 := by have := Int.mul_pos h1 h2; omega
/-- the item of a list of data -/
theorem atI_map {α : Type} (f : α → D) {xs : List α} {i : Nat} {x : α} (h : xs[i]? = some x) : L2.atI (xs.map f) (i : Int) = some (f x) := by
  have hi : i < xs.length := (List.getElem?_eq_some_iff.mp h).1
  unfold L2.atI ixN
  rw [List.length_map, if_pos (by omega), if_pos (by omega)]
  show (xs.map f)[i]? = _
  rw [List.getElem?_map, h]; rfl
theorem atI_ofNat {xs : List D} {i : Nat} {x : D} (h : xs[i]? = some x) : L2.atI xs (i : Int) = some x := by
  have hi : i < xs.length := (List.getElem?_eq_some_iff.mp h).1
  unfold L2.atI ixN
  rw [if_pos (by omega), if_pos (by omega)]
  exact h
theorem deq_int (i j : Int) : deq (.int i) (.int j) = decide (i = j) := by
  show PyData.eqv (.int i) (.int j) = _
  first | rfl | simp [PyData.eqv] | (unfold PyData.eqv; simp; rfl)
theorem rng_get {n i : Nat} {lo : Int} {d : D} (h : ((List.range n).map fun i => D.int (lo + (i : Nat)))[i]? = some d) : i < n ∧ d = .int (lo + (i : Nat)) := by
  rw [List.getElem?_map] at h
  cases e : (List.range n)[i]? with
  | none => rw [e] at h; cases h
  | some j =>
    rw [e] at h
    obtain ⟨a, rfl⟩ := List.getElem?_eq_some_iff.mp e
    rw [List.getElem_range] at h
    cases h
    exact ⟨by simpa using a, rfl⟩
theorem rng0_get {n i : Nat} {d : D} (h : ((List.range n).map fun i => D.int (0 + (i : Nat)))[i]? = some d) : i < n ∧ d = .int (i : Nat) := by
  obtain ⟨h1, h2⟩ := rng_get h
  exact ⟨h1, by rw [h2, Int.zero_add]⟩
theorem rng_mem {n : Nat} {lo : Int} {d : D} (h : d ∈ (List.range n).map fun i => D.int (lo + (i : Nat))) : ∃ i, i < n ∧ d = .int (lo + (i : Nat)) := by
  obtain ⟨i, h1, rfl⟩ := List.mem_map.mp h
  exact ⟨i, List.mem_range.mp h1, rfl⟩
theorem rngOk0 {n : Nat} (h : n ≤ 100000000) : RngOk 0 (n : Int) := ⟨by decide, by decide, by omega, by omega⟩
/-- what _law_fraction draws -/
def spFraction : DSp := fun ds Q _ => as1 ds fun x => isBag x ∧ ∀ u, Qs 10 u → Q (qd u)
/-- a pose turned on -/
def spMoved : DSp := fun ds Q _ => as2 ds fun x y => ∃ (us vs : List Rat) (k : Nat), items x = some (us.map qd) ∧ items y = some (vs.map qd) ∧ us.length = vs.length ∧ (∀ u ∈ us, Qs k u) ∧ (∀ u ∈ vs, Qs k u) ∧ us.length ≤ 100000 ∧ k ≤ 1000 ∧ Q (.tup ((List.zipWith (fun u v => wd (u + v)) us vs).map qd))
theorem Paired.lengthD {R : D → D → Prop} {xs ys : List D} (h : Paired R xs ys) : xs.length = ys.length := by
  induction h with
  | nil => rfl
  | cons _ _ ih => rw [List.length_cons, List.length_cons, ih]
theorem Paired.getD' {R : D → D → Prop} {xs ys : List D} (h : Paired R xs ys) : ∀ {i : Nat} {x : D}, xs[i]? = some x → ∃ y, ys[i]? = some y ∧ R x y := by
  induction h with
  | nil => intro i x e; simp at e
  | cons r _ ih =>
    intro i x e
    cases i with
    | zero => simp at e; subst e; exact ⟨_, rfl, r⟩
    | succ i =>
      obtain ⟨y, h1, h2⟩ := ih (i := i) (by simpa using e)
      exact ⟨y, by simpa using h1, h2⟩
theorem moved_list {us vs : List Rat} {n : Nat} {ys : List D} (hl : us.length = vs.length) (hn : n = us.length) (h : Paired (fun d y => ∃ (i : Nat) (u v : Rat), d = .int (0 + (i : Nat)) ∧ us[i]? = some u ∧ vs[i]? = some v ∧ y = qd (wd (u + v))) ((List.range n).map fun i => D.int (0 + (i : Nat))) ys) :
    ys = (List.zipWith (fun u v => wd (u + v)) us vs).map qd := by
  have hlen := Paired.lengthD h
  rw [List.length_map, List.length_range] at hlen
  apply List.ext_getElem?
  intro i
  by_cases hi : i < n
  · obtain ⟨y, h1, j, u, v, e, hu, hv, rfl⟩ := Paired.getD' h (i := i) (x := .int (0 + (i : Nat))) (by rw [List.getElem?_map, List.getElem?_range hi]; rfl)
    have : j = i := by
      have := D.int.inj e
      omega
    subst this
    rw [h1, List.getElem?_map, List.getElem?_zipWith, hu, hv]; rfl
  · rw [List.getElem?_eq_none (by omega), List.getElem?_eq_none (by rw [List.length_map, List.length_zipWith]; omega)]
/-! ### _law_like -/
/-- plain data of at most so many levels, no list too long -/
def pd : Nat → D → Prop
  | _, .non => True
  | _, .bl _ => True
  | _, .int _ => True
  | _, .str x => PyData.strOk x = true
  | n + 1, .tup ds => ds.length ≤ 100000 ∧ ∀ d ∈ ds, pd n d
  | n + 1, .lst ds => ds.length ≤ 100000 ∧ ∀ d ∈ ds, pd n d
  | _, _ => False
mutual
def like : D → D → Bool
  | .non, .non => true
  | .bl a, .bl b => a == b
  | .int a, .int b => a == b
  | .str a, .str b => a == b
  | .tup xs, .tup ys => likes xs ys
  | .lst xs, .lst ys => likes xs ys
  | _, _ => false
def likes : List D → List D → Bool
  | [], [] => true
  | x :: xs, y :: ys => like x y && likes xs ys
  | _, _ => false
end
theorem likes_len : ∀ {xs ys : List D}, likes xs ys = true → xs.length = ys.length
  | [], [], _ => rfl
  | x :: xs, y :: ys, h => by
    unfold likes at h
    rw [Bool.and_eq_true] at h
    rw [List.length_cons, List.length_cons, likes_len h.2]
  | [], _ :: _, h => by unfold likes at h; cases h
  | _ :: _, [], h => by unfold likes at h; cases h
theorem likes_all : ∀ {xs ys : List D}, xs.length = ys.length → likes xs ys = (List.zipWith like xs ys).all id
  | [], [], _ => by unfold likes; rfl
  | x :: xs, y :: ys, h => by
    unfold likes
    rw [likes_all (by simpa using h)]; rfl
  | [], _ :: _, h => by simp at h
  | _ :: _, [], h => by simp at h
def spL : Nat → DSp
  | 0 => fun _ _ _ => False
  | n + 1 => fun ds Q _ => as2 ds fun x y => pd n x ∧ pd n y ∧ Q (.bl (like x y))
theorem pd_okd : ∀ {n : Nat} {d : D}, pd n d → okd n d
  | 0, .non, _ => trivial
  | _ + 1, .non, _ => trivial
  | 0, .bl _, _ => trivial
  | _ + 1, .bl _, _ => trivial
  | 0, .int _, _ => trivial
  | _ + 1, .int _, _ => trivial
  | 0, .str _, h => h
  | _ + 1, .str _, h => h
  | 0, .tup _, h => h.elim
  | 0, .lst _, h => h.elim
  | _ + 1, .tup _, h => fun d hd => pd_okd (h.2 d hd)
  | _ + 1, .lst _, h => fun d hd => pd_okd (h.2 d hd)
  | 0, .bag, h => h.elim
  | _ + 1, .bag, h => h.elim
  | 0, .obj _ _, h => h.elim
  | _ + 1, .obj _ _, h => h.elim
  | 0, .ty _, h => h.elim
  | _ + 1, .ty _, h => h.elim
  | 0, .cl _, h => h.elim
  | _ + 1, .cl _, h => h.elim
  | 0, .fz _ _, h => h.elim
  | _ + 1, .fz _ _, h => h.elim
theorem deq_bl (i j : Bool) : deq (.bl i) (.bl j) = (i == j) := by
  show PyData.eqv (.bool i) (.bool j) = _
  cases i <;> cases j <;> rfl
theorem deq_str (i j : Str) : deq (.str i) (.str j) = (i == j) := by
  show PyData.eqv (.str i) (.str j) = _
  rfl
theorem like_list {xs ys zs : List D} {n : Nat} (hn : n = ys.length) (hl : xs.length = ys.length) (h : Paired (fun d y => ∃ (i : Nat) (u v : D), d = .int (0 + (i : Nat)) ∧ xs[i]? = some u ∧ ys[i]? = some v ∧ y = .bl (like u v)) ((List.range n).map fun i => D.int (0 + (i : Nat))) zs) :
    zs = (List.zipWith like xs ys).map D.bl := by
  have hlen := Paired.lengthD h
  rw [List.length_map, List.length_range] at hlen
  apply List.ext_getElem?
  intro i
  by_cases hi : i < n
  · obtain ⟨y, h1, j, u, v, e, hu, hv, rfl⟩ := Paired.getD' h (i := i) (x := .int (0 + (i : Nat))) (by rw [List.getElem?_map, List.getElem?_range hi]; rfl)
    have : j = i := by
      have := D.int.inj e
      omega
    subst this
    rw [h1, List.getElem?_map, List.getElem?_zipWith, hu, hv]; rfl
  · rw [List.getElem?_eq_none (by omega), List.getElem?_eq_none (by rw [List.length_map, List.length_zipWith]; omega)]
def isPd : D → Bool
  | .bag => false
  | .obj _ _ => false
  | .ty _ => false
  | .cl _ => false
  | .fz _ _ => false
  | _ => true
theorem not_pd {n : Nat} {d : D} (h : pd n d) (hd : isPd d = false) : False := by
  cases n <;> cases d <;> first | exact h.elim | (unfold isPd at hd; cases hd)
theorem pd_str {n : Nat} {x : Str} (h : pd n (.str x)) : PyData.strOk x = true := by cases n <;> exact h
theorem pd_lst {n : Nat} {x : D} {xs : List D} (hi : items x = some xs) (h : pd n x) : ∃ m, n = m + 1 ∧ xs.length ≤ 100000 ∧ ∀ d ∈ xs, pd m d := by
  rcases items_out hi with rfl | rfl <;> cases n <;> first | exact h.elim | exact ⟨_, rfl, h.1, h.2⟩
theorem like_ne {xs ys : List D} (h : xs.length ≠ ys.length) : likes xs ys = false := by
  cases e : likes xs ys with
  | false => rfl
  | true => exact absurd (likes_len e) h
/-- the law's own promise -/
def spLaw (K : Frag) : DSp := fun ds Q _ => as1 ds fun x => ∃ ns, x = .fz K ns ∧ Q (.bl true)
/-! ### lists of draws -/
theorem paired_ints {R : D → D → Prop} {Pm : Int → Prop} (hR : ∀ d y, R d y → ∃ m, y = .int m ∧ Pm m) {ds ys : List D} (h : Paired R ds ys) : ∃ ms : List Int, ys = ms.map D.int ∧ ms.length = ds.length ∧ ∀ m ∈ ms, Pm m := by
  induction h with
  | nil => exact ⟨[], rfl, rfl, fun m hm => by cases hm⟩
  | cons r _ ih =>
    obtain ⟨m, rfl, hm⟩ := hR _ _ r
    obtain ⟨ms, rfl, hl, ha⟩ := ih
    exact ⟨m :: ms, rfl, by rw [List.length_cons, List.length_cons, hl], fun k hk => by
      rcases List.mem_cons.mp hk with rfl | hk
      · exact hm
      · exact ha k hk⟩
theorem paired_qs {R : D → D → Prop} {Pm : Rat → Prop} (hR : ∀ d y, R d y → ∃ m, y = qd m ∧ Pm m) {ds ys : List D} (h : Paired R ds ys) : ∃ ms : List Rat, ys = ms.map qd ∧ ms.length = ds.length ∧ ∀ m ∈ ms, Pm m := by
  induction h with
  | nil => exact ⟨[], rfl, rfl, fun m hm => by cases hm⟩
  | cons r _ ih =>
    obtain ⟨m, rfl, hm⟩ := hR _ _ r
    obtain ⟨ms, rfl, hl, ha⟩ := ih
    exact ⟨m :: ms, rfl, by rw [List.length_cons, List.length_cons, hl], fun k hk => by
      rcases List.mem_cons.mp hk with rfl | hk
      · exact hm
      · exact ha k hk⟩
mutual
theorem like_refl : ∀ {n : Nat} {d : D}, pd n d → like d d = true
  | _, .non, _ => by unfold like; rfl
  | _, .bl _, _ => by unfold like; simp
  | _, .int _, _ => by unfold like; simp
  | _, .str _, _ => by unfold like; simp
  | 0, .tup _, h => h.elim
  | 0, .lst _, h => h.elim
  | _ + 1, .tup ds, h => by unfold like; exact likes_refl h.2
  | _ + 1, .lst ds, h => by unfold like; exact likes_refl h.2
  | _, .bag, h => (not_pd h rfl).elim
  | _, .obj _ _, h => (not_pd h rfl).elim
  | _, .ty _, h => (not_pd h rfl).elim
  | _, .cl _, h => (not_pd h rfl).elim
  | _, .fz _ _, h => (not_pd h rfl).elim
theorem likes_refl : ∀ {n : Nat} {ds : List D}, (∀ d ∈ ds, pd n d) → likes ds ds = true
  | _, [], _ => by unfold likes; rfl
  | _, d :: ds, h => by
    unfold likes
    rw [like_refl (h d List.mem_cons_self), likes_refl fun e he => h e (List.mem_cons_of_mem _ he)]; rfl
end
theorem pd_int {n : Nat} {i : Int} : pd n (.int i) := by cases n <;> trivial
theorem pd_qd {n : Nat} {u : Rat} : pd (n + 1) (qd u) := ⟨(show 2 ≤ 100000 by decide), fun d hd => by
  simp only [List.mem_cons, List.not_mem_nil, or_false] at hd
  rcases hd with rfl | rfl <;> exact pd_int⟩
/-- one entry changed -/
theorem dotR_set : ∀ {ms : List Int} {us : List Rat} {i : Nat} {m : Int} {u v : Rat}, ms[i]? = some m → us[i]? = some u → dotR ms (us.set i v) = dotR ms us + m * (v - u)
  | a :: ms, b :: us, 0, m, u, v, h1, h2 => by
    simp at h1 h2
    subst h1; subst h2
    show (a : Rat) * v + dotR ms us = (a : Rat) * b + dotR ms us + (a : Rat) * (v - b)
    grind
  | a :: ms, b :: us, i + 1, m, u, v, h1, h2 => by
    have ih := dotR_set (ms := ms) (us := us) (i := i) (v := v) (by simpa using h1) (by simpa using h2)
    show (a : Rat) * b + dotR ms (us.set i v) = (a : Rat) * b + dotR ms us + (m : Rat) * (v - u)
    rw [ih]; grind
  | [], _, _, _, _, _, h1, _ => by simp at h1
  | _ :: _, [], _, _, _, _, _, h2 => by simp at h2
theorem dotR_zero : ∀ (n : Nat) (us : List Rat), dotR (List.replicate n 0) us = 0
  | 0, _ => rfl
  | n + 1, [] => rfl
  | n + 1, u :: us => by
    rw [List.replicate_succ]
    show ((0 : Int) : Rat) * u + dotR (List.replicate n 0) us = 0
    rw [dotR_zero n us]; grind
theorem rep1 (n : Nat) (d : D) : (List.replicate n [d]).flatten = List.replicate n d := by
  induction n with
  | zero => rfl
  | succ n ih => rw [List.replicate_succ, List.flatten_cons, ih, List.replicate_succ]; rfl
theorem pullOk {m : Int} (h1 : 1 ≤ m) (h2 : m < 1000000000000) : PullOk m := ⟨h1, by
  have h3 : m.natAbs < 2 ^ 40 := by omega
  exact Nat.lt_of_lt_of_le ((Nat.log2_lt (by omega)).mpr h3) (by decide)⟩
theorem dLc_mapL {α : Type} {g : DG} {te : DE} {Q : List D → Prop} {δ : DEnv} (e f : α → D) : ∀ {xs : List α} {acc : List D}, (∀ x ∈ xs, ∀ N : D → Prop, N (f x) → g (e x) δ fun δ2 => te δ2 N) → Q (acc ++ xs.map f) → dLc g (fun _ Q => Q true) te Q δ (xs.map e) acc
  | [], acc, _, k => by rw [List.map_nil, List.append_nil] at k; exact k
  | x :: xs, acc, h, k => by
    refine h x List.mem_cons_self _ ?_
    refine dLc_mapL e f (fun y hy => h y (List.mem_cons_of_mem _ hy)) ?_
    rw [List.append_assoc]
    exact k
def half : Rat := ⟨1, 2, by decide, by decide⟩
theorem half_eq : half = 1 / 2 := by
  rw [show half = Rat.divInt half.num half.den from (Rat.num_divInt_den half).symm, Rat.divInt_eq_div]; rfl
theorem qs_wd {n : Nat} {u : Rat} (h : Qs n u) : Qs n (wd u) := by
  have hd := den_posI u
  refine ⟨?_, by rw [wd_den]; exact h.2⟩
  rw [wd_num]
  refine h.2.le ?_
  have h1 := Int.emod_nonneg u.num (show (u.den : Int) ≠ 0 by omega)
  have h2 := Int.emod_lt_of_pos u.num hd
  omega
theorem dLc_rel0 {g : DG} {te : DE} {Q : List D → Prop} {δ : DEnv} (R : D → D → Prop) {ds : List D} (h : ∀ d ∈ ds, ∀ N : D → Prop, (∀ y, R d y → N y) → g d δ fun δ2 => te δ2 N) (k : ∀ ys, Paired R ds ys → Q ys) : dLc g (fun _ Q => Q true) te Q δ ds [] := dLc_rel R h k
theorem dLc_mapL0 {α : Type} {g : DG} {te : DE} {Q : List D → Prop} {δ : DEnv} (e f : α → D) {xs : List α} (h : ∀ x ∈ xs, ∀ N : D → Prop, N (f x) → g (e x) δ fun δ2 => te δ2 N) (k : Q (xs.map f)) : dLc g (fun _ Q => Q true) te Q δ (xs.map e) [] := dLc_mapL e f h k
theorem fmod2 (m : Int) : m.fmod 2 = m % 2 := Int.fmod_eq_emod_of_nonneg _ (by decide)
theorem turn_law {ms : List Int} {ps : List Rat} {i : Nat} {m : Int} {p h : Rat} (hm : ms[i]? = some m) (hp : ps[i]? = some p) (hh : (h = 0 ∧ m % 2 = 0) ∨ (h = half ∧ m % 2 = 1)) : wd (dotR ms (ps.set i (wd (p + half)))) = wd (wd (dotR ms ps) + h) := by
  rw [dotR_set hm hp]
  have e1 := wd_int (p + half)
  have e2 := wd_int (dotR ms ps)
  generalize (p + half).num / ((p + half).den : Int) = k2 at e1
  generalize (dotR ms ps).num / ((dotR ms ps).den : Int) = k1 at e2
  generalize wd (p + half) = a at *
  generalize dotR ms ps = S at *
  generalize wd S = b at *
  have e3 : (m : Rat) = 2 * ((m / 2 : Int) : Rat) + ((m % 2 : Int) : Rat) := by
    have := Int.mul_ediv_add_emod m 2
    conv => lhs; rw [← this]
    rw [Rat.intCast_add, Rat.intCast_mul]; rfl
  rcases hh with ⟨rfl, h0⟩ | ⟨rfl, h1⟩
  · refine wd_eq (k1 + m / 2 - m * k2) ?_
    rw [h0] at e3
    rw [Rat.intCast_sub, Rat.intCast_add, Rat.intCast_mul]
    rw [half_eq] at e1
    have ez : ((0 : Int) : Rat) = 0 := rfl
    rw [ez] at e3
    grind
  · refine wd_eq (k1 + m / 2 - m * k2) ?_
    rw [h1] at e3
    rw [Rat.intCast_sub, Rat.intCast_add, Rat.intCast_mul]
    rw [half_eq] at e1 ⊢
    have ez : ((1 : Int) : Rat) = 1 := rfl
    rw [ez] at e3
    grind
theorem qs_scale {n m : Nat} {i : Int} {v : Rat} (h1 : Sz n i) (h2 : Qs m v) : Qs (n + m) ((i : Rat) * v) := by
  rw [← divInt_scale]
  exact qs_divInt (by have := den_posI v; omega) (h1.mul h2.1) (h2.2.mono (by omega))
theorem qs_add {n m : Nat} {u v : Rat} (h1 : Qs n u) (h2 : Qs m v) : Qs (n + m + 1) (u + v) := by
  rw [← divInt_add]
  exact qs_divInt (Int.mul_ne_zero' (den_posI u) (den_posI v)) ((h1.1.mul h2.2).add ((h2.1.mul h1.2).mono (by omega))) ((h1.2.mul h2.2).mono (by omega))
theorem qs_zero {n : Nat} (h : 1 ≤ n) : Qs n 0 := by
  have h1 : (1 : Nat) < 2 ^ n := Nat.lt_of_lt_of_le (by decide : 1 < 2 ^ 1) (Nat.pow_le_pow_right (by decide) h)
  exact ⟨(show (0 : Int).natAbs < 2 ^ n from Nat.lt_of_le_of_lt (by decide) h1), (show (1 : Int).natAbs < 2 ^ n from h1)⟩
theorem qs_dotR {k : Nat} : ∀ {ms : List Int} {us : List Rat}, (∀ m ∈ ms, Sz k m) → (∀ u ∈ us, Qs k u) → Qs ((2 * k + 2) * ms.length + 1) (dotR ms us)
  | [], _, _, _ => qs_zero (Nat.le_add_left _ _)
  | m :: ms, [], _, _ => qs_zero (Nat.le_add_left _ _)
  | m :: ms, u :: us, h1, h2 => by
    have ih := qs_dotR (ms := ms) (us := us) (fun x hx => h1 x (List.mem_cons_of_mem _ hx)) (fun x hx => h2 x (List.mem_cons_of_mem _ hx))
    refine (qs_add (qs_scale (h1 m List.mem_cons_self) (h2 u List.mem_cons_self)) ih).mono ?_
    rw [List.length_cons, Nat.mul_succ]; omega
end DW

set_option Elab.async false
set_option linter.all false
set_option maxRecDepth 100000
set_option maxHeartbeats 0
namespace Law_k03
open PySem L2 DW
def top (i : Nat) : Stmt := PySem.Challenge.pw_gripround_k03_sums_of_rows.main.body.getD i (.Pass ⟨0, 0, 0, 0⟩)
section
variable {P : Program} {w : World} {K : PySem.W.Frag} {mg : Str → Option Value} {base : Heap}
abbrev s__law_opened : Stmt := top 12
theorem sc__law_opened : FnScope ["_law_script"] ["_law_script"] (defScope s__law_opened) := ⟨rfl, rfl, rfl, by decide +kernel, rfl, by decide +kernel, by decide +kernel⟩
theorem ok__law_opened1 {f : Addr} {fd : FuncData} (Fn : Fun K "_law_opened" "_law_opened" s__law_opened f fd) (n_list : mg "list" = none) : FnOk P w K mg base (L2.CX P w) 1 f fd ["_law_script"] (spOpen1 K) := by
  refine Fn.okX sc__law_opened (fun vs H Q E h => ?_) (fun cdv A outer s H vs Q E hr h => ?_)
  · obtain ⟨a, ns, rfl, _⟩ := h; rfl
  · obtain ⟨a, ns, rfl, hS, q⟩ := h
    refine ⟨_, pss_one (ps_ret (pe_lst (pa_cons (pe_callTy call_list_of (by rfl) n_list (by decide +kernel) (pa_cons (pe_slice sl_list (pv 0) po_none (po_some pe_int)) pa_nil)) (pa_cons pe_int (pa_cons pe_int (pa_cons pe_int (pa_cons pe_int pa_nil))))))), ?_⟩
    refine ⟨_, rfl, ⟨63, rfl, a, _, rfl, hS, fun p hp => ?_⟩⟩
    rw [cutV_ints]
    refine ⟨p, _, rfl, .inl (.of upd_same), fun l hl => ⟨(by show 5 ≤ sizeLine; decide), fun b hb => ?_⟩⟩
    exact q p l b _ hp hl hb
theorem ok__law_opened {T : Tbs} {f : Addr} {fd : FuncData} (Fn : Fun K "_law_opened" "_law_opened" s__law_opened f fd) (n_list : mg "list" = none) : FnOk P w K mg base (L2.CX P w) 1 f fd ["_law_script"] (lift T false (spOpen K)) := open_fn (ok__law_opened1 Fn n_list) rfl
abbrev s__law_pull : Stmt := top 13
theorem sc__law_pull : FnScope ["_law_bag", "_law_many", "_law_cell", "_law_digit", "_law_seed"] ["_law_bag", "_law_many"] (defScope s__law_pull) := ⟨rfl, rfl, rfl, by decide +kernel, rfl, by decide +kernel, by decide +kernel⟩
theorem ok__law_pull1 {f : Addr} {fd : FuncData} (Fn : Fun K "_law_pull" "_law_pull" s__law_pull f fd) (n_len : mg "len" = none) (n_int : mg "int" = none) : FnOk P w K mg base (L2.CX P w) 1 f fd ["_law_bag", "_law_many"] spPull1 := by
  refine Fn.okX sc__law_pull (fun vs H Q E h => ?_) (fun cdv A outer s H vs Q E hr h => ?_)
  · obtain ⟨a, L, ns, i, c, d, k, m, rfl, _⟩ := h; rfl
  · obtain ⟨a, L, ns, i, c, d, k, m, rfl, ha, hL, ⟨m1, m2⟩, ⟨b1, b2, b3, b4, b5⟩, q⟩ := h
    have nd := sc__law_pull.nd
    have hLa := bag_ne ha hL
    refine ⟨_, pss_cons (ps_if (PW.pt (pw_and (pt_cmpR op_eq (pe_ix ix_list (pv 0) pe_int (fun _ _ => rfl)) pe_int (nomark _)) (pw_and1 (pt_cmpR op_lt (pe_ix ix_list (pv 0) pe_int (fun _ _ => rfl)) (pe_callB call_len (by rfl) n_len PySem.boot_len (pa_cons (pe_ix ix_list (pv 0) pe_int (fun _ _ => rfl)) pa_nil)) (nomark _)))))
      (pss_cons (ps_set (i := 2) nd rfl (Or.inl rfl) (pe_ix ix_list (pe_ix ix_list (pv 0) pe_int (fun _ _ => rfl)) (pe_ix ix_list (pv 0) pe_int (fun _ _ => rfl)) (fun _ _ => rfl)))
      (pss_cons (ps_asg (pe_op op_add (pe_ix ix_list (pv 0) pe_int (fun _ _ => rfl)) pe_int) (pg_sub (pv 0) pe_int set_list))
      (pss_one (ps_if (pt_cmpR op_ge (pv 2) (pe_op op_pow pe_int pe_int) (nomark _))
        (pss_one (ps_asg (pv 2) (pg_sub (pv 0) pe_int set_list)))
        (pss_one (ps_asg (pe_op op_modN (pe_callTy call_int1 (by rfl) n_int (by decide +kernel) (pa_cons (pe_op op_add (pe_op op_add (pe_op op_mulA (pe_ix ix_list (pv 0) pe_int (fun _ _ => rfl)) pe_int)
          (pe_op op_mulA (pe_op op_modN (pe_callTy call_int1 (by rfl) n_int (by decide +kernel) (pa_cons (pv 2) pa_nil)) pe_int) pe_int)) pe_int) pa_nil)) pe_int) (pg_sub (pv 0) pe_int set_list))))))) pss_nil)
      (pss_cons (ps_if (pt_cmpR op_gt (pe_ix ix_list (pv 0) pe_int (fun _ _ => rfl)) pe_int (nomark _))
        (pss_cons (ps_set (i := 3) nd rfl (Or.inl rfl) (pe_op op_modN (pe_callTy call_int1 (by rfl) n_int (by decide +kernel) (pa_cons (pe_ix ix_list (pv 0) pe_int (fun _ _ => rfl)) pa_nil)) (pv 1)))
        (pss_cons (ps_asg (pe_op op_fdivA (pe_ix ix_list (pv 0) pe_int (fun _ _ => rfl)) (pv 1)) (pg_sub (pv 0) pe_int set_list))
        (pss_one (ps_ret (pv 3))))) pss_nil)
      (pss_cons (ps_asg (pe_op op_add (pe_ix ix_list (pv 0) pe_int (fun _ _ => rfl)) pe_int) (pg_sub (pv 0) pe_int set_list))
      (pss_cons (ps_set (i := 4) nd rfl (Or.inl rfl) (pe_ix ix_list (pv 0) pe_int (fun _ _ => rfl)))
      (pss_cons (ps_asg (pe_op op_modN (pe_callTy call_int1 (by rfl) n_int (by decide +kernel) (pa_cons (pe_op op_add (pe_op op_add (pe_op op_add (pe_op op_mulA (pv 4) (pv 4)) (pe_op op_mulA (pv 4) pe_int)) (pe_op op_mulA (pe_ix ix_list (pv 0) pe_int (fun _ _ => rfl)) pe_int)) pe_int) pa_nil)) pe_int) (pg_sub (pv 0) pe_int set_list))
      (pss_one (ps_ret (pe_op op_modN (pe_callTy call_int1 (by rfl) n_int (by decide +kernel) (pa_cons (pe_op op_add (pe_op op_fdivA (pe_ix ix_list (pv 0) pe_int (fun _ _ => rfl)) pe_int)
        (pe_op op_mulA (pe_op op_modN (pe_callTy call_int1 (by rfl) n_int (by decide +kernel) (pa_cons (pe_ix ix_list (pv 0) pe_int (fun _ _ => rfl)) pa_nil)) pe_int) pe_int)) pa_nil)) (pv 1)))))))), ?_⟩
    refine upd_start ha ?_
    refine seq_mid (fun σ H' => ∃ i c d cell, σ = [some (.ref a), some (.int m), cell, none, none] ∧ H' = upd H a (bagL L i c d k) ∧ BagB i c d k) (fun N hN => ?_) ?_
    · refine R_get (v := .int c) rfl rfl ⟨rfl, _, rfl, ?_⟩
      have stay : N [some (.ref a), some (.int m), none, none, none] (upd H a (bagL L i c d k)) := hN _ _ ⟨i, c, d, none, rfl, rfl, b1, b2, b3, b4, b5⟩
      refine ite2 (fun hc => ?_) (fun _ => iteF stay)
      refine R_get (v := .int i) rfl rfl ?_
      refine R_get (v := .ref L) rfl rfl ⟨_, ns.length, rfl, .inl ⟨ns.map V.int, .of ((upd_ne hLa).trans hL), by rw [List.length_map]⟩, ⟨_, _, rfl, rfl, _, rfl, ?_⟩⟩
      refine ite2 (fun hi => ?_) (fun _ => stay)
      have hi : i < (ns.length : Int) := of_decide_eq_true hi
      obtain ⟨z, hz⟩ : ∃ z, L2.atI (ns.map V.int) i = some (V.int z) := by
        refine ⟨ns[i.toNat]'(by omega), ?_⟩
        unfold L2.atI ixN
        rw [List.length_map, if_pos b1, if_pos hi]
        show (ns.map V.int)[i.toNat]? = _
        rw [List.getElem?_map, List.getElem?_eq_getElem (by omega)]; rfl
      refine R_get (v := .ref L) rfl rfl (R_get (v := .int i) rfl rfl ⟨L, _, i, .int z, rfl, rfl, .of ((upd_ne hLa).trans hL), hz, ?_⟩)
      refine R_get (v := .int i) rfl rfl ⟨_, _, rfl, rfl, R_put (n := 1) rfl rfl ?_⟩
      refine ⟨_, rfl, _, _, rfl, rfl, ⟨by decide, by decide, by decide⟩, _, _, rfl, rfl, _, rfl, ?_⟩
      refine ite2 (fun hz => ?_) (fun _ => ?_)
      · have hz : (10 : Int) ^ (18 : Int).toNat ≤ z := of_decide_eq_true hz
        have h10 : (10 : Int) ^ (18 : Int).toNat = 1000000000000000000 := by decide
        exact ⟨_, rfl, R_put (n := 2) rfl rfl (hN _ _ ⟨i + 1, z, d, some (.int z), rfl, rfl, by omega, by omega, b3, b4, b5⟩)⟩
      · refine R_get (v := .int d) rfl rfl ⟨_, _, rfl, rfl, small_mul (by decide) (by decide), _, rfl, .inl ⟨_, rfl, _, _, rfl, rfl, (show (2147483549 : Int) ≠ 0 by decide), _, _, rfl, rfl, small_mul (by decide) (by decide), _, _, rfl, rfl, _, _, rfl, rfl, .inl ⟨_, rfl, _, _, rfl, rfl, (show (2147483587 : Int) ≠ 0 by decide), R_put (n := 3) rfl rfl ?_⟩⟩⟩
        have r := fmod_rng (x := d * 46021 + z.fmod 2147483549 * 51061 + 37) (m := 2147483587) (by decide)
        exact hN _ _ ⟨i + 1, c, _, some (.int z), rfl, rfl, by omega, b2, r.1, r.2, b5⟩
    · rintro σ H' ⟨i, c, d, cell, rfl, rfl, b1, b2, b3, b4, _⟩
      refine seq_mid (fun σ H' => ∃ cell, σ = [some (.ref a), some (.int m), cell, none, none] ∧ H' = upd H a (bagL L i c d k)) (fun N hN => ?_) ?_
      · refine R_get (v := .int c) rfl rfl ⟨_, _, rfl, rfl, _, rfl, ?_⟩
        refine ite2 (fun hc => ?_) (fun _ => hN _ _ ⟨cell, rfl, rfl⟩)
        refine R_get (v := .int c) rfl rfl (.inl ⟨_, rfl, _, rfl, _, _, rfl, rfl, by omega, ?_⟩)
        refine R_get (v := .int c) rfl rfl ⟨_, rfl, _, _, rfl, rfl, ⟨by omega, m2⟩, R_put (n := 2) rfl rfl ⟨_, rfl, ?_⟩⟩
        have r := fmod_rng (x := c) m1
        exact q _ i _ d k r.1 r.2 ⟨b1, fdiv_nn m1 b2, b3, b4, b5⟩
      · rintro σ H' ⟨cell, rfl, rfl⟩
        refine R_get (v := .int k) rfl rfl ⟨_, _, rfl, rfl, R_put (n := 4) rfl rfl ?_⟩
        refine R_get (v := .int d) rfl rfl ?_
        refine ⟨_, rfl, _, rfl, _, _, rfl, rfl, small_mul (by omega) (by omega), _, rfl, _, _, rfl, rfl, small_mul (by decide) (by decide), _, _, rfl, rfl, ?_⟩
        refine R_get (v := .int (k + 1)) rfl rfl ⟨_, _, rfl, rfl, small_mul (by decide) (by decide), _, _, rfl, rfl, _, _, rfl, rfl, .inl ⟨_, rfl, _, _, rfl, rfl, (show (2147483587 : Int) ≠ 0 by decide), R_put (n := 3) rfl rfl ?_⟩⟩
        have r := fmod_rng (x := d * d + d * 36017 + (k + 1) * 1299709 + 90001) (m := 2147483587) (by decide)
        refine R_get (v := .int ((d * d + d * 36017 + (k + 1) * 1299709 + 90001).fmod 2147483587)) rfl rfl ⟨_, _, rfl, rfl, ⟨(show (71 : Int) ≠ 0 by decide), (show (71 : Int).natAbs.log2 < 9000 by decide +kernel)⟩, ?_⟩
        refine R_get (v := .int ((d * d + d * 36017 + (k + 1) * 1299709 + 90001).fmod 2147483587)) rfl rfl (.inl ⟨_, rfl, _, _, rfl, rfl, (show (7919 : Int) ≠ 0 by decide), _, _, rfl, rfl, small_mul (by decide) (by decide), _, _, rfl, rfl, .inl ⟨_, rfl, _, rfl, _, _, rfl, rfl, by omega, ?_⟩⟩)
        have r2 := fun x => fmod_rng (x := x) m1
        exact q _ i c _ (k + 1) (r2 _).1 (r2 _).2 ⟨b1, b2, r.1, r.2, by omega⟩
theorem ok__law_pull {T : Tbs} {f : Addr} {fd : FuncData} (Fn : Fun K "_law_pull" "_law_pull" s__law_pull f fd) (n_len : mg "len" = none) (n_int : mg "int" = none) : FnOk P w K mg base (L2.CX P w) 1 f fd ["_law_bag", "_law_many"] (lift T false spPull) := pull_fn (ok__law_pull1 Fn n_len n_int) rfl
abbrev s__law_any : Stmt := top 14
theorem sc__law_any : FnScope ["_law_bag", "_law_things"] ["_law_bag", "_law_things"] (defScope s__law_any) := ⟨rfl, rfl, rfl, by decide +kernel, rfl, by decide +kernel, by decide +kernel⟩
theorem ok__law_any  {T : Tbs} {k : Nat} {f : Addr} {fd : FuncData} (Fn : Fun K "_law_any" "_law_any" s__law_any f fd) (n_len : mg "len" = none) {k__law_pull : Nat} {f__law_pull : Addr} {fd__law_pull : FuncData} (D__law_pull : FnG P w K mg base T "_law_pull" k__law_pull f__law_pull fd__law_pull ["_law_bag", "_law_many"] false spPull) (hk__law_pull : k__law_pull ≤ k) : FnOk P w K mg base (L2.CX P w) (k + 1) f fd ["_law_bag", "_law_things"] (lift T false spAny) := by
  refine fn_ok Fn sc__law_any (fun ds Q EX h => as2.len h) (fun cdv A outer s G H E EX hr hu he hx hp => ?_)
  have hN := sc__law_any.nd
  have hr__law_pull := hr.mono hk__law_pull
  refine ⟨_, _, (fss_one (fs_ret (fe_ixK (K := K) rfl (vT 1) (FE.tt (fe_callG D__law_pull he hr__law_pull hx (fb_cons (vT 0) (fb_cons (fe_callB (dc_lenK (K := K) rfl) n_len (fb_cons (vT 1) fb_nil)) fb_nil))))))), fun ds Q h => ?_⟩
  obtain ⟨x, y, rfl, hb, g⟩ := as2.out h
  clear h
  cases isBag.out hb
  obtain ⟨xs, hx, hne, hl, q⟩ := asL.out g
  clear g
  have h0 : 0 < xs.length := List.length_pos_iff.mpr hne
  have fin : ∀ n : Int, 0 ≤ n → n < xs.length → asO (L2.atI xs n) fun d => (false = false ∨ NoL d) ∧ Q d := fun n n0 n1 => by
    obtain ⟨i, rfl⟩ := Int.eq_ofNat_of_zero_le n0
    have hi : i < xs.length := by omega
    exact .mk (DW.atI_ofNat (List.getElem?_eq_getElem hi)) ⟨.inl rfl, q _ (List.getElem_mem hi)⟩
  have ok : PullOk (xs.length : Int) := ⟨by omega, by
    rw [Int.natAbs_natCast]
    exact Nat.lt_of_lt_of_le ((Nat.log2_lt (by omega)).mpr (Nat.lt_of_le_of_lt hl (by decide : 1000000 < 2 ^ 20))) (by decide)⟩
  rcases hx with rfl | rfl
  · exact (show True ∧ PullOk _ ∧ _ from ⟨trivial, ok, fin⟩)
  · exact (show True ∧ PullOk _ ∧ _ from ⟨trivial, ok, fin⟩)
abbrev s__law_gcd : Stmt := top 16
theorem sc__law_gcd : FnScope ["_law_a", "_law_b"] ["_law_a", "_law_b"] (defScope s__law_gcd) := ⟨rfl, rfl, rfl, by decide +kernel, rfl, by decide +kernel, by decide +kernel⟩
theorem ok__law_gcd  {T : Tbs} {k : Nat} {f : Addr} {fd : FuncData} (Fn : Fun K "_law_gcd" "_law_gcd" s__law_gcd f fd) (n_abs : mg "abs" = none) (n_int : mg "int" = none) : FnOk P w K mg base (L2.CX P w) (k + 1) f fd ["_law_a", "_law_b"] (lift T false spGcd) := by
  refine fn_ok Fn sc__law_gcd (fun ds Q EX h => as2.len h) (fun cdv A outer s G H E EX hr hu he hx hp => ?_)
  have hN := sc__law_gcd.nd
  refine ⟨_, _, (fss_cons (fs_par 0 1 rfl hN (fa_cons (fe_callB dc_abs n_abs (fb_cons (vT 0) fb_nil)) (fa_cons (fe_callB dc_abs n_abs (fb_cons (vT 1) fb_nil)) fa_nil)))
    (fss_cons (fs_while hp (ft_cmp dop_gt (vT 1) fe_int) (fss_one (fs_par 0 1 rfl hN (fa_cons (vG 1) (fa_cons (fe_bin dop_mod (fe_callTy dc_int n_int (fb_cons (vT 0) fb_nil)) (vT 1)) fa_nil)))))
    (fss_one (fs_ret (vG 0))))), fun ds Q h => ?_⟩
  obtain ⟨x, y, rfl, h⟩ := as2.out h
  obtain ⟨a, rfl, h⟩ := asI.out h
  obtain ⟨b, rfl, q⟩ := asI.out h
  refine (show sWhile _ _ _ _ from ⟨fun m δ => ∃ a' b' : Nat, δ = [some (.sh (.int a')), some (.sh (.int b'))] ∧ m = b' ∧ Nat.gcd a' b' = Int.gcd a b, ⟨b.natAbs, a.natAbs, b.natAbs, rfl, rfl, rfl⟩, ?_⟩)
  rintro m δ ⟨a', b', rfl, hm, hg⟩
  subst m
  refine (show (if decide ((0 : Int) < (b' : Int)) = true then _ else _) from ?_)
  split
  · rename_i hb
    have hb' : 0 < b' := by simpa using hb
    refine (show (b' : Int) ≠ 0 ∧ ∃ m', m' < b' ∧ _ from ⟨by omega, a' % b', Nat.mod_lt _ hb', b', a' % b', ?_, rfl, ?_⟩)
    · rw [show ((a' : Int)).fmod (b' : Int) = ((a' % b' : Nat) : Int) from by rw [Int.fmod_eq_emod_of_nonneg _ (by omega)]; rfl]
      rfl
    · rw [← hg, Nat.gcd_comm a' b', Nat.gcd_rec b' a', Nat.gcd_comm]
  · rename_i hb
    have hb' : b' = 0 := by simpa using hb
    subst hb'
    rw [Nat.gcd_zero_right] at hg
    refine (show (false = false ∨ True) ∧ Q (.int a') from ⟨.inl rfl, ?_⟩)
    rw [hg]; exact q
abbrev s__law_frac : Stmt := top 17
theorem sc__law_frac : FnScope ["_law_p", "_law_q", "_law_part"] ["_law_p", "_law_q"] (defScope s__law_frac) := ⟨rfl, rfl, rfl, by decide +kernel, rfl, by decide +kernel, by decide +kernel⟩
theorem ok__law_frac  {T : Tbs} {k : Nat} {f : Addr} {fd : FuncData} (Fn : Fun K "_law_frac" "_law_frac" s__law_frac f fd) {k__law_gcd : Nat} {f__law_gcd : Addr} {fd__law_gcd : FuncData} (D__law_gcd : FnG P w K mg base T "_law_gcd" k__law_gcd f__law_gcd fd__law_gcd ["_law_a", "_law_b"] false spGcd) (hk__law_gcd : k__law_gcd ≤ k) : FnOk P w K mg base (L2.CX P w) (k + 1) f fd ["_law_p", "_law_q"] (lift T false spFrac) := by
  refine fn_ok Fn sc__law_frac (fun ds Q EX h => as2.len h) (fun cdv A outer s G H E EX hr hu he hx hp => ?_)
  have hN := sc__law_frac.nd
  have hr__law_gcd := hr.mono hk__law_gcd
  refine ⟨_, _, (fss_cons (fs_set 2 hN (fe_callG D__law_gcd he hr__law_gcd hx (fb_cons (vT 0) (fb_cons (vT 1) fb_nil))))
    (fss_cons (fs_if (ft_cmp dop_lt (vT 1) fe_int) (fss_one (fs_set 2 hN (fe_bin dop_sub fe_int (vT 2)))) fss_nil)
    (fss_one (fs_ret (fe_tup (fa_cons (fe_bin dop_div (vT 0) (vT 2)) (fa_cons (fe_bin dop_div (vT 1) (vT 2)) fa_nil))))))), fun ds Q h => ?_⟩
  obtain ⟨x, y, rfl, h⟩ := as2.out h
  obtain ⟨p, rfl, h⟩ := asI.out h
  obtain ⟨r, rfl, r0, rs, q⟩ := asI.out h
  have hg0 : (0 : Int) < Int.gcd p r := by have := Int.gcd_pos_of_ne_zero_right p r0; omega
  have hgs : Sz 8900 (Int.gcd p r) := rs.le (by rw [Int.natAbs_natCast]; exact Nat.le_of_dvd (by omega) (Int.gcd_dvd_natAbs_right ..))
  refine (show (if decide (r < 0) = true then _ else _) from ?_)
  split
  · rename_i hb
    have hb : r < 0 := by simpa using hb
    refine (show DivOk _ _ ∧ DivOk _ _ ∧ _ ∧ (false = false ∨ True) ∧ Q (.tup [.int (p.fdiv (0 - (Int.gcd p r : Int))), .int (r.fdiv (0 - (Int.gcd p r : Int)))]) from ?_)
    rw [Int.zero_sub]
    refine ⟨hgs.neg.divOk (by decide) (by omega), hgs.neg.divOk (by decide) (by omega), (show 2 ≤ sizeLine by decide), .inl rfl, ?_⟩
    rw [fdiv_num' hb, fdiv_den' hb]; exact q
  · rename_i hb
    have hb : ¬ r < 0 := by simpa using hb
    refine (show DivOk _ _ ∧ DivOk _ _ ∧ _ ∧ (false = false ∨ True) ∧ Q (.tup [.int (p.fdiv (Int.gcd p r)), .int (r.fdiv (Int.gcd p r))]) from ⟨hgs.divOk (by decide) (by omega), hgs.divOk (by decide) (by omega), (show 2 ≤ sizeLine by decide), .inl rfl, ?_⟩)
    rw [fdiv_num (by omega), fdiv_den (by omega)]; exact q
abbrev s__law_fraction : Stmt := top 22
theorem sc__law_fraction : FnScope ["_law_bag"] ["_law_bag"] (defScope s__law_fraction) := ⟨rfl, rfl, rfl, by decide +kernel, rfl, by decide +kernel, by decide +kernel⟩
theorem ok__law_fraction  {T : Tbs} {k : Nat} {f : Addr} {fd : FuncData} (Fn : Fun K "_law_fraction" "_law_fraction" s__law_fraction f fd) {k__law_frac : Nat} {f__law_frac : Addr} {fd__law_frac : FuncData} (D__law_frac : FnG P w K mg base T "_law_frac" k__law_frac f__law_frac fd__law_frac ["_law_p", "_law_q"] false spFrac) (hk__law_frac : k__law_frac ≤ k) {k__law_pull : Nat} {f__law_pull : Addr} {fd__law_pull : FuncData} (D__law_pull : FnG P w K mg base T "_law_pull" k__law_pull f__law_pull fd__law_pull ["_law_bag", "_law_many"] false spPull) (hk__law_pull : k__law_pull ≤ k) {k__law_any : Nat} {f__law_any : Addr} {fd__law_any : FuncData} (D__law_any : FnG P w K mg base T "_law_any" k__law_any f__law_any fd__law_any ["_law_bag", "_law_things"] false spAny) (hk__law_any : k__law_any ≤ k) : FnOk P w K mg base (L2.CX P w) (k + 1) f fd ["_law_bag"] (lift T false spFraction) := by
  refine fn_ok Fn sc__law_fraction (fun ds Q EX h => as1.len h) (fun cdv A outer s G H E EX hr hu he hx hp => ?_)
  have hN := sc__law_fraction.nd
  have hr__law_frac := hr.mono hk__law_frac
  have hr__law_pull := hr.mono hk__law_pull
  have hr__law_any := hr.mono hk__law_any
  refine ⟨_, _, (fss_one (fs_ret (fe_callG D__law_frac he hr__law_frac hx (fb_cons (fe_bin dop_sub (FE.tt (fe_callG D__law_pull he hr__law_pull hx (fb_cons (vT 0) (fb_cons fe_int fb_nil)))) fe_int) (fb_cons (FE.tt (fe_bin (dop_addK (K := K) rfl) fe_int (FE.tt (fe_callG D__law_any he hr__law_any hx (fb_cons (vT 0) (fb_cons (FE.tt (fe_lst (fa_cons fe_int (fa_cons fe_int (fa_cons fe_int (fa_cons fe_int (fa_cons fe_int (fa_cons fe_int (fa_cons (fe_callG D__law_pull he hr__law_pull hx (fb_cons (vT 0) (fb_cons fe_int fb_nil))) fa_nil))))))))) fb_nil)))))) fb_nil))))), fun ds Q h => ?_⟩
  obtain ⟨x, rfl, hb, q⟩ := as1.out h
  clear h
  cases isBag.out hb
  have p41 : PullOk 41 := ⟨by decide, by decide +kernel⟩
  have p1000 : PullOk 1000 := ⟨by decide, by decide +kernel⟩
  refine (show True ∧ PullOk 41 ∧ _ from ⟨trivial, p41, fun a a0 a1 => ?_⟩)
  refine (show True ∧ PullOk 1000 ∧ _ from ⟨trivial, p1000, fun b b0 b1 => ?_⟩)
  refine (show 7 ≤ sizeLine ∧ True ∧ _ ≠ [] ∧ 7 ≤ 1000000 ∧ _ from ⟨by decide, trivial, fun z => (by cases z), by decide, fun d hd => ?_⟩)
  obtain ⟨c, rfl, c0, c1⟩ : ∃ c : Int, d = .int c ∧ 0 ≤ c ∧ c < 1000 := by
    simp only [List.mem_cons, List.not_mem_nil, or_false] at hd
    rcases hd with rfl | rfl | rfl | rfl | rfl | rfl | rfl
    · exact ⟨0, rfl, by decide, by decide⟩
    · exact ⟨1, rfl, by decide, by decide⟩
    · exact ⟨2, rfl, by decide, by decide⟩
    · exact ⟨4, rfl, by decide, by decide⟩
    · exact ⟨6, rfl, by decide, by decide⟩
    · exact ⟨11, rfl, by decide, by decide⟩
    · exact ⟨b, rfl, b0, b1⟩
  have s1 : Sz 10 (1 + c) := .of_lt (by omega) (by omega)
  have s2 : Sz 10 (a - 20) := .of_lt (by omega) (by omega)
  exact (show (1 + c) ≠ 0 ∧ Sz 8900 (1 + c) ∧ (false = false ∨ True) ∧ Q (qd (Rat.divInt (a - 20) (1 + c))) from ⟨by omega, s1.mono (by decide), .inl rfl, q _ (qs_divInt (by omega) s2 s1)⟩)
abbrev s__law_total : Stmt := top 18
theorem sc__law_total : FnScope ["_law_row_z", "_law_amounts_z", "_law_top", "_law_low", "_law_k"] ["_law_row_z", "_law_amounts_z"] (defScope s__law_total) := ⟨rfl, rfl, rfl, by decide +kernel, rfl, by decide +kernel, by decide +kernel⟩
theorem ok__law_total  {T : Tbs} {k : Nat} {f : Addr} {fd : FuncData} (Fn : Fun K "_law_total" "_law_total" s__law_total f fd) (n_range : mg "range" = none) (n_len : mg "len" = none) {k__law_frac : Nat} {f__law_frac : Addr} {fd__law_frac : FuncData} (D__law_frac : FnG P w K mg base T "_law_frac" k__law_frac f__law_frac fd__law_frac ["_law_p", "_law_q"] false spFrac) (hk__law_frac : k__law_frac ≤ k) : FnOk P w K mg base (L2.CX P w) (k + 1) f fd ["_law_row_z", "_law_amounts_z"] (lift T false spTotal) := by
  refine fn_ok Fn sc__law_total (fun ds Q EX h => as2.len h) (fun cdv A outer s G H E EX hr hu he hx hp => ?_)
  have hN := sc__law_total.nd
  have hr__law_frac := hr.mono hk__law_frac
  refine ⟨_, _, (fss_cons (fs_asg (fe_tup (fa_cons fe_int (fa_cons fe_int fa_nil))) (fg_tupK (K := K) rfl rfl (fgs_cons (fg_name 2 hN) (fgs_cons (fg_name 3 hN) fgs_nil))))
    (fss_cons (fs_for hp rfl (fi_range1 n_range (fb_cons (fe_callB (dc_lenK (K := K) rfl) n_len (fb_cons (vT 0) fb_nil)) fb_nil)) (fg_name 4 hN) (fss_cons (fs_par 2 3 rfl hN (fa_cons (FE.fg (fe_bin (dop_addK (K := K) rfl) (FE.tt (fe_bin (dop_mulK (K := K) rfl) (vT 2) (FE.tt (fe_ixK (K := K) rfl (FE.tt (fe_ixK (K := K) rfl (vT 1) (vT 4))) fe_int)))) (FE.tt (fe_bin (dop_mulK (K := K) rfl) (FE.tt (fe_bin (dop_mulK (K := K) rfl) (FE.tt (fe_ixK (K := K) rfl (vT 0) (vT 4))) (FE.tt (fe_ixK (K := K) rfl (FE.tt (fe_ixK (K := K) rfl (vT 1) (vT 4))) fe_int)))) (vT 3))))) (fa_cons (FE.fg (fe_bin (dop_mulK (K := K) rfl) (vT 3) (FE.tt (fe_ixK (K := K) rfl (FE.tt (fe_ixK (K := K) rfl (vT 1) (vT 4))) fe_int)))) fa_nil)))
    (fss_one (fs_asg (fe_callG D__law_frac he hr__law_frac hx (fb_cons (vT 2) (fb_cons (vT 3) fb_nil))) (fg_tupK (K := K) rfl rfl (fgs_cons (fg_name 2 hN) (fgs_cons (fg_name 3 hN) fgs_nil)))))))
    (fss_one (fs_ret (fe_tup (fa_cons (vG 2) (fa_cons (vG 3) fa_nil))))))), fun ds Q h => ?_⟩
  obtain ⟨x, y, rfl, ms, us, k, hx, hy, hl, h1, h2, h3, q⟩ := as2.out h
  clear h
  rcases items_out hx with rfl | rfl <;> rcases items_out hy with rfl | rfl
  all_goals
    refine (show 2 ≤ sizeLine ∧ [D.int 0, D.int 1].length = 2 ∧ ([] : List D) = [] ∧ RngOk 0 _ ∧ dFor _ _ _ ((List.range (((ms.map D.int).length : Nat) : Int).toNat).map fun i => D.int (0 + (i : Nat))) _ from ⟨by decide, rfl, rfl, ?_, ?_⟩)
    · rw [List.length_map]
      have : 1 * (ms.length + 1) ≤ (2 * k + 2) * (ms.length + 1) := Nat.mul_le_mul_right _ (by omega)
      exact ⟨by decide, by decide, by omega, by omega⟩
    · refine dFor_idx (fun i δ' => ∃ (t : Rat) (b : Option SV), δ' = [_, _, some (.sh (.int t.num)), some (.sh (.int t.den)), b] ∧ t + dotR (ms.drop i) (us.drop i) = dotR ms us ∧ Qs ((2 * k + 2) * i + 1) t) (fun i d δ N hd hP hN => ?_) (fun δ hP => ?_) ⟨0, none, rfl, ?_, ⟨?_, ?_⟩⟩
      · obtain ⟨t, b, rfl, ht, hs⟩ := hP
        obtain ⟨hi, rfl⟩ := rng0_get hd
        have hi : i < ms.length := by rw [List.length_map] at hi; omega
        obtain ⟨m, hm⟩ : ∃ m, ms[i]? = some m := ⟨_, List.getElem?_eq_getElem hi⟩
        obtain ⟨u, hu1⟩ : ∃ u, us[i]? = some u := ⟨_, List.getElem?_eq_getElem (by omega)⟩
        have mi := h1 m (List.mem_of_getElem? hm)
        have ui := h2 u (List.mem_of_getElem? hu1)
        have hsz : (2 * k + 2) * (i + 1) ≤ (2 * k + 2) * (ms.length + 1) := Nat.mul_le_mul_left _ (by omega)
        have hk : 2 * k + 2 ≤ (2 * k + 2) * (ms.length + 1) := Nat.le_mul_of_pos_right _ (Nat.succ_pos _)
        have e1 : (2 * k + 2) * (i + 1) = (2 * k + 2) * i + (2 * k + 2) := Nat.mul_succ _ _
        have d1 := den_posI t
        have d2 := den_posI u
        have hn0 := Int.mul_ne_zero' d1 d2
        have sA : Sz ((2 * k + 2) * i + 1 + 2 * k + 1) (t.num * u.den + m * u.num * t.den) := (((hs.1.mul ui.2).mono (by omega)).add (((mi.mul ui.1).mul hs.2).mono (by omega)))
        have sB : Sz ((2 * k + 2) * i + 1 + 2 * k + 1) ((t.den : Int) * u.den) := (hs.2.mul ui.2).mono (by omega)
        refine asO.mk (atI_map qd hu1) (show IntMulOk t.num u.den ∧ _ from ⟨hs.1.mulOk ui.2 (by omega), ?_⟩)
        refine asO.mk (atI_map D.int hm) (asO.mk (atI_map qd hu1) (show IntMulOk m u.num ∧ IntMulOk (m * u.num) t.den ∧ _ from ⟨mi.mulOk ui.1 (by omega), (mi.mul ui.1).mulOk hs.2 (by omega), ?_⟩))
        refine asO.mk (atI_map qd hu1) (show IntMulOk t.den u.den ∧ (t.den : Int) * u.den ≠ 0 ∧ Sz 8900 ((t.den : Int) * u.den) ∧ [D.int _, D.int _].length = 2 ∧ [] = [] ∧ _ from ⟨hs.2.mulOk ui.2 (by omega), hn0, sB.mono (by omega), rfl, rfl, ?_⟩)
        refine hN _ ⟨t + m * u, _, by rw [← divInt_more]; rfl, ?_, ?_⟩
        · rw [← ht, dotR_step hm hu1, Rat.add_assoc]
        · rw [← divInt_more]
          exact qs_divInt hn0 (sA.mono (by omega)) (sB.mono (by omega))
      · obtain ⟨t, b, rfl, ht, hs⟩ := hP
        refine (show 2 ≤ sizeLine ∧ (false = false ∨ NoL _) ∧ Q (qd t) from ⟨by decide, .inl rfl, ?_⟩)
        rw [dotR_end (.inl (by rw [List.length_map, List.length_range, List.length_map]; omega)), Rat.add_zero] at ht
        rw [ht]; exact q
      · rw [Rat.zero_add]; rfl
      · show (0 : Int).natAbs < 2 ^ _; exact Nat.lt_of_lt_of_le (by decide) (Nat.one_le_two_pow)
      · show (1 : Int).natAbs < 2 ^ _; rw [Nat.pow_succ]; have := Nat.one_le_two_pow (n := (2 * k + 2) * 0); omega
abbrev s__law_like : Stmt := top 15
theorem sc__law_like : FnScope ["_law_found", "_law_due", "_law_k"] ["_law_found", "_law_due"] (defScope s__law_like) := ⟨rfl, rfl, rfl, by decide +kernel, rfl, by decide +kernel, by decide +kernel⟩
theorem ok__law_like {n : Nat} {T : Tbs} {k : Nat} {f : Addr} {fd : FuncData} (Fn : Fun K "_law_like" "_law_like" s__law_like f fd) (n_isinstance : mg "isinstance" = none) (n_list : mg "list" = none) (n_tuple : mg "tuple" = none) (n_all : mg "all" = none) (n_range : mg "range" = none) (n_len : mg "len" = none) (n_int : mg "int" = none) (n_bool : mg "bool" = none) (n_str : mg "str" = none) {k__law_like : Nat} {f__law_like : Addr} {fd__law_like : FuncData} (D__law_like : FnG P w K mg base T "_law_like" k__law_like f__law_like fd__law_like ["_law_found", "_law_due"] false (spL n)) (hk__law_like : k__law_like ≤ k) : FnOk P w K mg base (L2.CX P w) (k + 1) f fd ["_law_found", "_law_due"] (lift T false (spL (n + 1))) := by
  refine fn_ok Fn sc__law_like (fun ds Q EX h => as2.len h) (fun cdv A outer s G H E EX hr hu he hx hp => ?_)
  have hN := sc__law_like.nd
  have hr__law_like := hr.mono hk__law_like
  refine ⟨_, _, (fss_cons (fs_if (FW.ft (fw_or (ft_cmp dop_is (vT 0) fe_non) (fw_or1 (ft_cmp dop_is (vT 1) fe_non)))) (fss_one (fs_ret (fe_and (m' := .t) (fe_cmp dop_is (vT 0) fe_non) (fe_one (fe_cmp dop_is (vT 1) fe_non))))) fss_nil)
    (fss_cons (fs_if (ft_val (m := .t) (fe_callB (dc_isiK (K := K) rfl) n_isinstance (fb_cons (vT 1) (fb_cons (fe_tup (fa_cons (fe_ty (T := "list") n_list) (fa_cons (fe_ty (T := "tuple") n_tuple) fa_nil))) fb_nil)))) (fss_cons (fs_if (FW.ft (fw_or (ft_cmp (dop_neK (K := K) rfl hu) (fe_callB (dc_isiK (K := K) rfl) n_isinstance (fb_cons (vT 0) (fb_cons (fe_ty (T := "list") n_list) fb_nil))) (fe_callB (dc_isiK (K := K) rfl) n_isinstance (fb_cons (vT 1) (fb_cons (fe_ty (T := "list") n_list) fb_nil)))) (fw_or1 (ft_cmp (dop_neK (K := K) rfl hu) (fe_callB (dc_isiK (K := K) rfl) n_isinstance (fb_cons (vT 0) (fb_cons (fe_ty (T := "tuple") n_tuple) fb_nil))) (fe_callB (dc_isiK (K := K) rfl) n_isinstance (fb_cons (vT 1) (fb_cons (fe_ty (T := "tuple") n_tuple) fb_nil))))))) (fss_one (fs_ret fe_bl)) fss_nil)
    (fss_one (fs_ret (fe_and (m' := .t) (fe_cmp (dop_eqK (K := K) rfl hu) (fe_callB (dc_lenK (K := K) rfl) n_len (fb_cons (vT 0) fb_nil)) (fe_callB (dc_lenK (K := K) rfl) n_len (fb_cons (vT 1) fb_nil))) (fe_one (fe_callB (dc_allK (K := K) rfl rfl) n_all (fb_cons (FE.tt (fe_lc [("_law_k", 2)] rfl hN (blkOk_at (N' := ["_law_found", "_law_due", "_law_k"]) (sc' := defScope s__law_like) rfl rfl (by decide +kernel)) (fi_range1 n_range (fb_cons (fe_callB (dc_lenK (K := K) rfl) n_len (fb_cons (vT 1) fb_nil)) fb_nil)) (fun _ _ _ _ _ => (fg_name 2 hN)) (fun _ _ _ _ _ => fts_nil) (fun _ _ _ _ _ => (fe_callG D__law_like Fx.no_exc hr__law_like passL (fb_cons (FE.tt (fe_ixK (K := K) rfl (vT 0) (vT 2))) (fb_cons (FE.tt (fe_ixK (K := K) rfl (vT 1) (vT 2))) fb_nil)))))) fb_nil))))))) fss_nil)
    (fss_cons (fs_if (FW.ft (fw_or (ft_cmp (dop_neK (K := K) rfl hu) (fe_callB (dc_isiK (K := K) rfl) n_isinstance (fb_cons (vT 0) (fb_cons (fe_ty (T := "bool") n_bool) fb_nil))) (fe_callB (dc_isiK (K := K) rfl) n_isinstance (fb_cons (vT 1) (fb_cons (fe_ty (T := "bool") n_bool) fb_nil)))) (fw_or1 (ft_cmp (dop_neK (K := K) rfl hu) (fe_callB (dc_isiK (K := K) rfl) n_isinstance (fb_cons (vT 0) (fb_cons (fe_ty (T := "int") n_int) fb_nil))) (fe_callB (dc_isiK (K := K) rfl) n_isinstance (fb_cons (vT 1) (fb_cons (fe_ty (T := "int") n_int) fb_nil))))))) (fss_one (fs_ret fe_bl)) fss_nil)
    (fss_one (fs_ret (fe_and (m' := .t) (fe_cmp (dop_eqK (K := K) rfl hu) (fe_callB (dc_isiK (K := K) rfl) n_isinstance (fb_cons (vT 0) (fb_cons (fe_ty (T := "str") n_str) fb_nil))) (fe_callB (dc_isiK (K := K) rfl) n_isinstance (fb_cons (vT 1) (fb_cons (fe_ty (T := "str") n_str) fb_nil)))) (fe_one (fe_cmp (dop_eqK (K := K) rfl hu) (vT 0) (vT 1))))))))), fun ds Q h => ?_⟩
  obtain ⟨x, y, rfl, px, py, q⟩ := as2.out h
  clear h
  have hz : 2 ≤ sizeLine := by decide
  cases x <;> cases y <;> first
    | exact (not_pd px rfl).elim
    | exact (not_pd py rfl).elim
    | exact And.intro (.inl rfl) q
    | exact And.intro hz (And.intro rfl (And.intro rfl (And.intro rfl (And.intro trivial (And.intro trivial (And.intro (.inl rfl) q))))))
    | exact And.intro hz (And.intro rfl (And.intro rfl (And.intro rfl (And.intro trivial (And.intro trivial (And.intro rfl (And.intro rfl (And.intro trivial (And.intro trivial (And.intro (.inl rfl) q))))))))))
    | exact And.intro hz (And.intro rfl (And.intro rfl (And.intro rfl (And.intro trivial (And.intro trivial (And.intro rfl (And.intro rfl (And.intro trivial (And.intro trivial (And.intro rfl (And.intro rfl (And.intro trivial (And.intro trivial (And.intro (.inl rfl) q))))))))))))))
    | exact And.intro hz (And.intro rfl (And.intro rfl (And.intro rfl (And.intro trivial (And.intro trivial (And.intro (.inl rfl) q))))))
    | exact And.intro hz (And.intro rfl (And.intro rfl (And.intro rfl (And.intro trivial (And.intro trivial (And.intro rfl (And.intro rfl (And.intro trivial (And.intro trivial (And.intro (.inl rfl) q))))))))))
    | exact And.intro hz (And.intro rfl (And.intro rfl (And.intro rfl (And.intro trivial (And.intro trivial (And.intro rfl (And.intro rfl (And.intro trivial (And.intro trivial (And.intro rfl (And.intro rfl (And.intro trivial (And.intro trivial (And.intro trivial (And.intro trivial (And.intro (.inl rfl) q))))))))))))))))
    | exact And.intro hz (And.intro rfl (And.intro rfl (And.intro rfl (And.intro trivial (And.intro trivial (And.intro rfl (And.intro rfl (And.intro trivial (And.intro trivial (And.intro rfl (And.intro rfl (And.intro trivial (And.intro trivial (And.intro (pd_str px) (And.intro (pd_str py) (And.intro (.inl rfl) q))))))))))))))))
    | skip
  all_goals
    rename_i xs ys
    have qq : Q (.bl (likes xs ys)) := by unfold like at q; exact q
    obtain ⟨m, rfl, lx, ex⟩ := pd_lst rfl px
    obtain ⟨m', e, ly, ey⟩ := pd_lst rfl py
    cases e
    refine And.intro hz (And.intro rfl (And.intro rfl (And.intro rfl (And.intro trivial (And.intro trivial (And.intro rfl (And.intro rfl (And.intro trivial (And.intro trivial (And.intro trivial (And.intro trivial (show (if deq (.int (xs.length : Nat)) (.int (ys.length : Nat)) = true then _ else _) from ?_))))))))))))
    rw [deq_int]
    split
    · rename_i hl
      have hl : xs.length = ys.length := by have := of_decide_eq_true hl; omega
      refine (show RngOk 0 _ ∧ _ ≤ sizeLine ∧ _ from ⟨rngOk0 (n := ys.length) (by omega), ?_, ?_⟩)
      · show ((List.range ((ys.length : Nat) : Int).toNat).map fun i => D.int (0 + (i : Nat))).length ≤ sizeLine
        rw [List.length_map, List.length_range]
        exact Nat.le_trans (show ys.length ≤ 100000 by omega) (by decide)
      · refine dLc_rel (fun d y => ∃ (i : Nat) (u v : D), d = .int (0 + (i : Nat)) ∧ xs[i]? = some u ∧ ys[i]? = some v ∧ y = .bl (like u v)) (fun d hd N hN => ?_) (fun zs hzs => ?_)
        · obtain ⟨i, hi, rfl⟩ := rng_mem hd
          obtain ⟨u, hu1⟩ : ∃ u, xs[i]? = some u := ⟨_, List.getElem?_eq_getElem (by omega)⟩
          obtain ⟨v, hv1⟩ : ∃ v, ys[i]? = some v := ⟨_, List.getElem?_eq_getElem (by omega)⟩
          refine asO.mk (x := u) (by rw [Int.zero_add]; exact DW.atI_ofNat hu1) (asO.mk (x := v) (by rw [Int.zero_add]; exact DW.atI_ofNat hv1) ?_)
          exact And.intro (ex u (List.mem_of_getElem? hu1)) (And.intro (ey v (List.mem_of_getElem? hv1)) (hN _ ⟨i, u, v, rfl, hu1, hv1, rfl⟩))
        · have e := like_list (by omega) hl hzs
          refine Exists.intro (List.zipWith like xs ys) ⟨by rw [e]; rfl, .inl rfl, ?_⟩
          rw [← likes_all hl]; exact qq
    · rename_i hl
      rw [like_ne (fun z => hl (decide_eq_true (by omega)))] at qq
      exact And.intro (.inl rfl) qq
abbrev s_common : Stmt := top 4
theorem sc_common : FnScope ["a", "b"] ["a", "b"] (defScope s_common) := ⟨rfl, rfl, rfl, by decide +kernel, rfl, by decide +kernel, by decide +kernel⟩
theorem ok_common  {T : Tbs} {k : Nat} {f : Addr} {fd : FuncData} (Fn : Fun K "common" "common" s_common f fd) (n_abs : mg "abs" = none) : FnOk P w K mg base (L2.CX P w) (k + 1) f fd ["a", "b"] (lift T false spGcd) := by
  refine fn_ok Fn sc_common (fun ds Q EX h => as2.len h) (fun cdv A outer s G H E EX hr hu he hx hp => ?_)
  have hN := sc_common.nd
  refine ⟨_, _, (fss_cons (fs_par 0 1 rfl hN (fa_cons (fe_callB dc_abs n_abs (fb_cons (vT 0) fb_nil)) (fa_cons (fe_callB dc_abs n_abs (fb_cons (vT 1) fb_nil)) fa_nil)))
    (fss_cons (fs_while hp (ft_cmp dop_gt (vT 1) fe_int) (fss_one (fs_par 0 1 rfl hN (fa_cons (vG 1) (fa_cons (fe_bin dop_mod (vT 0) (vT 1)) fa_nil)))))
    (fss_one (fs_ret (vG 0))))), fun ds Q h => ?_⟩
  obtain ⟨x, y, rfl, h⟩ := as2.out h
  obtain ⟨a, rfl, h⟩ := asI.out h
  obtain ⟨b, rfl, q⟩ := asI.out h
  refine (show sWhile _ _ _ _ from ⟨fun m δ => ∃ a' b' : Nat, δ = [some (.sh (.int a')), some (.sh (.int b'))] ∧ m = b' ∧ Nat.gcd a' b' = Int.gcd a b, ⟨b.natAbs, a.natAbs, b.natAbs, rfl, rfl, rfl⟩, ?_⟩)
  rintro m δ ⟨a', b', rfl, hm, hg⟩
  subst m
  refine (show (if decide ((0 : Int) < (b' : Int)) = true then _ else _) from ?_)
  split
  · rename_i hb
    have hb' : 0 < b' := by simpa using hb
    refine (show (b' : Int) ≠ 0 ∧ ∃ m', m' < b' ∧ _ from ⟨by omega, a' % b', Nat.mod_lt _ hb', b', a' % b', ?_, rfl, ?_⟩)
    · rw [show ((a' : Int)).fmod (b' : Int) = ((a' % b' : Nat) : Int) from by rw [Int.fmod_eq_emod_of_nonneg _ (by omega)]; rfl]
      rfl
    · rw [← hg, Nat.gcd_comm a' b', Nat.gcd_rec b' a', Nat.gcd_comm]
  · rename_i hb
    have hb' : b' = 0 := by simpa using hb
    subst hb'
    rw [Nat.gcd_zero_right] at hg
    refine (show (false = false ∨ True) ∧ Q (.int a') from ⟨.inl rfl, ?_⟩)
    rw [hg]; exact q
abbrev s_fraction : Stmt := top 5
theorem sc_fraction : FnScope ["p", "q", "part"] ["p", "q"] (defScope s_fraction) := ⟨rfl, rfl, rfl, by decide +kernel, rfl, by decide +kernel, by decide +kernel⟩
theorem ok_fraction  {T : Tbs} {k : Nat} {f : Addr} {fd : FuncData} (Fn : FunD K "fraction" "fraction" (defArgs s_fraction) (defBody s_fraction) (defScope s_fraction) [.int 1] [] f fd) {k_common : Nat} {f_common : Addr} {fd_common : FuncData} (D_common : FnG P w K mg base T "common" k_common f_common fd_common ["a", "b"] false spGcd) (hk_common : k_common ≤ k) : FnOk P w K mg base (L2.CX P w) (k + 1) f fd ["p", "q"] (lift T false spFrac) := by
  refine fn_okD Fn sc_fraction (fun ds Q EX h => as2.len h) (fun cdv A outer s G H E EX hr hu he hx hp => ?_)
  have hN := sc_fraction.nd
  have hr_common := hr.mono hk_common
  refine ⟨_, _, (fss_cons (fs_if (ft_cmp (dop_eqK (K := K) rfl hu) (vT 1) fe_int) (fss_one fs_never) fss_nil)
    (fss_cons (fs_set 2 hN (fe_if (ft_cmp dop_gt (vT 1) fe_int) (fe_callG D_common he hr_common hx (fb_cons (vT 0) (fb_cons (vT 1) fb_nil))) (fe_neg (FE.tt (fe_callG D_common he hr_common hx (fb_cons (vT 0) (fb_cons (vT 1) fb_nil)))))))
    (fss_one (fs_ret (fe_tup (fa_cons (fe_bin dop_div (vT 0) (vT 2)) (fa_cons (fe_bin dop_div (vT 1) (vT 2)) fa_nil))))))), fun ds Q h => ?_⟩
  obtain ⟨x, y, rfl, h⟩ := as2.out h
  obtain ⟨p, rfl, h⟩ := asI.out h
  obtain ⟨r, rfl, r0, rs, q⟩ := asI.out h
  have hg0 : (0 : Int) < Int.gcd p r := by have := Int.gcd_pos_of_ne_zero_right p r0; omega
  have hgs : Sz 8900 (Int.gcd p r) := rs.le (by rw [Int.natAbs_natCast]; exact Nat.le_of_dvd (by omega) (Int.gcd_dvd_natAbs_right ..))
  refine (show True ∧ True ∧ (if deq (.int r) (.int 0) = true then _ else _) from ⟨trivial, trivial, ?_⟩)
  rw [if_neg (by rw [deq_int]; simpa using r0)]
  refine (show (if decide ((0 : Int) < r) = true then _ else _) from ?_)
  split
  · rename_i hb
    have hb : 0 < r := by simpa using hb
    refine (show DivOk _ _ ∧ DivOk _ _ ∧ _ ∧ (false = false ∨ True) ∧ Q (.tup [.int (p.fdiv (Int.gcd p r)), .int (r.fdiv (Int.gcd p r))]) from ⟨hgs.divOk (by decide) (by omega), hgs.divOk (by decide) (by omega), (show 2 ≤ sizeLine by decide), .inl rfl, ?_⟩)
    rw [fdiv_num hb, fdiv_den hb]; exact q
  · rename_i hb
    have hb : ¬ 0 < r := by simpa using hb
    refine (show DivOk _ _ ∧ DivOk _ _ ∧ _ ∧ (false = false ∨ True) ∧ Q (.tup [.int (p.fdiv (-(Int.gcd p r : Int))), .int (r.fdiv (-(Int.gcd p r : Int)))]) from ⟨hgs.neg.divOk (by decide) (by omega), hgs.neg.divOk (by decide) (by omega), (show 2 ≤ sizeLine by decide), .inl rfl, ?_⟩)
    rw [fdiv_num' (by omega), fdiv_den' (by omega)]; exact q
abbrev s_added : Stmt := top 6
theorem sc_added : FnScope ["x", "y"] ["x", "y"] (defScope s_added) := ⟨rfl, rfl, rfl, by decide +kernel, rfl, by decide +kernel, by decide +kernel⟩
theorem ok_added  {T : Tbs} {k : Nat} {f : Addr} {fd : FuncData} (Fn : Fun K "added" "added" s_added f fd) {k_fraction : Nat} {f_fraction : Addr} {fd_fraction : FuncData} (D_fraction : FnG P w K mg base T "fraction" k_fraction f_fraction fd_fraction ["p", "q"] false spFrac) (hk_fraction : k_fraction ≤ k) : FnOk P w K mg base (L2.CX P w) (k + 1) f fd ["x", "y"] (lift T false spAdded) := by
  refine fn_ok Fn sc_added (fun ds Q EX h => as2.len h) (fun cdv A outer s G H E EX hr hu he hx hp => ?_)
  have hN := sc_added.nd
  have hr_fraction := hr.mono hk_fraction
  refine ⟨_, _, (fss_one (fs_ret (fe_callG D_fraction he hr_fraction hx (fb_cons (FE.tt (fe_bin (dop_addK (K := K) rfl) (FE.tt (fe_bin (dop_mulK (K := K) rfl) (FE.tt (fe_ixK (K := K) rfl (vT 0) fe_int)) (FE.tt (fe_ixK (K := K) rfl (vT 1) fe_int)))) (FE.tt (fe_bin (dop_mulK (K := K) rfl) (FE.tt (fe_ixK (K := K) rfl (vT 1) fe_int)) (FE.tt (fe_ixK (K := K) rfl (vT 0) fe_int)))))) (fb_cons (FE.tt (fe_bin (dop_mulK (K := K) rfl) (FE.tt (fe_ixK (K := K) rfl (vT 0) fe_int)) (FE.tt (fe_ixK (K := K) rfl (vT 1) fe_int)))) fb_nil))))), fun ds Q h => ?_⟩
  obtain ⟨x, y, rfl, u, v, n, m, rfl, rfl, hu', hv, hnm, q⟩ := as2.out h
  have d1 := den_posI u
  have d2 := den_posI v
  refine (show IntMulOk _ _ ∧ IntMulOk _ _ ∧ IntMulOk _ _ ∧ (u.den : Int) * v.den ≠ 0 ∧ Sz 8900 ((u.den : Int) * v.den) ∧ (false = false ∨ True) ∧ Q (qd (Rat.divInt (u.num * v.den + v.num * u.den) (u.den * v.den))) from
    ⟨hu'.1.mulOk hv.2 (by omega), hv.1.mulOk hu'.2 (by omega), hu'.2.mulOk hv.2 (by omega), Int.mul_ne_zero' d1 d2, (hu'.2.mul hv.2).mono (by omega), .inl rfl, ?_⟩)
  rw [divInt_add]; exact q
abbrev s_scaled : Stmt := top 7
theorem sc_scaled : FnScope ["many", "x"] ["many", "x"] (defScope s_scaled) := ⟨rfl, rfl, rfl, by decide +kernel, rfl, by decide +kernel, by decide +kernel⟩
theorem ok_scaled  {T : Tbs} {k : Nat} {f : Addr} {fd : FuncData} (Fn : Fun K "scaled" "scaled" s_scaled f fd) {k_fraction : Nat} {f_fraction : Addr} {fd_fraction : FuncData} (D_fraction : FnG P w K mg base T "fraction" k_fraction f_fraction fd_fraction ["p", "q"] false spFrac) (hk_fraction : k_fraction ≤ k) : FnOk P w K mg base (L2.CX P w) (k + 1) f fd ["many", "x"] (lift T false spScaled) := by
  refine fn_ok Fn sc_scaled (fun ds Q EX h => as2.len h) (fun cdv A outer s G H E EX hr hu he hx hp => ?_)
  have hN := sc_scaled.nd
  have hr_fraction := hr.mono hk_fraction
  refine ⟨_, _, (fss_one (fs_ret (fe_callG D_fraction he hr_fraction hx (fb_cons (FE.tt (fe_bin (dop_mulK (K := K) rfl) (vT 0) (FE.tt (fe_ixK (K := K) rfl (vT 1) fe_int)))) (fb_cons (FE.tt (fe_ixK (K := K) rfl (vT 1) fe_int)) fb_nil))))), fun ds Q h => ?_⟩
  obtain ⟨x, y, rfl, i, v, n, m, rfl, rfl, hi, hv, hnm, q⟩ := as2.out h
  have d2 := den_posI v
  refine (show IntMulOk _ _ ∧ (v.den : Int) ≠ 0 ∧ Sz 8900 (v.den : Int) ∧ (false = false ∨ True) ∧ Q (qd (Rat.divInt (i * v.num) v.den)) from ⟨hi.mulOk hv.1 (by omega), by omega, hv.2.mono (by omega), .inl rfl, ?_⟩)
  rw [divInt_scale]; exact q
abbrev s_dot : Stmt := top 9
theorem sc_dot : FnScope ["row", "amounts", "total", "many", "amount"] ["row", "amounts"] (defScope s_dot) := ⟨rfl, rfl, rfl, by decide +kernel, rfl, by decide +kernel, by decide +kernel⟩
theorem ok_dot  {T : Tbs} {k : Nat} {f : Addr} {fd : FuncData} (Fn : Fun K "dot" "dot" s_dot f fd) (n_zip : mg "zip" = none) {k_added : Nat} {f_added : Addr} {fd_added : FuncData} (D_added : FnG P w K mg base T "added" k_added f_added fd_added ["x", "y"] false spAdded) (hk_added : k_added ≤ k) {k_scaled : Nat} {f_scaled : Addr} {fd_scaled : FuncData} (D_scaled : FnG P w K mg base T "scaled" k_scaled f_scaled fd_scaled ["many", "x"] false spScaled) (hk_scaled : k_scaled ≤ k) : FnOk P w K mg base (L2.CX P w) (k + 1) f fd ["row", "amounts"] (lift T false spDot) := by
  refine fn_ok Fn sc_dot (fun ds Q EX h => as2.len h) (fun cdv A outer s G H E EX hr hu he hx hp => ?_)
  have hN := sc_dot.nd
  have hr_added := hr.mono hk_added
  have hr_scaled := hr.mono hk_scaled
  refine ⟨_, _, (fss_cons (fs_set 2 hN (fe_tup (fa_cons fe_int (fa_cons fe_int fa_nil))))
    (fss_cons (fs_for hp rfl (fi_zipK (K := K) rfl n_zip (vS 0) (vS 1)) (fg_tupK (K := K) rfl rfl (fgs_cons (fg_name 3 hN) (fgs_cons (fg_name 4 hN) fgs_nil))) (fss_one (fs_set 2 hN (fe_callG D_added he hr_added hx (fb_cons (vT 2) (fb_cons (FE.tt (fe_callG D_scaled he hr_scaled hx (fb_cons (vT 3) (fb_cons (vT 4) fb_nil)))) fb_nil))))))
    (fss_one (fs_ret (vG 2))))), fun ds Q h => ?_⟩
  obtain ⟨x, y, rfl, ms, us, k, hx, hy, h1, h2, h3, q⟩ := as2.out h
  clear h
  have key : ∀ (s0 s1 : Option SV), dFor (dGTup 2 (dGCons (dName 3) (dGCons (dName 4) dGNil))) (sAsg (dCallF spAdded EX [] (dACons (dVarT 2) (dACons (dCallF spScaled EX [] (dACons (dVarT 3) (dACons (dVarT 4) dANil))) dANil))) (dName 2))
      { nx := sRet false (dVar 2) (dEnds Q), rt := Q, bk := fun _ => False, ct := fun _ => False } (List.zipWith (fun x y => D.tup [x, y]) (ms.map D.int) (us.map qd)) [s0, s1, some (.sh (qd 0)), none, none] := fun s0 s1 => by
    refine dFor_idx (fun i δ' => ∃ t a b, δ' = [s0, s1, some (.sh (qd t)), a, b] ∧ t + dotR (ms.drop i) (us.drop i) = dotR ms us ∧ Qs ((2 * k + 2) * i + 1) t) (fun i d δ N hd hP hN => ?_) (fun δ hP => ?_) ⟨0, none, none, rfl, ?_, ⟨?_, ?_⟩⟩
    · obtain ⟨t, a, b, rfl, ht, hs⟩ := hP
      obtain ⟨m, hm, u, hu1, rfl⟩ : ∃ m, ms[i]? = some m ∧ ∃ u, us[i]? = some u ∧ d = .tup [.int m, qd u] := by
        rw [List.getElem?_zipWith, List.getElem?_map, List.getElem?_map] at hd
        cases e1 : ms[i]? with
        | none => rw [e1] at hd; cases hd
        | some m =>
          cases e2 : us[i]? with
          | none => rw [e1, e2] at hd; cases hd
          | some u => rw [e1, e2] at hd; cases hd; exact ⟨m, rfl, u, rfl, rfl⟩
      have mi := h1 m (List.mem_of_getElem? hm)
      have ui := h2 u (List.mem_of_getElem? hu1)
      have hi : i < ms.length := (List.getElem?_eq_some_iff.mp hm).1
      have hsz : (2 * k + 2) * (i + 1) ≤ (2 * k + 2) * (ms.length + 1) := Nat.mul_le_mul_left _ (by omega)
      have hk : 2 * k + 2 ≤ (2 * k + 2) * (ms.length + 1) := Nat.le_mul_of_pos_right _ (Nat.succ_pos _)
      have e1 : (2 * k + 2) * (i + 1) = (2 * k + 2) * i + (2 * k + 2) := Nat.mul_succ _ _
      have sc : Qs (2 * k) ((m : Rat) * u) := by
        rw [← divInt_scale]
        exact qs_divInt (by have := den_posI u; omega) ((mi.mul ui.1).mono (by omega)) (ui.2.mono (by omega))
      refine (show [D.int m, qd u].length = 2 ∧ _ from ⟨rfl, rfl, m, u, k, k, rfl, rfl, mi, ui, by omega, ?_⟩)
      refine ⟨t, (m : Rat) * u, (2 * k + 2) * i + 1, 2 * k, rfl, rfl, hs, sc, by omega, ?_⟩
      refine hN _ ⟨t + m * u, _, _, rfl, ?_, ?_⟩
      · rw [← ht, dotR_step hm hu1, Rat.add_assoc]
      · rw [← divInt_add]
        have d1 := den_posI t
        have d2 := den_posI ((m : Rat) * u)
        refine qs_divInt (Int.mul_ne_zero' d1 d2) ?_ ?_
        · exact (((hs.1.mul sc.2).mono (Nat.le_refl _)).add ((sc.1.mul hs.2).mono (by omega))).mono (by omega)
        · exact (hs.2.mul sc.2).mono (by omega)
    · obtain ⟨t, a, b, rfl, ht, hs⟩ := hP
      refine (show (false = false ∨ NoL _) ∧ Q (qd t) from ⟨.inl rfl, ?_⟩)
      rw [dotR_end (by rw [List.length_zipWith, List.length_map, List.length_map]; omega), Rat.add_zero] at ht
      rw [ht]; exact q
    · rw [Rat.zero_add]; rfl
    · show (0 : Int).natAbs < 2 ^ _; exact Nat.lt_of_lt_of_le (by decide) (Nat.one_le_two_pow)
    · show (1 : Int).natAbs < 2 ^ _; rw [Nat.pow_succ]; have := Nat.one_le_two_pow (n := (2 * k + 2) * 0); omega
  rcases items_out hx with rfl | rfl <;> rcases items_out hy with rfl | rfl
  all_goals exact (show 2 ≤ sizeLine ∧ _ from ⟨by decide, key _ _⟩)
abbrev s__law_whole : Stmt := top 19
theorem sc__law_whole : FnScope ["_law_x"] ["_law_x"] (defScope s__law_whole) := ⟨rfl, rfl, rfl, by decide +kernel, rfl, by decide +kernel, by decide +kernel⟩
theorem ok__law_whole  {T : Tbs} {k : Nat} {f : Addr} {fd : FuncData} (Fn : Fun K "_law_whole" "_law_whole" s__law_whole f fd) (n_int : mg "int" = none) : FnOk P w K mg base (L2.CX P w) (k + 1) f fd ["_law_x"] (lift T false spWound) := by
  refine fn_ok Fn sc__law_whole (fun ds Q EX h => as1.len h) (fun cdv A outer s G H E EX hr hu he hx hp => ?_)
  have hN := sc__law_whole.nd
  refine ⟨_, _, (fss_one (fs_ret (fe_tup (fa_cons (fe_bin dop_mod (fe_callTy dc_int n_int (fb_cons (FE.tt (fe_ixK (K := K) rfl (vT 0) fe_int)) fb_nil)) (FE.tt (fe_ixK (K := K) rfl (vT 0) fe_int))) (fa_cons (fe_ixK (K := K) rfl (vT 0) fe_int) fa_nil))))), fun ds Q h => ?_⟩
  obtain ⟨x, rfl, u, rfl, q⟩ := as1.out h
  have d1 := den_posI u
  rw [qd_wd] at q
  exact (show (u.den : Int) ≠ 0 ∧ _ ∧ (false = false ∨ True) ∧ Q _ from ⟨by omega, (show 2 ≤ sizeLine by decide), .inl rfl, q⟩)
abbrev s__law_sum : Stmt := top 20
theorem sc__law_sum : FnScope ["_law_row_z", "_law_pose_z"] ["_law_row_z", "_law_pose_z"] (defScope s__law_sum) := ⟨rfl, rfl, rfl, by decide +kernel, rfl, by decide +kernel, by decide +kernel⟩
theorem ok__law_sum  {T : Tbs} {k : Nat} {f : Addr} {fd : FuncData} (Fn : Fun K "_law_sum" "_law_sum" s__law_sum f fd) {k__law_whole : Nat} {f__law_whole : Addr} {fd__law_whole : FuncData} (D__law_whole : FnG P w K mg base T "_law_whole" k__law_whole f__law_whole fd__law_whole ["_law_x"] false spWound) (hk__law_whole : k__law_whole ≤ k) {k__law_total : Nat} {f__law_total : Addr} {fd__law_total : FuncData} (D__law_total : FnG P w K mg base T "_law_total" k__law_total f__law_total fd__law_total ["_law_row_z", "_law_amounts_z"] false spTotal) (hk__law_total : k__law_total ≤ k) : FnOk P w K mg base (L2.CX P w) (k + 1) f fd ["_law_row_z", "_law_pose_z"] (lift T false spSum) := by
  refine fn_ok Fn sc__law_sum (fun ds Q EX h => as2.len h) (fun cdv A outer s G H E EX hr hu he hx hp => ?_)
  have hN := sc__law_sum.nd
  have hr__law_whole := hr.mono hk__law_whole
  have hr__law_total := hr.mono hk__law_total
  refine ⟨_, _, (fss_one (fs_ret (fe_callG D__law_whole he hr__law_whole hx (fb_cons (FE.tt (fe_callG D__law_total he hr__law_total hx (fb_cons (vT 0) (fb_cons (vT 1) fb_nil)))) fb_nil)))), fun ds Q h => ?_⟩
  obtain ⟨x, y, rfl, ms, us, k, hx, hy, hl, h1, h2, h3, q⟩ := as2.out h
  clear h
  rcases items_out hx with rfl | rfl <;> rcases items_out hy with rfl | rfl
  all_goals exact Exists.intro ms ⟨us, k, hx, hy, hl, h1, h2, h3, Exists.intro (dotR ms us) ⟨rfl, .inl rfl, q⟩⟩
abbrev s_wound : Stmt := top 8
theorem sc_wound : FnScope ["x"] ["x"] (defScope s_wound) := ⟨rfl, rfl, rfl, by decide +kernel, rfl, by decide +kernel, by decide +kernel⟩
theorem ok_wound  {T : Tbs} {k : Nat} {f : Addr} {fd : FuncData} (Fn : Fun K "wound" "wound" s_wound f fd)  : FnOk P w K mg base (L2.CX P w) (k + 1) f fd ["x"] (lift T false spWound) := by
  refine fn_ok Fn sc_wound (fun ds Q EX h => as1.len h) (fun cdv A outer s G H E EX hr hu he hx hp => ?_)
  have hN := sc_wound.nd
  refine ⟨_, _, (fss_one (fs_ret (fe_tup (fa_cons (fe_bin dop_mod (FE.tt (fe_ixK (K := K) rfl (vT 0) fe_int)) (FE.tt (fe_ixK (K := K) rfl (vT 0) fe_int))) (fa_cons (fe_ixK (K := K) rfl (vT 0) fe_int) fa_nil))))), fun ds Q h => ?_⟩
  obtain ⟨x, rfl, u, rfl, q⟩ := as1.out h
  have d1 := den_posI u
  rw [qd_wd] at q
  exact (show (u.den : Int) ≠ 0 ∧ _ ∧ (false = false ∨ True) ∧ Q _ from ⟨by omega, (show 2 ≤ sizeLine by decide), .inl rfl, q⟩)
abbrev s_sum_at : Stmt := top 10
theorem sc_sum_at : FnScope ["row", "pose"] ["row", "pose"] (defScope s_sum_at) := ⟨rfl, rfl, rfl, by decide +kernel, rfl, by decide +kernel, by decide +kernel⟩
theorem ok_sum_at  {T : Tbs} {k : Nat} {f : Addr} {fd : FuncData} (Fn : Fun K "sum_at" "sum_at" s_sum_at f fd) {k_wound : Nat} {f_wound : Addr} {fd_wound : FuncData} (D_wound : FnG P w K mg base T "wound" k_wound f_wound fd_wound ["x"] false spWound) (hk_wound : k_wound ≤ k) {k_dot : Nat} {f_dot : Addr} {fd_dot : FuncData} (D_dot : FnG P w K mg base T "dot" k_dot f_dot fd_dot ["row", "amounts"] false spDot) (hk_dot : k_dot ≤ k) : FnOk P w K mg base (L2.CX P w) (k + 1) f fd ["row", "pose"] (lift T false spSum) := by
  refine fn_ok Fn sc_sum_at (fun ds Q EX h => as2.len h) (fun cdv A outer s G H E EX hr hu he hx hp => ?_)
  have hN := sc_sum_at.nd
  have hr_wound := hr.mono hk_wound
  have hr_dot := hr.mono hk_dot
  refine ⟨_, _, (fss_one (fs_ret (fe_callG D_wound he hr_wound hx (fb_cons (FE.tt (fe_callG D_dot he hr_dot hx (fb_cons (vT 0) (fb_cons (vT 1) fb_nil)))) fb_nil)))), fun ds Q h => ?_⟩
  obtain ⟨x, y, rfl, ms, us, k, hx, hy, hl, h1, h2, h3, q⟩ := as2.out h
  clear h
  rcases items_out hx with rfl | rfl <;> rcases items_out hy with rfl | rfl
  all_goals exact Exists.intro ms ⟨us, k, hx, hy, h1, h2, h3, Exists.intro (dotR ms us) ⟨rfl, .inl rfl, q⟩⟩
abbrev s__law_moved : Stmt := top 21
theorem sc__law_moved : FnScope ["_law_pose_z", "_law_amounts_z", "_law_k"] ["_law_pose_z", "_law_amounts_z"] (defScope s__law_moved) := ⟨rfl, rfl, rfl, by decide +kernel, rfl, by decide +kernel, by decide +kernel⟩
theorem ok__law_moved  {T : Tbs} {k : Nat} {f : Addr} {fd : FuncData} (Fn : Fun K "_law_moved" "_law_moved" s__law_moved f fd) (n_tuple : mg "tuple" = none) (n_range : mg "range" = none) (n_len : mg "len" = none) {k__law_whole : Nat} {f__law_whole : Addr} {fd__law_whole : FuncData} (D__law_whole : FnG P w K mg base T "_law_whole" k__law_whole f__law_whole fd__law_whole ["_law_x"] false spWound) (hk__law_whole : k__law_whole ≤ k) {k__law_total : Nat} {f__law_total : Addr} {fd__law_total : FuncData} (D__law_total : FnG P w K mg base T "_law_total" k__law_total f__law_total fd__law_total ["_law_row_z", "_law_amounts_z"] false spTotal) (hk__law_total : k__law_total ≤ k) : FnOk P w K mg base (L2.CX P w) (k + 1) f fd ["_law_pose_z", "_law_amounts_z"] (lift T false spMoved) := by
  refine fn_ok Fn sc__law_moved (fun ds Q EX h => as2.len h) (fun cdv A outer s G H E EX hr hu he hx hp => ?_)
  have hN := sc__law_moved.nd
  have hr__law_whole := hr.mono hk__law_whole
  have hr__law_total := hr.mono hk__law_total
  refine ⟨_, _, (fss_one (fs_ret (fe_callTy (dc_tupleK (K := K) rfl) n_tuple (fb_cons (FE.tt (fe_lc [("_law_k", 2)] rfl hN (blkOk_at (N' := ["_law_pose_z", "_law_amounts_z", "_law_k"]) (sc' := defScope s__law_moved) rfl rfl (by decide +kernel)) (fi_range1 n_range (fb_cons (fe_callB (dc_lenK (K := K) rfl) n_len (fb_cons (vT 0) fb_nil)) fb_nil)) (fun _ _ _ _ _ => (fg_name 2 hN)) (fun _ _ _ _ _ => fts_nil) (fun _ _ _ _ _ => (fe_callG D__law_whole Fx.no_exc hr__law_whole passL (fb_cons (FE.tt (fe_callG D__law_total Fx.no_exc hr__law_total passL (fb_cons (fe_tup (fa_cons fe_int (fa_cons fe_int fa_nil))) (fb_cons (fe_tup (fa_cons (fe_ixK (K := K) rfl (vT 0) (vT 2)) (fa_cons (fe_ixK (K := K) rfl (vT 1) (vT 2)) fa_nil))) fb_nil)))) fb_nil))))) fb_nil)))), fun ds Q h => ?_⟩
  obtain ⟨x, y, rfl, us, vs, k, hx, hy, hl, h1, h2, h3, h4, q⟩ := as2.out h
  clear h
  rcases items_out hx with rfl | rfl <;> rcases items_out hy with rfl | rfl
  all_goals
    refine (show RngOk 0 (((us.map qd).length : Nat) : Int) ∧ _ ≤ sizeLine ∧ _ from ⟨rngOk0 (by rw [List.length_map]; omega), ?_, ?_⟩)
    · show ((List.range (((us.map qd).length : Nat) : Int).toNat).map fun i => D.int (0 + (i : Nat))).length ≤ sizeLine
      rw [List.length_map, List.length_range, List.length_map]
      exact Nat.le_trans (show us.length ≤ 100000 from h3) (by decide)
    · refine dLc_rel (fun d y => ∃ i u v, d = .int (0 + (i : Nat)) ∧ us[i]? = some u ∧ vs[i]? = some v ∧ y = qd (wd (u + v))) (fun d hd N hN => ?_) (fun ys hys => ?_)
      · obtain ⟨i, hi, rfl⟩ := rng_mem hd
        have hi : i < us.length := by rw [List.length_map] at hi; omega
        obtain ⟨u, hu1⟩ : ∃ u, us[i]? = some u := ⟨_, List.getElem?_eq_getElem hi⟩
        obtain ⟨v, hv1⟩ : ∃ v, vs[i]? = some v := ⟨_, List.getElem?_eq_getElem (by omega)⟩
        have ui := h1 u (List.mem_of_getElem? hu1)
        have vi := h2 v (List.mem_of_getElem? hv1)
        refine (show 2 ≤ sizeLine ∧ _ from ⟨by decide, ?_⟩)
        refine asO.mk (x := qd u) (by rw [Int.zero_add]; exact atI_map qd hu1) (asO.mk (x := qd v) (by rw [Int.zero_add]; exact atI_map qd hv1) (show 2 ≤ sizeLine ∧ _ from ⟨by decide, ?_⟩))
        refine Exists.intro [1, 1] ⟨[u, v], k + 1, rfl, rfl, rfl, fun m hm => ?_, fun w hw => ?_, ?_, ?_⟩
        · simp only [List.mem_cons, List.not_mem_nil, or_false] at hm
          rcases hm with rfl | rfl <;> exact .mono (show (1 : Int).natAbs < 2 ^ 1 by decide) (by omega)
        · simp only [List.mem_cons, List.not_mem_nil, or_false] at hw
          rcases hw with rfl | rfl
          · exact ui.mono (by omega)
          · exact vi.mono (by omega)
        · show (2 * (k + 1) + 2) * 3 ≤ 8000
          omega
        · refine Exists.intro (dotR [1, 1] [u, v]) ⟨rfl, hN _ ⟨i, u, v, rfl, hu1, hv1, ?_⟩⟩
          show qd (wd ((1 : Int) * u + ((1 : Int) * v + 0))) = _
          congr 2
          grind
      · have e : ys = (List.zipWith (fun u v => wd (u + v)) us vs).map qd := moved_list hl (by rw [List.length_map]; omega) hys
        refine (show (false = false ∨ True) ∧ Q (.tup ys) from ⟨.inl rfl, ?_⟩)
        rw [e]; exact q
abbrev s_law : Stmt := top 23
theorem sc_law : FnScope ["_law_script", "_law_bag", "_law_width", "_law_most", "_law_row_z", "_law_amounts_z", "_law_due", "_law_pose_z", "_law_small", "_law_at", "_law_more", "_law_half", "_law_k", "_law_x"] ["_law_script"] (defScope s_law) := ⟨rfl, rfl, rfl, by decide +kernel, rfl, by decide +kernel, by decide +kernel⟩
theorem ok_law  {T : Tbs} {k : Nat} {f : Addr} {fd : FuncData} (Fn : Fun K "law" "law" s_law f fd) (n_tuple : mg "tuple" = none) (n_range : mg "range" = none) (n_list : mg "list" = none) (n_int : mg "int" = none) {k__law_opened : Nat} {f__law_opened : Addr} {fd__law_opened : FuncData} (D__law_opened : FnG P w K mg base T "_law_opened" k__law_opened f__law_opened fd__law_opened ["_law_script"] false (spOpen K)) (hk__law_opened : k__law_opened ≤ k) {k__law_pull : Nat} {f__law_pull : Addr} {fd__law_pull : FuncData} (D__law_pull : FnG P w K mg base T "_law_pull" k__law_pull f__law_pull fd__law_pull ["_law_bag", "_law_many"] false spPull) (hk__law_pull : k__law_pull ≤ k) {k__law_any : Nat} {f__law_any : Addr} {fd__law_any : FuncData} (D__law_any : FnG P w K mg base T "_law_any" k__law_any f__law_any fd__law_any ["_law_bag", "_law_things"] false spAny) (hk__law_any : k__law_any ≤ k) {k__law_fraction : Nat} {f__law_fraction : Addr} {fd__law_fraction : FuncData} (D__law_fraction : FnG P w K mg base T "_law_fraction" k__law_fraction f__law_fraction fd__law_fraction ["_law_bag"] false spFraction) (hk__law_fraction : k__law_fraction ≤ k) {k__law_total : Nat} {f__law_total : Addr} {fd__law_total : FuncData} (D__law_total : FnG P w K mg base T "_law_total" k__law_total f__law_total fd__law_total ["_law_row_z", "_law_amounts_z"] false spTotal) (hk__law_total : k__law_total ≤ k) {k__law_like : Nat} {f__law_like : Addr} {fd__law_like : FuncData} (D__law_like : FnG P w K mg base T "_law_like" k__law_like f__law_like fd__law_like ["_law_found", "_law_due"] false (spL 8)) (hk__law_like : k__law_like ≤ k) {k_dot : Nat} {f_dot : Addr} {fd_dot : FuncData} (D_dot : FnG P w K mg base T "dot" k_dot f_dot fd_dot ["row", "amounts"] false spDot) (hk_dot : k_dot ≤ k) {k__law_whole : Nat} {f__law_whole : Addr} {fd__law_whole : FuncData} (D__law_whole : FnG P w K mg base T "_law_whole" k__law_whole f__law_whole fd__law_whole ["_law_x"] false spWound) (hk__law_whole : k__law_whole ≤ k) {k__law_sum : Nat} {f__law_sum : Addr} {fd__law_sum : FuncData} (D__law_sum : FnG P w K mg base T "_law_sum" k__law_sum f__law_sum fd__law_sum ["_law_row_z", "_law_pose_z"] false spSum) (hk__law_sum : k__law_sum ≤ k) {k_sum_at : Nat} {f_sum_at : Addr} {fd_sum_at : FuncData} (D_sum_at : FnG P w K mg base T "sum_at" k_sum_at f_sum_at fd_sum_at ["row", "pose"] false spSum) (hk_sum_at : k_sum_at ≤ k) {k__law_moved : Nat} {f__law_moved : Addr} {fd__law_moved : FuncData} (D__law_moved : FnG P w K mg base T "_law_moved" k__law_moved f__law_moved fd__law_moved ["_law_pose_z", "_law_amounts_z"] false spMoved) (hk__law_moved : k__law_moved ≤ k) (KB_dot_0_amounts_row : KBd K fd_dot ["row", "amounts"] 0 ["amounts", "row"] [1, 0]) (KB_sum_at_0_pose_row : KBd K fd_sum_at ["row", "pose"] 0 ["pose", "row"] [1, 0]) : FnOk P w K mg base (L2.CX P w) (k + 1) f fd ["_law_script"] (lift T false (spLaw K)) := by
  refine fn_ok Fn sc_law (fun ds Q EX h => as1.len h) (fun cdv A outer s G H E EX hr hu he hx hp => ?_)
  have hN := sc_law.nd
  have hr__law_opened := hr.mono hk__law_opened
  have hr__law_pull := hr.mono hk__law_pull
  have hr__law_any := hr.mono hk__law_any
  have hr__law_fraction := hr.mono hk__law_fraction
  have hr__law_total := hr.mono hk__law_total
  have hr__law_like := hr.mono hk__law_like
  have hr_dot := hr.mono hk_dot
  have hr__law_whole := hr.mono hk__law_whole
  have hr__law_sum := hr.mono hk__law_sum
  have hr_sum_at := hr.mono hk_sum_at
  have hr__law_moved := hr.mono hk__law_moved
  refine ⟨_, _, (fss_cons (fs_set 1 hN (fe_callG D__law_opened he hr__law_opened hx (fb_cons (vT 0) fb_nil)))
    (fss_cons (fs_asg (fe_tup (fa_cons (FE.fg (fe_bin (dop_addK (K := K) rfl) fe_int (FE.tt (fe_callG D__law_pull he hr__law_pull hx (fb_cons (vT 1) (fb_cons fe_int fb_nil)))))) (fa_cons (fe_callG D__law_any he hr__law_any hx (fb_cons (vT 1) (fb_cons (FE.tt (fe_lst (fa_cons fe_int (fa_cons fe_int (fa_cons (fe_bin dop_pow fe_int fe_int) fa_nil))))) fb_nil))) fa_nil))) (fg_tupK (K := K) rfl rfl (fgs_cons (fg_name 2 hN) (fgs_cons (fg_name 3 hN) fgs_nil))))
    (fss_cons (fs_set 4 hN (fe_callTy (dc_tupleK (K := K) rfl) n_tuple (fb_cons (FE.tt (fe_lc [("_law_k", 12)] rfl hN (blkOk_at (N' := ["_law_script", "_law_bag", "_law_width", "_law_most", "_law_row_z", "_law_amounts_z", "_law_due", "_law_pose_z", "_law_small", "_law_at", "_law_more", "_law_half", "_law_k", "_law_x"]) (sc' := defScope s_law) rfl rfl (by decide +kernel)) (fi_range1 n_range (fb_cons (vT 2) fb_nil)) (fun _ _ _ _ _ => (fg_name 12 hN)) (fun _ _ _ _ _ => fts_nil) (fun _ _ _ _ _ => (fe_bin dop_sub (FE.tt (fe_callG D__law_pull Fx.no_exc hr__law_pull passL (fb_cons (vT 1) (fb_cons (FE.tt (fe_bin (dop_addK (K := K) rfl) (FE.tt (fe_bin (dop_mulK (K := K) rfl) fe_int (vT 3))) fe_int)) fb_nil)))) (vT 3))))) fb_nil)))
    (fss_cons (fs_setLc 5 [("_law_k", 12)] rfl hN (blkOk_at (N' := ["_law_script", "_law_bag", "_law_width", "_law_most", "_law_row_z", "_law_amounts_z", "_law_due", "_law_pose_z", "_law_small", "_law_at", "_law_more", "_law_half", "_law_k", "_law_x"]) (sc' := defScope s_law) rfl rfl (by decide +kernel)) (fi_range1 n_range (fb_cons (vT 2) fb_nil)) (fun _ _ _ _ _ => (fg_name 12 hN)) (fun _ _ _ _ _ => fts_nil) (fun _ _ _ _ _ => (fe_callG D__law_fraction Fx.no_exc hr__law_fraction passL (fb_cons (vT 1) fb_nil))))
    (fss_cons (fs_set 6 hN (fe_callG D__law_total he hr__law_total hx (fb_cons (vT 4) (fb_cons (vT 5) fb_nil))))
    (fss_cons (fs_if (ft_not (ft_val (m := .t) (FE.tt (fe_callG D__law_like he hr__law_like hx (fb_cons (FE.tt (fe_lst (fa_cons (fe_callG D_dot he hr_dot hx (fb_cons (vT 4) (fb_cons (FE.tt (fe_callTy (dc_listK (K := K) rfl) n_list (fb_cons (vT 5) fb_nil))) fb_nil))) (fa_cons (fe_callG D_dot he hr_dot hx (fb_cons (vT 4) (fb_cons (fe_callTy (dc_tupleK (K := K) rfl) n_tuple (fb_cons (vT 5) fb_nil)) fb_nil))) (fa_cons (fe_callK0G D_dot he hr_dot hx KB_dot_0_amounts_row (fk_cons (FE.tt (fe_callTy (dc_listK (K := K) rfl) n_list (fb_cons (vT 5) fb_nil))) (fk_cons (vT 4) fk_nil))) fa_nil))))) (fb_cons (FE.tt (fe_bin (dop_mulK (K := K) rfl) (FE.tt (fe_lst (fa_cons (vG 6) fa_nil))) fe_int)) fb_nil)))))) (fss_one (fs_ret fe_bl)) fss_nil)
    (fss_cons (fs_set 7 hN (fe_callTy (dc_tupleK (K := K) rfl) n_tuple (fb_cons (FE.tt (fe_lc [("_law_x", 13)] rfl hN (blkOk_at (N' := ["_law_script", "_law_bag", "_law_width", "_law_most", "_law_row_z", "_law_amounts_z", "_law_due", "_law_pose_z", "_law_small", "_law_at", "_law_more", "_law_half", "_law_k", "_law_x"]) (sc' := defScope s_law) rfl rfl (by decide +kernel)) (fi_seqK (K := K) rfl (vS 5)) (fun _ _ _ _ _ => (fg_name 13 hN)) (fun _ _ _ _ _ => fts_nil) (fun _ _ _ _ _ => (fe_callG D__law_whole Fx.no_exc hr__law_whole passL (fb_cons (vT 13) fb_nil))))) fb_nil)))
    (fss_cons (fs_set 8 hN (fe_callG D__law_sum he hr__law_sum hx (fb_cons (vT 4) (fb_cons (vT 7) fb_nil))))
    (fss_cons (fs_if (ft_not (ft_val (m := .t) (FE.tt (fe_callG D__law_like he hr__law_like hx (fb_cons (FE.tt (fe_lst (fa_cons (fe_callG D_sum_at he hr_sum_at hx (fb_cons (vT 4) (fb_cons (vT 7) fb_nil))) (fa_cons (fe_callK0G D_sum_at he hr_sum_at hx KB_sum_at_0_pose_row (fk_cons (vT 7) (fk_cons (vT 4) fk_nil))) fa_nil)))) (fb_cons (FE.tt (fe_lst (fa_cons (vG 8) (fa_cons (vG 8) fa_nil)))) fb_nil)))))) (fss_one (fs_ret fe_bl)) fss_nil)
    (fss_cons (fs_set 9 hN (fe_callG D__law_pull he hr__law_pull hx (fb_cons (vT 1) (fb_cons (vT 2) fb_nil))))
    (fss_cons (fs_setO 10 hN (fe_callTy (dc_listK (K := K) rfl) n_list (fb_cons (vT 7) fb_nil)))
    (fss_cons (fs_item 10 (vT 9) (fe_ixK (K := K) rfl (FE.tt (fe_callG D__law_moved he hr__law_moved hx (fb_cons (fe_tup (fa_cons (fe_ixK (K := K) rfl (vT 7) (vT 9)) fa_nil)) (fb_cons (fe_tup (fa_cons (fe_tup (fa_cons fe_int (fa_cons fe_int fa_nil))) fa_nil)) fb_nil)))) fe_int))
    (fss_cons (fs_set 11 hN (fe_ixK (K := K) rfl (FE.tt (fe_callG D__law_moved he hr__law_moved hx (fb_cons (fe_tup (fa_cons (vG 8) fa_nil)) (fb_cons (fe_tup (fa_cons (fe_tup (fa_cons (fe_bin dop_mod (fe_callTy dc_int n_int (fb_cons (FE.tt (fe_ixK (K := K) rfl (vT 4) (vT 9))) fb_nil)) fe_int) (fa_cons (fe_bin dop_sub fe_int (fe_bin dop_mod (FE.tt (fe_bin (dop_addK (K := K) rfl) (FE.tt (fe_ixK (K := K) rfl (vT 4) (vT 9))) fe_int)) fe_int)) fa_nil))) fa_nil)) fb_nil)))) fe_int))
    (fss_one (fs_ret (fe_callG D__law_like he hr__law_like hx (fb_cons (FE.tt (fe_lst (fa_cons (fe_callG D_sum_at he hr_sum_at hx (fb_cons (vT 4) (fb_cons (fe_callTy (dc_tupleK (K := K) rfl) n_tuple (fb_cons (vT 10) fb_nil)) fb_nil))) (fa_cons (fe_callG D_dot he hr_dot hx (fb_cons (FE.tt (fe_bin (dop_mulK (K := K) rfl) (fe_tup (fa_cons fe_int fa_nil)) (vT 2))) (fb_cons (vT 5) fb_nil))) fa_nil)))) (fb_cons (FE.tt (fe_lst (fa_cons (vG 11) (fa_cons (fe_tup (fa_cons fe_int (fa_cons fe_int fa_nil))) fa_nil)))) fb_nil)))))))))))))))))), fun ds Q h => ?_⟩
  obtain ⟨x, rfl, ns, rfl, q⟩ := as1.out h
  clear h
  refine And.intro rfl ?_
  refine And.intro trivial (And.intro (pullOk (by decide) (by decide)) fun w0 w00 w01 => ?_)
  refine And.intro ⟨by decide, by decide, by decide⟩ (And.intro (show 3 ≤ sizeLine by decide) (And.intro trivial (And.intro (fun z => by cases z) (And.intro (show 3 ≤ 1000000 by decide) fun dm hdm => ?_))))
  obtain ⟨most, rfl, most1, most2⟩ : ∃ most : Int, dm = .int most ∧ 1 ≤ most ∧ most ≤ 1000000000 := by
    simp only [List.mem_cons, List.not_mem_nil, or_false] at hdm
    rcases hdm with rfl | rfl | rfl
    · exact ⟨1, rfl, by decide, by decide⟩
    · exact ⟨12, rfl, by decide, by decide⟩
    · exact ⟨10 ^ 9, rfl, by decide, by decide⟩
  obtain ⟨wn, rfl⟩ : ∃ wn : Nat, w0 = wn := ⟨w0.toNat, by omega⟩
  clear hdm w00
  refine And.intro (show 2 ≤ sizeLine by decide) (And.intro rfl (And.intro rfl ?_))
  -- the row
  have hlen : (1 + (wn : Int)) = ((wn + 1 : Nat) : Int) := by omega
  rw [hlen]
  refine And.intro (rngOk0 (by omega)) (And.intro (by rw [List.length_map, List.length_range]; exact Nat.le_trans (show _ ≤ 100 by omega) (by decide)) ?_)
  refine dLc_rel0 (fun _ y => ∃ m, y = .int m ∧ Sz 31 m) (fun d hd N hN => ?_) (fun ys hys => ?_)
  · refine And.intro (CMul.ok (.inl ⟨by decide, by decide⟩)) (And.intro trivial (And.intro (pullOk (by omega) (by omega)) fun n n0 n1 => hN _ ⟨_, rfl, ?_⟩))
    show (n - most).natAbs < 2 ^ 31
    omega
  obtain ⟨ms, rfl, hml, hms⟩ := paired_ints (fun d y h => h) hys
  clear hys
  rw [List.length_map, List.length_range, Int.toNat_natCast] at hml
  -- the amounts
  refine And.intro (rngOk0 (by omega)) (And.intro (by rw [List.length_map, List.length_range]; exact Nat.le_trans (show _ ≤ 100 by omega) (by decide)) ?_)
  refine dLc_rel0 (fun _ y => ∃ u, y = qd u ∧ Qs 10 u) (fun d hd N hN => ?_) (fun ys hys => ?_)
  · exact And.intro trivial fun u hu1 => hN _ ⟨u, rfl, hu1⟩
  obtain ⟨us, rfl, hul, hus⟩ := paired_qs (fun d y h => h) hys
  clear hys
  rw [List.length_map, List.length_range, Int.toNat_natCast] at hul
  have hl : ms.length = us.length := by omega
  have hq : ∀ u ∈ us, Qs 31 u := fun u h => (hus u h).mono (by decide)
  have hb : (2 * 31 + 2) * (ms.length + 1) ≤ 8000 := by omega
  refine Exists.intro ms ⟨us, 31, rfl, rfl, hl, hms, hq, hb, ?_⟩
  refine Exists.intro ms ⟨us, 31, rfl, rfl, hms, hq, hb, Exists.intro ms ⟨us, 31, rfl, rfl, hms, hq, hb, And.intro rfl (And.intro rfl (Exists.intro ms ⟨us, 31, rfl, rfl, hms, hq, hb, ?_⟩))⟩⟩
  have hp : pd 7 (.lst [qd (dotR ms us), qd (dotR ms us), qd (dotR ms us)]) := ⟨(show 3 ≤ 100000 by decide), fun d hd => by
    simp only [List.mem_cons, List.not_mem_nil, or_false] at hd
    rcases hd with rfl | rfl | rfl <;> exact pd_qd⟩
  refine And.intro (show 3 ≤ sizeLine by decide) (And.intro (show 1 ≤ sizeLine by decide) (And.intro (by decide) (And.intro (by decide) (And.intro (show 1 * 3 ≤ sizeLine by decide) (And.intro hp (And.intro hp ?_))))))
  refine (show (if (!(like (.lst [qd (dotR ms us), qd (dotR ms us), qd (dotR ms us)]) (.lst [qd (dotR ms us), qd (dotR ms us), qd (dotR ms us)]))) = true then _ else _) from ?_)
  rw [like_refl hp, if_neg (by decide)]
  -- the pose
  refine And.intro (by rw [List.length_map]; exact Nat.le_trans (show us.length ≤ 100 by omega) (by decide)) ?_
  refine dLc_mapL0 qd (fun u => qd (wd u)) (fun u hu1 N hN => Exists.intro u ⟨rfl, hN⟩) ?_
  have hps : us.map (fun u => qd (wd u)) = (us.map wd).map qd := by rw [List.map_map]; rfl
  rw [hps]
  have hpl : ms.length = (us.map wd).length := by rw [List.length_map]; exact hl
  have hpq : ∀ u ∈ us.map wd, Qs 31 u := fun u h => by
    obtain ⟨v, hv, rfl⟩ := List.mem_map.mp h
    exact qs_wd (hq v hv)
  generalize us.map wd = ps at hpl hpq
  refine Exists.intro ms ⟨ps, 31, rfl, rfl, hpl, hms, hpq, hb, ?_⟩
  refine Exists.intro ms ⟨ps, 31, rfl, rfl, hpl, hms, hpq, hb, And.intro rfl (And.intro rfl (Exists.intro ms ⟨ps, 31, rfl, rfl, hpl, hms, hpq, hb, ?_⟩))⟩
  have hp2 : pd 7 (.lst [qd (wd (dotR ms ps)), qd (wd (dotR ms ps))]) := ⟨(show 2 ≤ 100000 by decide), fun d hd => by
    simp only [List.mem_cons, List.not_mem_nil, or_false] at hd
    rcases hd with rfl | rfl <;> exact pd_qd⟩
  refine And.intro (show 2 ≤ sizeLine by decide) (And.intro (show 2 ≤ sizeLine by decide) (And.intro hp2 (And.intro hp2 ?_)))
  refine (show (if (!(like (.lst [qd (wd (dotR ms ps)), qd (wd (dotR ms ps))]) (.lst [qd (wd (dotR ms ps)), qd (wd (dotR ms ps))]))) = true then _ else _) from ?_)
  rw [like_refl hp2, if_neg (by decide)]
  -- a place, the pose turned there
  refine And.intro trivial (And.intro (pullOk (by omega) (by omega)) fun at0 a0 a1 => ?_)
  obtain ⟨i, rfl⟩ := Int.eq_ofNat_of_zero_le a0
  have hi : i < ms.length := by omega
  obtain ⟨m, hm⟩ : ∃ m, ms[i]? = some m := ⟨_, List.getElem?_eq_getElem hi⟩
  obtain ⟨p, hp1⟩ : ∃ p, ps[i]? = some p := ⟨_, List.getElem?_eq_getElem (by omega)⟩
  have pq := hpq p (List.mem_of_getElem? hp1)
  have hh31 : Qs 31 half := ⟨(show (1 : Int).natAbs < 2 ^ 31 by decide), (show (2 : Int).natAbs < 2 ^ 31 by decide)⟩
  refine asO.mk (atI_map qd hp1) (And.intro (show 1 ≤ sizeLine by decide) (And.intro (show 2 ≤ sizeLine by decide) (And.intro (show 1 ≤ sizeLine by decide) ?_)))
  refine Exists.intro [p] ⟨[half], 31, rfl, rfl, rfl, fun u h => by rw [List.mem_singleton.mp h]; exact pq, fun u h => by rw [List.mem_singleton.mp h]; exact hh31, (show 1 ≤ 100000 by decide), by decide, ?_⟩
  refine asO.mk (x := i) (show ixN (ps.map qd).length (i : Int) = some i from ?_) ?_
  · unfold ixN
    rw [List.length_map, if_pos (by omega), if_pos (by omega)]; rfl
  -- what is due
  refine And.intro (show 1 ≤ sizeLine by decide) (asO.mk (atI_map D.int hm) (And.intro (show (2 : Int) ≠ 0 by decide) (asO.mk (atI_map D.int hm) (And.intro (show (2 : Int) ≠ 0 by decide) (And.intro (show 2 ≤ sizeLine by decide) (And.intro (show 1 ≤ sizeLine by decide) ?_))))))
  obtain ⟨h, hd1, hh1, hh2⟩ : ∃ h : Rat, D.tup [.int (m.fmod 2), .int (2 - (m + 1).fmod 2)] = qd h ∧ Qs 31 h ∧ ((h = 0 ∧ m % 2 = 0) ∨ (h = half ∧ m % 2 = 1)) := by
    rw [fmod2, fmod2]
    rcases (show m % 2 = 0 ∨ m % 2 = 1 by omega) with e | e
    · have e2 : (m + 1) % 2 = 1 := by omega
      rw [e, e2]
      exact ⟨0, rfl, ⟨(show (0 : Int).natAbs < 2 ^ 31 by decide), (show (1 : Int).natAbs < 2 ^ 31 by decide)⟩, .inl ⟨rfl, rfl⟩⟩
    · have e2 : (m + 1) % 2 = 0 := by omega
      rw [e, e2]
      exact ⟨half, rfl, hh31, .inr ⟨rfl, rfl⟩⟩
  have hS : Qs 900 (wd (dotR ms ps)) := (qs_wd (qs_dotR hms hpq)).mono (by omega)
  refine Exists.intro [wd (dotR ms ps)] ⟨[h], 900, rfl, congrArg (fun x => some [x]) hd1, rfl, fun u hu1 => ?_, fun u hu1 => ?_, (show 1 ≤ 100000 by decide), by decide, ?_⟩
  · rw [List.mem_singleton.mp hu1]; exact hS
  · rw [List.mem_singleton.mp hu1]; exact hh1.mono (by decide)
  -- the last answers
  have hset : (ps.map qd).set i (qd (wd (p + half))) = (ps.set i (wd (p + half))).map qd := List.map_set.symm
  have hset' : items (.tup ((ps.map qd).set i (qd (wd (p + half))))) = some ((ps.set i (wd (p + half))).map qd) := congrArg some hset
  have hwp : Qs 900 (wd (p + half)) := (qs_wd (qs_add pq hh31)).mono (by decide)
  have hps2 : ∀ u ∈ ps.set i (wd (p + half)), Qs 64 u := fun u hu1 => by
    rcases List.mem_or_eq_of_mem_set hu1 with hu1 | rfl
    · exact (hpq u hu1).mono (by decide)
    · exact (qs_wd (qs_add pq hh31)).mono (by decide)
  refine Exists.intro ms ⟨ps.set i (wd (p + half)), 64, rfl, hset', by rw [List.length_set]; exact hpl, fun m hm => (hms m hm).mono (by decide), hps2, by omega, ?_⟩
  have hz : items (.tup (List.replicate ((wn + 1 : Nat) : Int).toNat [D.int 0]).flatten) = some ((List.replicate (wn + 1) 0).map D.int) := by
    rw [rep1, List.map_replicate]; rfl
  refine And.intro (show 1 ≤ sizeLine by decide) (And.intro (by omega) (And.intro (by omega) (And.intro (show 1 ≤ 1000 by decide) ?_)))
  refine Exists.intro (List.replicate (wn + 1) 0) ⟨us, 31, hz, rfl, fun m hm => by rw [List.eq_of_mem_replicate hm]; exact (show (0 : Int).natAbs < 2 ^ 31 by decide), hq, by rw [List.length_replicate]; omega, ?_⟩
  have e1 := turn_law hm hp1 hh2
  have e2 := dotR_zero (wn + 1) us
  have pdl : ∀ a b : Rat, pd 7 (.lst [qd a, qd b]) := fun a b => ⟨(show 2 ≤ 100000 by decide), fun d hd => by
    simp only [List.mem_cons, List.not_mem_nil, or_false] at hd
    rcases hd with rfl | rfl <;> exact pd_qd⟩
  refine And.intro (show 2 ≤ sizeLine by decide) (And.intro (show 2 ≤ sizeLine by decide) (And.intro (show 2 ≤ sizeLine by decide) (And.intro (pdl _ _) (And.intro (pdl _ 0) (And.intro (.inl rfl) ?_)))))
  refine (show Q (.bl (like (.lst [qd (wd (dotR ms (ps.set i (wd (p + half))))), qd (dotR (List.replicate (wn + 1) 0) us)]) (.lst [qd (wd (wd (dotR ms ps) + h)), qd 0]))) from ?_)
  rw [e1, e2, like_refl (pdl _ _)]
  exact q
theorem all__law_like {T : Tbs} {f : Addr} {fd : FuncData} (Fn : Fun K "_law_like" "_law_like" s__law_like f fd) (n_isinstance : mg "isinstance" = none) (n_list : mg "list" = none) (n_tuple : mg "tuple" = none) (n_all : mg "all" = none) (n_range : mg "range" = none) (n_len : mg "len" = none) (n_int : mg "int" = none) (n_bool : mg "bool" = none) (n_str : mg "str" = none) (hm : mg "_law_like" = some (.ref f)) (kp : PySem.W.keepIn K (.ref f) = true) (bd : Binds K fd ["_law_found", "_law_due"] []) : ∀ n : Nat, FnG P w K mg base T "_law_like" n f fd ["_law_found", "_law_due"] false (spL n)
  | 0 => ⟨⟨fun vs H Q E ⟨G, ds, QD, EX, _, _, _, h, _⟩ => h.elim, fun A outer s H args us vs Q E hr e0 hb hv ⟨G, ds, QD, EX, _, _, _, h, _⟩ => h.elim⟩, hm, kp, bd⟩
  | n + 1 => ⟨ok__law_like Fn n_isinstance n_list n_tuple n_all n_range n_len n_int n_bool n_str (all__law_like Fn n_isinstance n_list n_tuple n_all n_range n_len n_int n_bool n_str hm kp bd n) (Nat.le_refl n), hm, kp, bd⟩
end
theorem all_mk {l : PySem.W.OpenLaw} {w : World} {K : PySem.W.Frag} {h : Heap} {mg : Str → Option Value} {fa : Addr} (X : K.In h) (G : h.Ns mainGlobals mg) (hfa : mg "law" = some (.ref fa))
    {f__law_opened : Addr} {oc__law_opened kV__law_opened dc__law_opened pm__law_opened cd__law_opened ct__law_opened : Value} {od__law_opened an__law_opened : Option Addr} {sl__law_opened : Array (Option Value)}
    {f__law_pull : Addr} {oc__law_pull kV__law_pull dc__law_pull pm__law_pull cd__law_pull ct__law_pull : Value} {od__law_pull an__law_pull : Option Addr} {sl__law_pull : Array (Option Value)}
    {f__law_any : Addr} {oc__law_any kV__law_any dc__law_any pm__law_any cd__law_any ct__law_any : Value} {od__law_any an__law_any : Option Addr} {sl__law_any : Array (Option Value)}
    {f__law_gcd : Addr} {oc__law_gcd kV__law_gcd dc__law_gcd pm__law_gcd cd__law_gcd ct__law_gcd : Value} {od__law_gcd an__law_gcd : Option Addr} {sl__law_gcd : Array (Option Value)}
    {f__law_frac : Addr} {oc__law_frac kV__law_frac dc__law_frac pm__law_frac cd__law_frac ct__law_frac : Value} {od__law_frac an__law_frac : Option Addr} {sl__law_frac : Array (Option Value)}
    {f__law_fraction : Addr} {oc__law_fraction kV__law_fraction dc__law_fraction pm__law_fraction cd__law_fraction ct__law_fraction : Value} {od__law_fraction an__law_fraction : Option Addr} {sl__law_fraction : Array (Option Value)}
    {f__law_total : Addr} {oc__law_total kV__law_total dc__law_total pm__law_total cd__law_total ct__law_total : Value} {od__law_total an__law_total : Option Addr} {sl__law_total : Array (Option Value)}
    {f__law_like : Addr} {oc__law_like kV__law_like dc__law_like pm__law_like cd__law_like ct__law_like : Value} {od__law_like an__law_like : Option Addr} {sl__law_like : Array (Option Value)}
    {f_common : Addr} {oc_common kV_common dc_common pm_common cd_common ct_common : Value} {od_common an_common : Option Addr} {sl_common : Array (Option Value)}
    {tk_fraction_0 : Tok}
    {T_fraction : Addr} {ocT_fraction : Value} {odT_fraction : Option Addr} {nT_fraction : Nat} {slT_fraction : Array (Option Value)}
    {f_fraction : Addr} {oc_fraction kV_fraction dc_fraction pm_fraction cd_fraction ct_fraction : Value} {od_fraction an_fraction : Option Addr} {sl_fraction : Array (Option Value)}
    {f_added : Addr} {oc_added kV_added dc_added pm_added cd_added ct_added : Value} {od_added an_added : Option Addr} {sl_added : Array (Option Value)}
    {f_scaled : Addr} {oc_scaled kV_scaled dc_scaled pm_scaled cd_scaled ct_scaled : Value} {od_scaled an_scaled : Option Addr} {sl_scaled : Array (Option Value)}
    {f_dot : Addr} {oc_dot kV_dot dc_dot pm_dot cd_dot ct_dot : Value} {od_dot an_dot : Option Addr} {sl_dot : Array (Option Value)}
    {f__law_whole : Addr} {oc__law_whole kV__law_whole dc__law_whole pm__law_whole cd__law_whole ct__law_whole : Value} {od__law_whole an__law_whole : Option Addr} {sl__law_whole : Array (Option Value)}
    {f__law_sum : Addr} {oc__law_sum kV__law_sum dc__law_sum pm__law_sum cd__law_sum ct__law_sum : Value} {od__law_sum an__law_sum : Option Addr} {sl__law_sum : Array (Option Value)}
    {f_wound : Addr} {oc_wound kV_wound dc_wound pm_wound cd_wound ct_wound : Value} {od_wound an_wound : Option Addr} {sl_wound : Array (Option Value)}
    {f_sum_at : Addr} {oc_sum_at kV_sum_at dc_sum_at pm_sum_at cd_sum_at ct_sum_at : Value} {od_sum_at an_sum_at : Option Addr} {sl_sum_at : Array (Option Value)}
    {f__law_moved : Addr} {oc__law_moved kV__law_moved dc__law_moved pm__law_moved cd__law_moved ct__law_moved : Value} {od__law_moved an__law_moved : Option Addr} {sl__law_moved : Array (Option Value)}
    {f_law : Addr} {oc_law kV_law dc_law pm_law cd_law ct_law : Value} {od_law an_law : Option Addr} {sl_law : Array (Option Value)}
    (a__law_opened : PySem.W.nsIn K mainGlobals "_law_opened" = some (some (.ref f__law_opened)))
    (l__law_opened : K.lookup f__law_opened = some ⟨oc__law_opened, od__law_opened, .func (PySem.W.fnOf "_law_opened" "_law_opened" (defArgs s__law_opened) (defBody s__law_opened) (defScope s__law_opened) .none kV__law_opened dc__law_opened pm__law_opened an__law_opened cd__law_opened ct__law_opened), sl__law_opened⟩)
    (c__law_opened : PySem.W.codeIn K cd__law_opened "_law_opened" = true)
    (k__law_opened : PySem.W.keepIn K (.ref f__law_opened) = true)
    (a__law_pull : PySem.W.nsIn K mainGlobals "_law_pull" = some (some (.ref f__law_pull)))
    (l__law_pull : K.lookup f__law_pull = some ⟨oc__law_pull, od__law_pull, .func (PySem.W.fnOf "_law_pull" "_law_pull" (defArgs s__law_pull) (defBody s__law_pull) (defScope s__law_pull) .none kV__law_pull dc__law_pull pm__law_pull an__law_pull cd__law_pull ct__law_pull), sl__law_pull⟩)
    (c__law_pull : PySem.W.codeIn K cd__law_pull "_law_pull" = true)
    (k__law_pull : PySem.W.keepIn K (.ref f__law_pull) = true)
    (a__law_any : PySem.W.nsIn K mainGlobals "_law_any" = some (some (.ref f__law_any)))
    (l__law_any : K.lookup f__law_any = some ⟨oc__law_any, od__law_any, .func (PySem.W.fnOf "_law_any" "_law_any" (defArgs s__law_any) (defBody s__law_any) (defScope s__law_any) .none kV__law_any dc__law_any pm__law_any an__law_any cd__law_any ct__law_any), sl__law_any⟩)
    (c__law_any : PySem.W.codeIn K cd__law_any "_law_any" = true)
    (k__law_any : PySem.W.keepIn K (.ref f__law_any) = true)
    (a__law_gcd : PySem.W.nsIn K mainGlobals "_law_gcd" = some (some (.ref f__law_gcd)))
    (l__law_gcd : K.lookup f__law_gcd = some ⟨oc__law_gcd, od__law_gcd, .func (PySem.W.fnOf "_law_gcd" "_law_gcd" (defArgs s__law_gcd) (defBody s__law_gcd) (defScope s__law_gcd) .none kV__law_gcd dc__law_gcd pm__law_gcd an__law_gcd cd__law_gcd ct__law_gcd), sl__law_gcd⟩)
    (c__law_gcd : PySem.W.codeIn K cd__law_gcd "_law_gcd" = true)
    (k__law_gcd : PySem.W.keepIn K (.ref f__law_gcd) = true)
    (a__law_frac : PySem.W.nsIn K mainGlobals "_law_frac" = some (some (.ref f__law_frac)))
    (l__law_frac : K.lookup f__law_frac = some ⟨oc__law_frac, od__law_frac, .func (PySem.W.fnOf "_law_frac" "_law_frac" (defArgs s__law_frac) (defBody s__law_frac) (defScope s__law_frac) .none kV__law_frac dc__law_frac pm__law_frac an__law_frac cd__law_frac ct__law_frac), sl__law_frac⟩)
    (c__law_frac : PySem.W.codeIn K cd__law_frac "_law_frac" = true)
    (k__law_frac : PySem.W.keepIn K (.ref f__law_frac) = true)
    (a__law_fraction : PySem.W.nsIn K mainGlobals "_law_fraction" = some (some (.ref f__law_fraction)))
    (l__law_fraction : K.lookup f__law_fraction = some ⟨oc__law_fraction, od__law_fraction, .func (PySem.W.fnOf "_law_fraction" "_law_fraction" (defArgs s__law_fraction) (defBody s__law_fraction) (defScope s__law_fraction) .none kV__law_fraction dc__law_fraction pm__law_fraction an__law_fraction cd__law_fraction ct__law_fraction), sl__law_fraction⟩)
    (c__law_fraction : PySem.W.codeIn K cd__law_fraction "_law_fraction" = true)
    (k__law_fraction : PySem.W.keepIn K (.ref f__law_fraction) = true)
    (a__law_total : PySem.W.nsIn K mainGlobals "_law_total" = some (some (.ref f__law_total)))
    (l__law_total : K.lookup f__law_total = some ⟨oc__law_total, od__law_total, .func (PySem.W.fnOf "_law_total" "_law_total" (defArgs s__law_total) (defBody s__law_total) (defScope s__law_total) .none kV__law_total dc__law_total pm__law_total an__law_total cd__law_total ct__law_total), sl__law_total⟩)
    (c__law_total : PySem.W.codeIn K cd__law_total "_law_total" = true)
    (k__law_total : PySem.W.keepIn K (.ref f__law_total) = true)
    (a__law_like : PySem.W.nsIn K mainGlobals "_law_like" = some (some (.ref f__law_like)))
    (l__law_like : K.lookup f__law_like = some ⟨oc__law_like, od__law_like, .func (PySem.W.fnOf "_law_like" "_law_like" (defArgs s__law_like) (defBody s__law_like) (defScope s__law_like) .none kV__law_like dc__law_like pm__law_like an__law_like cd__law_like ct__law_like), sl__law_like⟩)
    (c__law_like : PySem.W.codeIn K cd__law_like "_law_like" = true)
    (k__law_like : PySem.W.keepIn K (.ref f__law_like) = true)
    (a_common : PySem.W.nsIn K mainGlobals "common" = some (some (.ref f_common)))
    (l_common : K.lookup f_common = some ⟨oc_common, od_common, .func (PySem.W.fnOf "common" "common" (defArgs s_common) (defBody s_common) (defScope s_common) .none kV_common dc_common pm_common an_common cd_common ct_common), sl_common⟩)
    (c_common : PySem.W.codeIn K cd_common "common" = true)
    (k_common : PySem.W.keepIn K (.ref f_common) = true)
    (a_fraction : PySem.W.nsIn K mainGlobals "fraction" = some (some (.ref f_fraction)))
    (l_fraction : K.lookup f_fraction = some ⟨oc_fraction, od_fraction, .func (PySem.W.fnOf "fraction" "fraction" (defArgs s_fraction) (defBody s_fraction) (defScope s_fraction) (.ref T_fraction) kV_fraction dc_fraction pm_fraction an_fraction cd_fraction ct_fraction), sl_fraction⟩)
    (d_fraction : K.lookup T_fraction = some ⟨ocT_fraction, odT_fraction, .seq #[.int 1 tk_fraction_0] nT_fraction, slT_fraction⟩)
    (c_fraction : PySem.W.codeIn K cd_fraction "fraction" = true)
    (k_fraction : PySem.W.keepIn K (.ref f_fraction) = true)
    (a_added : PySem.W.nsIn K mainGlobals "added" = some (some (.ref f_added)))
    (l_added : K.lookup f_added = some ⟨oc_added, od_added, .func (PySem.W.fnOf "added" "added" (defArgs s_added) (defBody s_added) (defScope s_added) .none kV_added dc_added pm_added an_added cd_added ct_added), sl_added⟩)
    (c_added : PySem.W.codeIn K cd_added "added" = true)
    (k_added : PySem.W.keepIn K (.ref f_added) = true)
    (a_scaled : PySem.W.nsIn K mainGlobals "scaled" = some (some (.ref f_scaled)))
    (l_scaled : K.lookup f_scaled = some ⟨oc_scaled, od_scaled, .func (PySem.W.fnOf "scaled" "scaled" (defArgs s_scaled) (defBody s_scaled) (defScope s_scaled) .none kV_scaled dc_scaled pm_scaled an_scaled cd_scaled ct_scaled), sl_scaled⟩)
    (c_scaled : PySem.W.codeIn K cd_scaled "scaled" = true)
    (k_scaled : PySem.W.keepIn K (.ref f_scaled) = true)
    (a_dot : PySem.W.nsIn K mainGlobals "dot" = some (some (.ref f_dot)))
    (l_dot : K.lookup f_dot = some ⟨oc_dot, od_dot, .func (PySem.W.fnOf "dot" "dot" (defArgs s_dot) (defBody s_dot) (defScope s_dot) .none kV_dot dc_dot pm_dot an_dot cd_dot ct_dot), sl_dot⟩)
    (c_dot : PySem.W.codeIn K cd_dot "dot" = true)
    (k_dot : PySem.W.keepIn K (.ref f_dot) = true)
    (a__law_whole : PySem.W.nsIn K mainGlobals "_law_whole" = some (some (.ref f__law_whole)))
    (l__law_whole : K.lookup f__law_whole = some ⟨oc__law_whole, od__law_whole, .func (PySem.W.fnOf "_law_whole" "_law_whole" (defArgs s__law_whole) (defBody s__law_whole) (defScope s__law_whole) .none kV__law_whole dc__law_whole pm__law_whole an__law_whole cd__law_whole ct__law_whole), sl__law_whole⟩)
    (c__law_whole : PySem.W.codeIn K cd__law_whole "_law_whole" = true)
    (k__law_whole : PySem.W.keepIn K (.ref f__law_whole) = true)
    (a__law_sum : PySem.W.nsIn K mainGlobals "_law_sum" = some (some (.ref f__law_sum)))
    (l__law_sum : K.lookup f__law_sum = some ⟨oc__law_sum, od__law_sum, .func (PySem.W.fnOf "_law_sum" "_law_sum" (defArgs s__law_sum) (defBody s__law_sum) (defScope s__law_sum) .none kV__law_sum dc__law_sum pm__law_sum an__law_sum cd__law_sum ct__law_sum), sl__law_sum⟩)
    (c__law_sum : PySem.W.codeIn K cd__law_sum "_law_sum" = true)
    (k__law_sum : PySem.W.keepIn K (.ref f__law_sum) = true)
    (a_wound : PySem.W.nsIn K mainGlobals "wound" = some (some (.ref f_wound)))
    (l_wound : K.lookup f_wound = some ⟨oc_wound, od_wound, .func (PySem.W.fnOf "wound" "wound" (defArgs s_wound) (defBody s_wound) (defScope s_wound) .none kV_wound dc_wound pm_wound an_wound cd_wound ct_wound), sl_wound⟩)
    (c_wound : PySem.W.codeIn K cd_wound "wound" = true)
    (k_wound : PySem.W.keepIn K (.ref f_wound) = true)
    (a_sum_at : PySem.W.nsIn K mainGlobals "sum_at" = some (some (.ref f_sum_at)))
    (l_sum_at : K.lookup f_sum_at = some ⟨oc_sum_at, od_sum_at, .func (PySem.W.fnOf "sum_at" "sum_at" (defArgs s_sum_at) (defBody s_sum_at) (defScope s_sum_at) .none kV_sum_at dc_sum_at pm_sum_at an_sum_at cd_sum_at ct_sum_at), sl_sum_at⟩)
    (c_sum_at : PySem.W.codeIn K cd_sum_at "sum_at" = true)
    (k_sum_at : PySem.W.keepIn K (.ref f_sum_at) = true)
    (a__law_moved : PySem.W.nsIn K mainGlobals "_law_moved" = some (some (.ref f__law_moved)))
    (l__law_moved : K.lookup f__law_moved = some ⟨oc__law_moved, od__law_moved, .func (PySem.W.fnOf "_law_moved" "_law_moved" (defArgs s__law_moved) (defBody s__law_moved) (defScope s__law_moved) .none kV__law_moved dc__law_moved pm__law_moved an__law_moved cd__law_moved ct__law_moved), sl__law_moved⟩)
    (c__law_moved : PySem.W.codeIn K cd__law_moved "_law_moved" = true)
    (k__law_moved : PySem.W.keepIn K (.ref f__law_moved) = true)
    (a_law : PySem.W.nsIn K mainGlobals "law" = some (some (.ref f_law)))
    (l_law : K.lookup f_law = some ⟨oc_law, od_law, .func (PySem.W.fnOf "law" "law" (defArgs s_law) (defBody s_law) (defScope s_law) .none kV_law dc_law pm_law an_law cd_law ct_law), sl_law⟩)
    (c_law : PySem.W.codeIn K cd_law "law" = true)
    (k_law : PySem.W.keepIn K (.ref f_law) = true)
    (z_list : PySem.W.nsIn K mainGlobals "list" = some none)
    (z_len : PySem.W.nsIn K mainGlobals "len" = some none)
    (z_int : PySem.W.nsIn K mainGlobals "int" = some none)
    (z_abs : PySem.W.nsIn K mainGlobals "abs" = some none)
    (z_range : PySem.W.nsIn K mainGlobals "range" = some none)
    (z_isinstance : PySem.W.nsIn K mainGlobals "isinstance" = some none)
    (z_tuple : PySem.W.nsIn K mainGlobals "tuple" = some none)
    (z_all : PySem.W.nsIn K mainGlobals "all" = some none)
    (z_bool : PySem.W.nsIn K mainGlobals "bool" = some none)
    (z_str : PySem.W.nsIn K mainGlobals "str" = some none)
    (z_zip : PySem.W.nsIn K mainGlobals "zip" = some none) :
    ∃ fd : FuncData, (∀ (s : Shared) (v : Value), BindsTo s fd ⟨[v], []⟩ [("_law_script", v)]) ∧ ∀ base : Heap, K.In base → base.Ns mainGlobals mg → FnOk l.prog w K mg base (L2.CX l.prog w) 9 fa fd ["_law_script"] (lift [] false (spLaw K)) := by
  have e := hfa.symm.trans (PySem.W.mg_of X G a_law)
  cases e
  have n_list := PySem.W.mg_none_of X G z_list
  have n_len := PySem.W.mg_none_of X G z_len
  have n_int := PySem.W.mg_none_of X G z_int
  have n_abs := PySem.W.mg_none_of X G z_abs
  have n_range := PySem.W.mg_none_of X G z_range
  have n_isinstance := PySem.W.mg_none_of X G z_isinstance
  have n_tuple := PySem.W.mg_none_of X G z_tuple
  have n_all := PySem.W.mg_none_of X G z_all
  have n_bool := PySem.W.mg_none_of X G z_bool
  have n_str := PySem.W.mg_none_of X G z_str
  have n_zip := PySem.W.mg_none_of X G z_zip
  have F__law_opened := fun_mk (st := s__law_opened) l__law_opened c__law_opened k__law_opened
  have B__law_opened := F__law_opened.binds (ps := ["_law_script"]) fun _ _ _ _ _ _ us hl => match us, hl with | [_], _ => rfl
  have F__law_pull := fun_mk (st := s__law_pull) l__law_pull c__law_pull k__law_pull
  have B__law_pull := F__law_pull.binds (ps := ["_law_bag", "_law_many"]) fun _ _ _ _ _ _ us hl => match us, hl with | [_, _], _ => rfl
  have F__law_any := fun_mk (st := s__law_any) l__law_any c__law_any k__law_any
  have B__law_any := F__law_any.binds (ps := ["_law_bag", "_law_things"]) fun _ _ _ _ _ _ us hl => match us, hl with | [_, _], _ => rfl
  have F__law_gcd := fun_mk (st := s__law_gcd) l__law_gcd c__law_gcd k__law_gcd
  have B__law_gcd := F__law_gcd.binds (ps := ["_law_a", "_law_b"]) fun _ _ _ _ _ _ us hl => match us, hl with | [_, _], _ => rfl
  have F__law_frac := fun_mk (st := s__law_frac) l__law_frac c__law_frac k__law_frac
  have B__law_frac := F__law_frac.binds (ps := ["_law_p", "_law_q"]) fun _ _ _ _ _ _ us hl => match us, hl with | [_, _], _ => rfl
  have F__law_fraction := fun_mk (st := s__law_fraction) l__law_fraction c__law_fraction k__law_fraction
  have B__law_fraction := F__law_fraction.binds (ps := ["_law_bag"]) fun _ _ _ _ _ _ us hl => match us, hl with | [_], _ => rfl
  have F__law_total := fun_mk (st := s__law_total) l__law_total c__law_total k__law_total
  have B__law_total := F__law_total.binds (ps := ["_law_row_z", "_law_amounts_z"]) fun _ _ _ _ _ _ us hl => match us, hl with | [_, _], _ => rfl
  have F__law_like := fun_mk (st := s__law_like) l__law_like c__law_like k__law_like
  have B__law_like := F__law_like.binds (ps := ["_law_found", "_law_due"]) fun _ _ _ _ _ _ us hl => match us, hl with | [_, _], _ => rfl
  have F_common := fun_mk (st := s_common) l_common c_common k_common
  have B_common := F_common.binds (ps := ["a", "b"]) fun _ _ _ _ _ _ us hl => match us, hl with | [_, _], _ => rfl
  have F_fraction : FunD K "fraction" "fraction" (defArgs s_fraction) (defBody s_fraction) (defScope s_fraction) [.int 1] [] f_fraction _ := ⟨⟨_, _, _, _, _, _, _, _, _, _, rfl, l_fraction, c_fraction, .inr ⟨(fun z => by cases z), T_fraction, _, _, _, rfl, d_fraction, rfl, (.cons ⟨_, rfl⟩ .nil)⟩, .inl rfl⟩, k_fraction⟩
  obtain ⟨ds_fraction, v_fraction, B_fraction⟩ := F_fraction.binds1 (ps := ["p", "q"]) 2 1 (fun z => by cases z) rfl fun T kV doc pm an cdv ct us its h1 h2 => (match us, its, h1, h2 with | [_, _], [_], _, _ => ⟨_, rfl, rfl⟩)
  cases v_fraction
  have F_added := fun_mk (st := s_added) l_added c_added k_added
  have B_added := F_added.binds (ps := ["x", "y"]) fun _ _ _ _ _ _ us hl => match us, hl with | [_, _], _ => rfl
  have F_scaled := fun_mk (st := s_scaled) l_scaled c_scaled k_scaled
  have B_scaled := F_scaled.binds (ps := ["many", "x"]) fun _ _ _ _ _ _ us hl => match us, hl with | [_, _], _ => rfl
  have F_dot := fun_mk (st := s_dot) l_dot c_dot k_dot
  have B_dot := F_dot.binds (ps := ["row", "amounts"]) fun _ _ _ _ _ _ us hl => match us, hl with | [_, _], _ => rfl
  have F__law_whole := fun_mk (st := s__law_whole) l__law_whole c__law_whole k__law_whole
  have B__law_whole := F__law_whole.binds (ps := ["_law_x"]) fun _ _ _ _ _ _ us hl => match us, hl with | [_], _ => rfl
  have F__law_sum := fun_mk (st := s__law_sum) l__law_sum c__law_sum k__law_sum
  have B__law_sum := F__law_sum.binds (ps := ["_law_row_z", "_law_pose_z"]) fun _ _ _ _ _ _ us hl => match us, hl with | [_, _], _ => rfl
  have F_wound := fun_mk (st := s_wound) l_wound c_wound k_wound
  have B_wound := F_wound.binds (ps := ["x"]) fun _ _ _ _ _ _ us hl => match us, hl with | [_], _ => rfl
  have F_sum_at := fun_mk (st := s_sum_at) l_sum_at c_sum_at k_sum_at
  have B_sum_at := F_sum_at.binds (ps := ["row", "pose"]) fun _ _ _ _ _ _ us hl => match us, hl with | [_, _], _ => rfl
  have F__law_moved := fun_mk (st := s__law_moved) l__law_moved c__law_moved k__law_moved
  have B__law_moved := F__law_moved.binds (ps := ["_law_pose_z", "_law_amounts_z"]) fun _ _ _ _ _ _ us hl => match us, hl with | [_, _], _ => rfl
  have F_law := fun_mk (st := s_law) l_law c_law k_law
  have KB_dot_0_amounts_row := kbd_of (ps := ["row", "amounts"]) (n := 0) (ks := ["amounts", "row"]) (ord := [1, 0]) F_dot fun kV doc pm an cdv ct us ws h1 h2 => (match us, ws, h1, h2 with | [], [_, _], _, _ => rfl)
  have KB_sum_at_0_pose_row := kbd_of (ps := ["row", "pose"]) (n := 0) (ks := ["pose", "row"]) (ord := [1, 0]) F_sum_at fun kV doc pm an cdv ct us ws h1 h2 => (match us, ws, h1, h2 with | [], [_, _], _, _ => rfl)
  refine ⟨PySem.W.fnOf "law" "law" (defArgs s_law) (defBody s_law) (defScope s_law) .none kV_law dc_law pm_law an_law cd_law ct_law, fun s v => .of_eq rfl, fun base _ _ => ?_⟩
  have D__law_opened : FnG l.prog w K mg base [] "_law_opened" 1 f__law_opened _ ["_law_script"] false (spOpen K) := ⟨ok__law_opened (T := []) F__law_opened n_list, PySem.W.mg_of X G a__law_opened, k__law_opened, B__law_opened⟩
  have D__law_pull : FnG l.prog w K mg base [] "_law_pull" 1 f__law_pull _ ["_law_bag", "_law_many"] false spPull := ⟨ok__law_pull (T := []) F__law_pull n_len n_int, PySem.W.mg_of X G a__law_pull, k__law_pull, B__law_pull⟩
  have D__law_any : FnG l.prog w K mg base [] "_law_any" 2 f__law_any _ ["_law_bag", "_law_things"] false spAny := ⟨ok__law_any (T := []) (k := 1) F__law_any n_len D__law_pull (by decide), PySem.W.mg_of X G a__law_any, k__law_any, B__law_any⟩
  have D__law_gcd : FnG l.prog w K mg base [] "_law_gcd" 1 f__law_gcd _ ["_law_a", "_law_b"] false spGcd := ⟨ok__law_gcd (T := []) (k := 0) F__law_gcd n_abs n_int, PySem.W.mg_of X G a__law_gcd, k__law_gcd, B__law_gcd⟩
  have D__law_frac : FnG l.prog w K mg base [] "_law_frac" 2 f__law_frac _ ["_law_p", "_law_q"] false spFrac := ⟨ok__law_frac (T := []) (k := 1) F__law_frac D__law_gcd (by decide), PySem.W.mg_of X G a__law_frac, k__law_frac, B__law_frac⟩
  have D__law_fraction : FnG l.prog w K mg base [] "_law_fraction" 3 f__law_fraction _ ["_law_bag"] false spFraction := ⟨ok__law_fraction (T := []) (k := 2) F__law_fraction D__law_frac (by decide) D__law_pull (by decide) D__law_any (by decide), PySem.W.mg_of X G a__law_fraction, k__law_fraction, B__law_fraction⟩
  have D__law_total : FnG l.prog w K mg base [] "_law_total" 3 f__law_total _ ["_law_row_z", "_law_amounts_z"] false spTotal := ⟨ok__law_total (T := []) (k := 2) F__law_total n_range n_len D__law_frac (by decide), PySem.W.mg_of X G a__law_total, k__law_total, B__law_total⟩
  have D__law_like : FnG l.prog w K mg base [] "_law_like" 8 f__law_like _ ["_law_found", "_law_due"] false (spL 8) := all__law_like F__law_like n_isinstance n_list n_tuple n_all n_range n_len n_int n_bool n_str (PySem.W.mg_of X G a__law_like) k__law_like B__law_like 8
  have D_common : FnG l.prog w K mg base [] "common" 1 f_common _ ["a", "b"] false spGcd := ⟨ok_common (T := []) (k := 0) F_common n_abs, PySem.W.mg_of X G a_common, k_common, B_common⟩
  have D_fraction : FnG l.prog w K mg base [] "fraction" 2 f_fraction _ ["p", "q"] false spFrac := ⟨ok_fraction (T := []) (k := 1) F_fraction D_common (by decide), PySem.W.mg_of X G a_fraction, k_fraction, B_fraction⟩
  have D_added : FnG l.prog w K mg base [] "added" 3 f_added _ ["x", "y"] false spAdded := ⟨ok_added (T := []) (k := 2) F_added D_fraction (by decide), PySem.W.mg_of X G a_added, k_added, B_added⟩
  have D_scaled : FnG l.prog w K mg base [] "scaled" 3 f_scaled _ ["many", "x"] false spScaled := ⟨ok_scaled (T := []) (k := 2) F_scaled D_fraction (by decide), PySem.W.mg_of X G a_scaled, k_scaled, B_scaled⟩
  have D_dot : FnG l.prog w K mg base [] "dot" 4 f_dot _ ["row", "amounts"] false spDot := ⟨ok_dot (T := []) (k := 3) F_dot n_zip D_added (by decide) D_scaled (by decide), PySem.W.mg_of X G a_dot, k_dot, B_dot⟩
  have D__law_whole : FnG l.prog w K mg base [] "_law_whole" 1 f__law_whole _ ["_law_x"] false spWound := ⟨ok__law_whole (T := []) (k := 0) F__law_whole n_int, PySem.W.mg_of X G a__law_whole, k__law_whole, B__law_whole⟩
  have D__law_sum : FnG l.prog w K mg base [] "_law_sum" 4 f__law_sum _ ["_law_row_z", "_law_pose_z"] false spSum := ⟨ok__law_sum (T := []) (k := 3) F__law_sum D__law_whole (by decide) D__law_total (by decide), PySem.W.mg_of X G a__law_sum, k__law_sum, B__law_sum⟩
  have D_wound : FnG l.prog w K mg base [] "wound" 1 f_wound _ ["x"] false spWound := ⟨ok_wound (T := []) (k := 0) F_wound, PySem.W.mg_of X G a_wound, k_wound, B_wound⟩
  have D_sum_at : FnG l.prog w K mg base [] "sum_at" 5 f_sum_at _ ["row", "pose"] false spSum := ⟨ok_sum_at (T := []) (k := 4) F_sum_at D_wound (by decide) D_dot (by decide), PySem.W.mg_of X G a_sum_at, k_sum_at, B_sum_at⟩
  have D__law_moved : FnG l.prog w K mg base [] "_law_moved" 4 f__law_moved _ ["_law_pose_z", "_law_amounts_z"] false spMoved := ⟨ok__law_moved (T := []) (k := 3) F__law_moved n_tuple n_range n_len D__law_whole (by decide) D__law_total (by decide), PySem.W.mg_of X G a__law_moved, k__law_moved, B__law_moved⟩
  exact ok_law (T := []) (k := 8) F_law n_tuple n_range n_list n_int D__law_opened (by decide) D__law_pull (by decide) D__law_any (by decide) D__law_fraction (by decide) D__law_total (by decide) D__law_like (by decide) D_dot (by decide) D__law_whole (by decide) D__law_sum (by decide) D_sum_at (by decide) D__law_moved (by decide) KB_dot_0_amounts_row KB_sum_at_0_pose_row
theorem start_ok {K : PySem.W.Frag} {H : Hp} {a : Addr} {ns : List Int} (hO : Only H) (hS : SqL K H a (ns.map V.int)) : lift [] false (spLaw K) [.ref a] H (fun v _ => v = .bl true) fun _ _ _ => False := by
  refine ⟨H, [.fz K ns], (· = .bl true), fun _ => False, ⟨.refl H, fun b ps e => ?_⟩, (fun p hp => by cases hp), ⟨.fz fun H' sb => ?_, trivial⟩, ⟨ns, rfl, rfl⟩, fun v G' H' d _ r e => ?_, fun _ _ _ _ _ _ _ _ z => z⟩
  · rcases hO b with z | ⟨o, xs, z⟩ <;> rw [z] at e <;> cases e
  · rcases hS with (h | ⟨o, h⟩) | h
    · exact .inl (.inl (sb _ _ h))
    · exact .inl (.inr ⟨o, sb _ _ h⟩)
    · exact .inr h
  · subst e
    cases (show Rep G' v (.bl true) from r)
    rfl
theorem walk {l : PySem.W.OpenLaw} {q : Program} {loose : List Str} {XP : (Str → Option Value) → Heap → Prop} {YP : World → Heap → Prop} {d : DefRec} {K : Params → PySem.W.Frag} (hn : l.most = some 63) (hdf : d.params.defaults = [])
    (hY : ∀ (w : World) (h : Heap), YP w h → (K w.params).In h)
    (F : ∀ (w : World) (mg : Str → Option Value) (fa : Addr) (h : Heap), (K w.params).In h → h.Ns mainGlobals mg → mg d.name = some (.ref fa) →
      ∃ fd : FuncData, (∀ (s : Shared) (u : Value), BindsTo s fd ⟨[u], []⟩ [("_law_script", u)]) ∧ ∀ base : Heap, (K w.params).In base → base.Ns mainGlobals mg → FnOk l.prog w (K w.params) mg base (L2.CX l.prog w) 9 fa fd ["_law_script"] (lift [] false (spLaw (K w.params)))) :
    PySem.W.WalkO q loose XP YP l.row.toRowW d [] (fun f vs => PySem.call f vs) :=
  L2.walk_of (n := 63) (k := 9) (x := "_law_script") (CX := fun w => L2.CX l.prog w) (sp := fun w => lift [] false (spLaw (K w.params))) hn (by decide) hdf ⟨rfl, by decide, by decide⟩ hY F (fun _ _ _ _ _ hO hS => start_ok hO hS) fun _ _ _ _ _ ⟨_, _, _, _, _, _, _, _, _, _, _, _, z⟩ => z
end Law_k03
open PySem PySem.W PyProof.Rows in
set_option maxRecDepth 100000 in
set_option maxHeartbeats 0 in
theorem PySem.Challenge.cw_gripround_k03_sums_of_rows_holds : PySem.Challenge.rw_gripround_k03_sums_of_rows.Holds := by
  w_on; o_law; k_head; (case hw => w_witness2)
  k_fill
  refine Law_k03.walk (l := PySem.Challenge.rw_gripround_k03_sums_of_rows) rfl rfl (fun w h Y => PySem.W.kIn_of Y) ?F
  case F =>
    intro w mg fa h KX G hmg
    refine' Law_k03.all_mk KX G hmg ?a__law_opened ?l__law_opened ?c__law_opened ?k__law_opened ?a__law_pull ?l__law_pull ?c__law_pull ?k__law_pull ?a__law_any ?l__law_any ?c__law_any ?k__law_any ?a__law_gcd ?l__law_gcd ?c__law_gcd ?k__law_gcd ?a__law_frac ?l__law_frac ?c__law_frac ?k__law_frac ?a__law_fraction ?l__law_fraction ?c__law_fraction ?k__law_fraction ?a__law_total ?l__law_total ?c__law_total ?k__law_total ?a__law_like ?l__law_like ?c__law_like ?k__law_like ?a_common ?l_common ?c_common ?k_common ?a_fraction ?l_fraction ?d_fraction ?c_fraction ?k_fraction ?a_added ?l_added ?c_added ?k_added ?a_scaled ?l_scaled ?c_scaled ?k_scaled ?a_dot ?l_dot ?c_dot ?k_dot ?a__law_whole ?l__law_whole ?c__law_whole ?k__law_whole ?a__law_sum ?l__law_sum ?c__law_sum ?k__law_sum ?a_wound ?l_wound ?c_wound ?k_wound ?a_sum_at ?l_sum_at ?c_sum_at ?k_sum_at ?a__law_moved ?l__law_moved ?c__law_moved ?k__law_moved ?a_law ?l_law ?c_law ?k_law ?z_list ?z_len ?z_int ?z_abs ?z_range ?z_isinstance ?z_tuple ?z_all ?z_bool ?z_str ?z_zip
    (case a__law_opened => k_is)
    (case l__law_opened => k_is)
    (case c__law_opened => k_is)
    (case k__law_opened => k_is)
    (case a__law_pull => k_is)
    (case l__law_pull => k_is)
    (case c__law_pull => k_is)
    (case k__law_pull => k_is)
    (case a__law_any => k_is)
    (case l__law_any => k_is)
    (case c__law_any => k_is)
    (case k__law_any => k_is)
    (case a__law_gcd => k_is)
    (case l__law_gcd => k_is)
    (case c__law_gcd => k_is)
    (case k__law_gcd => k_is)
    (case a__law_frac => k_is)
    (case l__law_frac => k_is)
    (case c__law_frac => k_is)
    (case k__law_frac => k_is)
    (case a__law_fraction => k_is)
    (case l__law_fraction => k_is)
    (case c__law_fraction => k_is)
    (case k__law_fraction => k_is)
    (case a__law_total => k_is)
    (case l__law_total => k_is)
    (case c__law_total => k_is)
    (case k__law_total => k_is)
    (case a__law_like => k_is)
    (case l__law_like => k_is)
    (case c__law_like => k_is)
    (case k__law_like => k_is)
    (case a_common => k_is)
    (case l_common => k_is)
    (case c_common => k_is)
    (case k_common => k_is)
    (case a_fraction => k_is)
    (case l_fraction => k_is)
    (case d_fraction => k_is)
    (case c_fraction => k_is)
    (case k_fraction => k_is)
    (case a_added => k_is)
    (case l_added => k_is)
    (case c_added => k_is)
    (case k_added => k_is)
    (case a_scaled => k_is)
    (case l_scaled => k_is)
    (case c_scaled => k_is)
    (case k_scaled => k_is)
    (case a_dot => k_is)
    (case l_dot => k_is)
    (case c_dot => k_is)
    (case k_dot => k_is)
    (case a__law_whole => k_is)
    (case l__law_whole => k_is)
    (case c__law_whole => k_is)
    (case k__law_whole => k_is)
    (case a__law_sum => k_is)
    (case l__law_sum => k_is)
    (case c__law_sum => k_is)
    (case k__law_sum => k_is)
    (case a_wound => k_is)
    (case l_wound => k_is)
    (case c_wound => k_is)
    (case k_wound => k_is)
    (case a_sum_at => k_is)
    (case l_sum_at => k_is)
    (case c_sum_at => k_is)
    (case k_sum_at => k_is)
    (case a__law_moved => k_is)
    (case l__law_moved => k_is)
    (case c__law_moved => k_is)
    (case k__law_moved => k_is)
    (case a_law => k_is)
    (case l_law => k_is)
    (case c_law => k_is)
    (case k_law => k_is)
    (case z_list => k_is)
    (case z_len => k_is)
    (case z_int => k_is)
    (case z_abs => k_is)
    (case z_range => k_is)
    (case z_isinstance => k_is)
    (case z_tuple => k_is)
    (case z_all => k_is)
    (case z_bool => k_is)
    (case z_str => k_is)
    (case z_zip => k_is)
