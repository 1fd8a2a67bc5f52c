import PyProof.Rows.All
import Wide.All
import OpenK.AllK
import Wide.FinOn
import HandS.ForMost
import HandS.ForExc
import HandS.IsInst
import HandS.TupAny
import HandS.WrittenGet
import HandS.Lambda
import HandS.EndTab
import KE.KDflt
import HandS.RaiseMore
import HandS.SortInts
import KE.DatumOrd
import HandS.SetFor
import HandS.TupSets
import HandS.ExcIs
import KE.KNestM
import HandS.Conv
import HandS.SetTxt0
import HandS.Sort
import HandS.DeepEq
import HandS.More
import HandS.ExcInit
import HandS.ExcField
import HandS.Text
import HandS.SortKw
import PyProof.Rows.StrSplitCount
import PyProof.Rows.StrSplitJoin
import PyProof.Rows.StrSplitAre
import HandS.Wide
import HandS.TupLe
import HandS.Style
import PySem.Challenge.RW_stepnames_k10_whole_which_steps_are_a_su
set_option Elab.async false
set_option linter.all false
set_option maxRecDepth 100000
set_option maxHeartbeats 4000000
/-! The data layer: values as trees, lists that change as cells; readings run on data. -/
namespace DL
open PySem L2

inductive LK where
  | own | arg | frz
  deriving DecidableEq
inductive D where
  | non | bl (b : Bool) | int (i : Int) | str (x : Str) | tup (ds : List D) | lst (k : LK) (ds : List D)
  | dic (kvs : List (Key × D)) | val (v : V)
/-- a function made of a lambda: its code, its cells, its code object's name -/
structure LamRec where
  prm : Arguments
  bdy : Expr
  scp : Scope
  clo : List (Str × Addr)
  q : Str
abbrev LamO (a : Addr) (L : LamRec) (c1 : Addr) (m1 m2 : Value) : HO := .ext fun h => h.get? a = some (PySem.W.kla_obj "<lambda>" L.q L.prm L.bdy L.scp L.clo m1 c1 m2)
/-- the same with one default, in the tuple at td -/
abbrev LamDO (a : Addr) (L : LamRec) (c1 td : Addr) (dc m1 m2 : Value) : HO := .ext fun h => h.get? a = some (PySem.W.kdv_obj "<lambda>" L.q L.prm (.expr L.bdy) L.scp L.clo (.ref td) dc m1 c1 m2)
/-- a cell that nobody writes any more -/
abbrev CelO (a : Addr) (v : V) : HO := .ext fun h => ∃ u, RelV v u ∧ h.IsCell a (some u)
inductive Cell where
  | lst (ds : List D) | dic (kvs : List (Key × D)) | ins (C : Addr) (fs : List (Str × D)) | tab (q : Str) | dfz (o : Obj) (ws : List (Key × V)) (kvs : List (Key × D)) | lam (L : LamRec) | lamd (L : LamRec) | cel (d : D)
abbrev Mp := Addr → Option Cell
def mt : Mp := fun _ => none
def updM (M : Mp) (a : Addr) (c : Cell) : Mp := fun b => if b = a then some c else M b
theorem updM_same {M : Mp} {a : Addr} {c : Cell} : updM M a c a = some c := if_pos rfl
theorem updM_ne {M : Mp} {a b : Addr} {c : Cell} (h : b ≠ a) : updM M a c b = M b := if_neg h
def delM (M : Mp) (a : Addr) : Mp := fun b => if b = a then none else M b
theorem del_upd {M : Mp} {a : Addr} {c : Cell} (h : M a = none) : delM (updM M a c) a = M := by
  funext b
  unfold delM updM
  by_cases e : b = a
  · rw [if_pos e, e, h]
  · rw [if_neg e, if_neg e]
theorem updM_updM {M : Mp} {a : Addr} {c c' : Cell} : updM (updM M a c) a c' = updM M a c' := by
  funext b
  unfold updM
  by_cases e : b = a
  · rw [if_pos e, if_pos e]
  · rw [if_neg e, if_neg e, if_neg e]

def KTup (K : PySem.W.Frag) (a : Addr) (xs : List V) : Prop :=
  ∃ (o : Obj) (its : Array Value) (n : Nat), K.lookup a = some o ∧ o.cls = .type "tuple" ∧ o.data = .seq its n ∧ its.size ≤ sizeLine ∧ Vals xs its.toList
def TupAt (K : PySem.W.Frag) (M : Mp) (H : Hp) (a : Addr) (vs : List V) : Prop := (H a = some (.tup vs) ∧ M a = none) ∨ KTup K a vs
def KLst (K : PySem.W.Frag) (a : Addr) (xs : List V) : Prop :=
  ∃ (o : Obj) (its : Array Value) (n : Nat), K.lookup a = some o ∧ o.cls = .type "list" ∧ o.dict = none ∧ o.data = .seq its n ∧ its.size ≤ sizeLine ∧ Vals xs its.toList
def LstAt (K : PySem.W.Frag) (B : Hp) (M : Mp) (H : Hp) (k : LK) (a : Addr) (vs : List V) : Prop := match k with
  | .own => M a = none ∧ H a = some (.lst vs) ∧ B a = none
  | .arg => M a = none ∧ H a = some (.lst vs)
  | .frz => (M a = none ∧ (H a = some (.lst vs) ∨ ∃ o, H a = some (.frz o (.lst vs)))) ∨ KLst K a vs
theorem LstAt.sq {K : PySem.W.Frag} {B : Hp} {M : Mp} {H : Hp} {k : LK} {a : Addr} {vs : List V} (h : LstAt K B M H k a vs) : SqL K H a vs := by
  cases k with
  | own => exact .inl (.inl h.2.1)
  | arg => exact .inl (.inl h.2)
  | frz =>
    rcases h with ⟨_, h | ⟨o, h⟩⟩ | h
    · exact .inl (.inl h)
    · exact .inl (.inr ⟨o, h⟩)
    · exact .inr h

mutual
inductive Tr (K : PySem.W.Frag) (B : Hp) (M : Mp) (H : Hp) : V → D → Prop
  | non : Tr K B M H .non .non
  | bl (b : Bool) : Tr K B M H (.bl b) (.bl b)
  | int (i : Int) : Tr K B M H (.int i) (.int i)
  | str (x : Str) : Tr K B M H (.str x) (.str x)
  | tup {a : Addr} {vs : List V} {ds : List D} (h : TupAt K M H a vs) (r : Trs K B M H vs ds) : Tr K B M H (.ref a) (.tup ds)
  | lst {k : LK} {a : Addr} {vs : List V} {ds : List D} (h : LstAt K B M H k a vs) (r : Trs K B M H vs ds) : Tr K B M H (.ref a) (.lst k ds)
  | dic {a : Addr} {ws : List (Key × V)} {kvs : List (Key × D)} (h : H a = some (.dK ws)) (m : M a = none) (e : ws.map (·.1) = kvs.map (·.1)) (r : Trs K B M H (ws.map (·.2)) (kvs.map (·.2))) : Tr K B M H (.ref a) (.dic kvs)
  | val (v : V) : Tr K B M H v (.val v)
inductive Trs (K : PySem.W.Frag) (B : Hp) (M : Mp) (H : Hp) : List V → List D → Prop
  | nil : Trs K B M H [] []
  | cons {v : V} {d : D} {vs : List V} {ds : List D} (h : Tr K B M H v d) (r : Trs K B M H vs ds) : Trs K B M H (v :: vs) (d :: ds)
end

def Ext (M : Mp) (H : Hp) (M' : Mp) (H' : Hp) : Prop := ∀ a o, M a = none → H a = some o → M' a = none ∧ H' a = some o
theorem Ext.refl (M : Mp) (H : Hp) : Ext M H M H := fun _ _ h e => ⟨h, e⟩
theorem Ext.trans {M H M1 H1 M2 H2} (a : Ext M H M1 H1) (b : Ext M1 H1 M2 H2) : Ext M H M2 H2 := fun x o h e => by
  obtain ⟨h1, e1⟩ := a x o h e
  exact b x o h1 e1

section
variable {K : PySem.W.Frag} {B B' : Hp} {M M' : Mp} {H H' : Hp}
theorem TupAt.mono {a : Addr} {vs : List V} (e : Ext M H M' H') (h : TupAt K M H a vs) : TupAt K M' H' a vs := by
  rcases h with ⟨h, m⟩ | h
  · obtain ⟨m', h'⟩ := e a _ m h
    exact .inl ⟨h', m'⟩
  · exact .inr h
theorem LstAt.mono {k : LK} {a : Addr} {vs : List V} (e : Ext M H M' H') (b : ∀ a, B a = none → B' a = none) (h : LstAt K B M H k a vs) : LstAt K B' M' H' k a vs := by
  cases k with
  | own =>
    obtain ⟨m', h'⟩ := e a _ h.1 h.2.1
    exact ⟨m', h', b _ h.2.2⟩
  | arg =>
    obtain ⟨m', h'⟩ := e a _ h.1 h.2
    exact ⟨m', h'⟩
  | frz =>
    rcases h with ⟨m, h | ⟨o, h⟩⟩ | h
    · obtain ⟨m', h'⟩ := e a _ m h
      exact .inl ⟨m', .inl h'⟩
    · obtain ⟨m', h'⟩ := e a _ m h
      exact .inl ⟨m', .inr ⟨o, h'⟩⟩
    · exact .inr h
theorem tr_mono (e : Ext M H M' H') (b : ∀ a, B a = none → B' a = none) {v : V} {d : D} (h : Tr K B M H v d) : Tr K B' M' H' v d :=
  Tr.rec (motive_1 := fun v d _ => Tr K B' M' H' v d) (motive_2 := fun vs ds _ => Trs K B' M' H' vs ds)
    .non (fun b => .bl b) (fun i => .int i) (fun x => .str x) (fun h _ r => .tup (h.mono e) r) (fun h _ r => .lst (h.mono e b) r)
    (fun {a} {ws} {kvs} h m eq _ r => by
      obtain ⟨m', h'⟩ := e a _ m h
      exact .dic h' m' eq r) (fun v => .val v) .nil (fun _ _ h r => .cons h r) h
theorem trs_mono (e : Ext M H M' H') (b : ∀ a, B a = none → B' a = none) {vs : List V} {ds : List D} (h : Trs K B M H vs ds) : Trs K B' M' H' vs ds := by
  induction ds generalizing vs with
  | nil => cases h; exact .nil
  | cons d ds ih => cases h with
    | cons h r => exact .cons (tr_mono e b h) (ih r)
theorem Tr.ext {v : V} {d : D} (h : Tr K B M H v d) (e : Ext M H M' H') : Tr K B M' H' v d := tr_mono e (fun _ h => h) h
theorem Trs.ext {v : List V} {d : List D} (h : Trs K B M H v d) (e : Ext M H M' H') : Trs K B M' H' v d := trs_mono e (fun _ h => h) h
theorem Trs.length {vs : List V} {ds : List D} (h : Trs K B M H vs ds) : vs.length = ds.length := by
  induction ds generalizing vs with
  | nil => cases h; rfl
  | cons d ds ih => cases h with
    | cons h r => rw [List.length_cons, List.length_cons, ih r]
theorem Trs.get {vs : List V} {ds : List D} {i : Nat} {d : D} (h : Trs K B M H vs ds) (e : ds[i]? = some d) : ∃ v, vs[i]? = some v ∧ Tr K B M H v d := by
  induction ds generalizing vs i with
  | nil => simp at e
  | cons d0 ds ih => cases h with
    | cons h r =>
      cases i with
      | zero =>
        simp at e
        subst e
        exact ⟨_, rfl, h⟩
      | succ i =>
        obtain ⟨v, h1, h2⟩ := ih r (by simpa using e)
        exact ⟨v, by simpa using h1, h2⟩
theorem Trs.getV {vs : List V} {ds : List D} {i : Nat} {v : V} (h : Trs K B M H vs ds) (e : vs[i]? = some v) : ∃ d, ds[i]? = some d ∧ Tr K B M H v d := by
  induction ds generalizing vs i with
  | nil => cases h; simp at e
  | cons d0 ds ih => cases h with
    | cons h r =>
      cases i with
      | zero =>
        simp at e
        subst e
        exact ⟨_, rfl, h⟩
      | succ i =>
        obtain ⟨v, h1, h2⟩ := ih r (by simpa using e)
        exact ⟨v, by simpa using h1, h2⟩
theorem Trs.append {vs ws : List V} {ds es : List D} (h : Trs K B M H vs ds) (h' : Trs K B M H ws es) : Trs K B M H (vs ++ ws) (ds ++ es) := by
  induction ds generalizing vs with
  | nil => cases h; exact h'
  | cons d0 ds ih => cases h with
    | cons h r => exact .cons h (ih r)
theorem Trs.one {v : V} {d : D} (h : Tr K B M H v d) : Trs K B M H [v] [d] := .cons h .nil
theorem Trs.set {vs : List V} {ds : List D} {i : Nat} {v : V} {d : D} (h : Trs K B M H vs ds) (hv : Tr K B M H v d) : Trs K B M H (vs.set i v) (ds.set i d) := by
  induction ds generalizing vs i with
  | nil => cases h; exact .nil
  | cons d0 ds ih => cases h with
    | cons h r =>
      cases i with
      | zero => exact .cons hv r
      | succ i => exact .cons h (ih r)
theorem Trs.take {vs : List V} {ds : List D} (n : Nat) (h : Trs K B M H vs ds) : Trs K B M H (vs.take n) (ds.take n) := by
  induction ds generalizing vs n with
  | nil => cases h; simp; exact .nil
  | cons d0 ds ih => cases h with
    | cons h r =>
      cases n with
      | zero => exact .nil
      | succ n => exact .cons h (ih n r)
theorem Trs.drop {vs : List V} {ds : List D} (n : Nat) (h : Trs K B M H vs ds) : Trs K B M H (vs.drop n) (ds.drop n) := by
  induction ds generalizing vs n with
  | nil => cases h; simp; exact .nil
  | cons d0 ds ih => cases h with
    | cons h r =>
      cases n with
      | zero => exact .cons h r
      | succ n => exact ih n r
theorem Trs.reverse {vs : List V} {ds : List D} (h : Trs K B M H vs ds) : Trs K B M H vs.reverse ds.reverse := by
  induction ds generalizing vs with
  | nil => cases h; exact .nil
  | cons d0 ds ih => cases h with
    | cons h r =>
      rw [List.reverse_cons, List.reverse_cons]
      exact (ih r).append (.one h)

/-! ### the state -/
def CellAt (K : PySem.W.Frag) (B : Hp) (M : Mp) (H : Hp) (a : Addr) : Cell → Prop
  | .lst ds => ∃ vs, H a = some (.lst vs) ∧ Trs K B M H vs ds
  | .dic kvs => ∃ ws : List (Key × V), H a = some (.dK ws) ∧ ws.map (·.1) = kvs.map (·.1) ∧ Trs K B M H (ws.map (·.2)) (kvs.map (·.2))
  | .ins C fs => ∃ (dx : Addr) (ws : List (Str × V)), H a = some (.ins C dx ws) ∧ ws.map (·.1) = fs.map (·.1) ∧ Trs K B M H (ws.map (·.2)) (fs.map (·.2))
  | .dfz o ws kvs => H a = some (.frz o (.dK ws)) ∧ ws.map (·.1) = kvs.map (·.1) ∧ Trs K B M H (ws.map (·.2)) (kvs.map (·.2))
  | .lam L => ∃ (c1 : Addr) (m1 m2 : Value), H a = some (LamO a L c1 m1 m2) ∧ H c1 = some (LamX.CodeO c1 L.q) ∧ M c1 = none
  | .lamd L => ∃ (c1 td : Addr) (dc m1 m2 : Value), H a = some (LamDO a L c1 td dc m1 m2) ∧ H c1 = some (LamX.CodeO c1 L.q) ∧ M c1 = none ∧ H td = some (.tup [.int 0]) ∧ M td = none
  | .cel d => ∃ v, H a = some (CelO a v) ∧ Tr K B M H v d ∧ B a = none
  | .tab q => ∃ ps : Array Value, H a = some (.tbl ps) ∧ TriplesOk ps.toList ∧ ∀ (pos : Pos) (cv : Value), codeAmong pos ps.toList = some cv → ∃ c, cv = .ref c ∧ H c = some (LamX.CodeO c q) ∧ M c = none
structure Good (K : PySem.W.Frag) (B : Hp) (M : Mp) (H : Hp) : Prop where
  base : ∀ a, H a = none → B a = none
  cell : ∀ a c, M a = some c → CellAt K B M H a c
theorem CellAt.there {a : Addr} {c : Cell} (h : CellAt K B M H a c) : ∃ o, H a = some o := by
  cases c with
  | lst ds => obtain ⟨vs, h, _⟩ := h; exact ⟨_, h⟩
  | dic kvs => obtain ⟨vs, h, _⟩ := h; exact ⟨_, h⟩
  | ins C fs => obtain ⟨dx, vs, h, _⟩ := h; exact ⟨_, h⟩
  | tab q => obtain ⟨ps, h, _⟩ := h; exact ⟨_, h⟩
  | lam L => obtain ⟨_, _, _, h, _⟩ := h; exact ⟨_, h⟩
  | lamd L => obtain ⟨_, _, _, _, _, h, _⟩ := h; exact ⟨_, h⟩
  | cel d => obtain ⟨_, h, _⟩ := h; exact ⟨_, h⟩
  | dfz o ws kvs => exact ⟨_, h.1⟩
theorem Good.free (g : Good K B M H) {p : Addr} (h : H p = none) : M p = none := by
  cases e : M p with
  | none => rfl
  | some c =>
    obtain ⟨o, h'⟩ := (g.cell p c e).there
    rw [h] at h'
    cases h'
theorem CellAt.mono {a : Addr} {c : Cell} (e : Ext M H M' H') (h' : H' a = H a) (h : CellAt K B M H a c) : CellAt K B M' H' a c := by
  cases c with
  | lst ds =>
    obtain ⟨vs, h, r⟩ := h
    exact ⟨vs, h'.trans h, r.ext e⟩
  | dic kvs =>
    obtain ⟨vs, h, q, r⟩ := h
    exact ⟨vs, h'.trans h, q, r.ext e⟩
  | ins C fs =>
    obtain ⟨dx, vs, h, q, r⟩ := h
    exact ⟨dx, vs, h'.trans h, q, r.ext e⟩
  | tab q =>
    obtain ⟨ps, h, h1, h2⟩ := h
    refine ⟨ps, h'.trans h, h1, fun pos cv hc => ?_⟩
    obtain ⟨x, e1, e2, e3⟩ := h2 pos cv hc
    obtain ⟨e4, e5⟩ := e x _ e3 e2
    exact ⟨x, e1, e5, e4⟩
  | dfz o ws kvs => exact ⟨h'.trans h.1, h.2.1, h.2.2.ext e⟩
  | lam L =>
    obtain ⟨c1, m1, m2, h, h2, h3⟩ := h
    obtain ⟨e4, e5⟩ := e c1 _ h3 h2
    exact ⟨c1, m1, m2, h'.trans h, e5, e4⟩
  | lamd L =>
    obtain ⟨c1, td, dc, m1, m2, h, h2, h3, h4, h5⟩ := h
    obtain ⟨e4, e5⟩ := e c1 _ h3 h2
    obtain ⟨e6, e7⟩ := e td _ h5 h4
    exact ⟨c1, td, dc, m1, m2, h'.trans h, e5, e4, e7, e6⟩
  | cel d =>
    obtain ⟨v, h, t, hb⟩ := h
    exact ⟨v, h'.trans h, t.ext e, hb⟩
theorem ext_new {p : Addr} {o : HO} (h : H p = none) : Ext M H M (upd H p o) := fun a u m e => ⟨m, by rw [upd_ne (ne_of_none e h)]; exact e⟩
theorem Good.new (g : Good K B M H) {p : Addr} {o : HO} (h : H p = none) : Good K B M (upd H p o) where
  base := fun a e => by
    by_cases q : a = p
    · rw [q]; exact g.base _ h
    · rw [upd_ne q] at e; exact g.base _ e
  cell := fun a c e => by
    obtain ⟨u, hu⟩ := (g.cell a c e).there
    exact (g.cell a c e).mono (ext_new h) (upd_ne (ne_of_none hu h))
theorem ext_cell {p : Addr} {o : HO} {c : Cell} (h : H p = none) : Ext M H (updM M p c) (upd H p o) := fun a u m e => by
  have ne := ne_of_none e h
  exact ⟨by rw [updM_ne ne]; exact m, by rw [upd_ne ne]; exact e⟩
theorem ext_set {p : Addr} {o : HO} {c c' : Cell} (h : M p = some c) : Ext M H (updM M p c') (upd H p o) := fun a u m e => by
  have ne : a ≠ p := fun q => by rw [q, h] at m; cases m
  exact ⟨by rw [updM_ne ne]; exact m, by rw [upd_ne ne]; exact e⟩
/-- a new cell -/
theorem Good.newCell (g : Good K B M H) {p : Addr} {o : HO} {c : Cell} (h : H p = none) (hc : CellAt K B (updM M p c) (upd H p o) p c) : Good K B (updM M p c) (upd H p o) where
  base := fun a e => by
    by_cases q : a = p
    · rw [q]; exact g.base _ h
    · rw [upd_ne q] at e; exact g.base _ e
  cell := fun a c' e => by
    by_cases q : a = p
    · subst q
      rw [updM_same] at e
      cases e
      exact hc
    · rw [updM_ne q] at e
      exact (g.cell a c' e).mono (ext_cell h) (upd_ne q)
theorem Good.set (g : Good K B M H) {p : Addr} {o : HO} {c c' : Cell} (h : M p = some c) (hc : CellAt K B (updM M p c') (upd H p o) p c') : Good K B (updM M p c') (upd H p o) where
  base := fun a e => by
    by_cases q : a = p
    · rw [q, upd_same] at e; cases e
    · rw [upd_ne q] at e; exact g.base _ e
  cell := fun a c1 e => by
    by_cases q : a = p
    · subst q
      rw [updM_same] at e
      cases e
      exact hc
    · rw [updM_ne q] at e
      exact (g.cell a c1 e).mono (ext_set h) (upd_ne q)
end
end DL

namespace DL
open PySem L2

abbrev DSt := List (Option D)
abbrev Xq := Value → Option (List (Str × V)) → Mp → Prop
structure Pr where
  K : PySem.W.Frag
  B : Hp
  E : XK
  X : Xq

def EnvR (K : PySem.W.Frag) (B : Hp) (M : Mp) (H : Hp) (σ : St) (ε : DSt) : Prop :=
  σ.length = ε.length ∧ ∀ (i : Nat) (d : D), ε[i]? = some (some d) → ∃ v, σ[i]? = some (some v) ∧ Tr K B M H v d
def ELink (P : Pr) (M : Mp) (H : Hp) : Prop := ∀ (cls : Value) (fs : Option (List (Str × V))) (M' : Mp) (H' : Hp), Good P.K P.B M' H' → Ext M H M' H' → P.X cls fs M' →
  match fs with
  | none => P.E cls none H'
  | some l => ∀ d, P.B d = none → M' d = none → H' d = some (.xd l) → P.E cls (some d) H'
theorem ELink.ext {P : Pr} {M M' : Mp} {H H' : Hp} (l : ELink P M H) (e : Ext M H M' H') : ELink P M' H' := fun cls fs M2 H2 g e2 x => l cls fs M2 H2 g (e.trans e2) x
section
variable {K : PySem.W.Frag} {B : Hp} {M M' : Mp} {H H' : Hp} {σ : St} {ε : DSt}
theorem EnvR.ext (r : EnvR K B M H σ ε) (e : Ext M H M' H') : EnvR K B M' H' σ ε := ⟨r.1, fun i d h => by
  obtain ⟨v, h1, h2⟩ := r.2 i d h
  exact ⟨v, h1, h2.ext e⟩⟩
theorem EnvR.set (r : EnvR K B M H σ ε) {i : Nat} {v : V} {d : D} (h : Tr K B M H v d) : EnvR K B M H (σ.set i (some v)) (ε.set i (some d)) := by
  refine ⟨by rw [List.length_set, List.length_set, r.1], fun j e hj => ?_⟩
  by_cases q : i = j
  · subst q
    have hl : i < ε.length := by
      rcases Nat.lt_or_ge i ε.length with q | q
      · exact q
      · rw [List.getElem?_eq_none (by rw [List.length_set]; exact q)] at hj; cases hj
    rw [List.getElem?_set_self hl] at hj
    cases hj
    exact ⟨v, List.getElem?_set_self (by rw [r.1]; exact hl), h⟩
  · rw [List.getElem?_set_ne q] at hj
    obtain ⟨v', h1, h2⟩ := r.2 j e hj
    exact ⟨v', by rw [List.getElem?_set_ne q]; exact h1, h2⟩
theorem EnvR.forget (r : EnvR K B M H σ ε) (i : Nat) (o : Option V) : EnvR K B M H (σ.set i o) (ε.set i none) := by
  refine ⟨by rw [List.length_set, List.length_set, r.1], fun j e hj => ?_⟩
  by_cases q : i = j
  · subst q
    by_cases hl : i < ε.length
    · rw [List.getElem?_set_self hl] at hj; cases hj
    · rw [List.getElem?_eq_none (by rw [List.length_set]; omega)] at hj; cases hj
  · rw [List.getElem?_set_ne q] at hj
    obtain ⟨v', h1, h2⟩ := r.2 j e hj
    exact ⟨v', by rw [List.getElem?_set_ne q]; exact h1, h2⟩
end
def wipeD (ε : DSt) : List Nat → DSt
  | [] => ε
  | v :: vs => (wipeD ε vs).set v none
theorem EnvR.wipe {K : PySem.W.Frag} {B : Hp} {M : Mp} {H : Hp} {σ : St} {ε : DSt} (r : EnvR K B M H σ ε) : ∀ vs : List Nat, EnvR K B M H (L2.wipe σ vs) (wipeD ε vs)
  | [] => r
  | v :: vs => (EnvR.wipe r vs).forget v none

/-! ### what an expression, a test, .. comes to, over data -/
def Kv (P : Pr) (M : Mp) (H : Hp) (Q : D → Mp → Prop) (R : VK) : Prop := ∀ (v : V) (d : D) (M' : Mp) (H' : Hp), Tr P.K P.B M' H' v d → Good P.K P.B M' H' → Ext M H M' H' → Q d M' → R v H'
def Kb (P : Pr) (M : Mp) (H : Hp) (Q : Bool → Mp → Prop) (R : Bool → Hp → Prop) : Prop := ∀ (b : Bool) (M' : Mp) (H' : Hp), Good P.K P.B M' H' → Ext M H M' H' → Q b M' → R b H'
def Kl (P : Pr) (M : Mp) (H : Hp) (Q : List D → Mp → Prop) (R : List V → Hp → Prop) : Prop := ∀ (v : List V) (d : List D) (M' : Mp) (H' : Hp), Trs P.K P.B M' H' v d → Good P.K P.B M' H' → Ext M H M' H' → Q d M' → R v H'
def Ko (P : Pr) (M : Mp) (H : Hp) (Q : Option Int → Mp → Prop) (R : Option Int → Hp → Prop) : Prop := ∀ (v : Option Int) (M' : Mp) (H' : Hp), Good P.K P.B M' H' → Ext M H M' H' → Q v M' → R v H'
def Ke (P : Pr) (M : Mp) (H : Hp) (Q : DSt → Mp → Prop) (R : St → Hp → Prop) : Prop := ∀ (σ : St) (ε : DSt) (M' : Mp) (H' : Hp), EnvR P.K P.B M' H' σ ε → Good P.K P.B M' H' → Ext M H M' H' → Q ε M' → R σ H'
structure At (P : Pr) (ε : DSt) (M : Mp) (σ : St) (H : Hp) : Prop where
  env : EnvR P.K P.B M H σ ε
  good : Good P.K P.B M H
  link : ELink P M H
def DE (P : Pr) (te : TE) (ε : DSt) (M : Mp) (Q : D → Mp → Prop) : Prop := ∀ (σ : St) (H : Hp) (R : VK), At P ε M σ H → Kv P M H Q R → te σ H R
def DT (P : Pr) (tt : TT) (ε : DSt) (M : Mp) (Q : Bool → Mp → Prop) : Prop := ∀ (σ : St) (H : Hp) (R : Bool → Hp → Prop), At P ε M σ H → Kb P M H Q R → tt σ H R
def DA (P : Pr) (ta : TA) (ε : DSt) (M : Mp) (Q : List D → Mp → Prop) : Prop := ∀ (σ : St) (H : Hp) (R : List V → Hp → Prop), At P ε M σ H → Kl P M H Q R → ta σ H R
def DO (P : Pr) (to : TO) (ε : DSt) (M : Mp) (Q : Option Int → Mp → Prop) : Prop := ∀ (σ : St) (H : Hp) (R : Option Int → Hp → Prop), At P ε M σ H → Ko P M H Q R → to σ H R
def DG (P : Pr) (g : TG) (d : D) (ε : DSt) (M : Mp) (Q : DSt → Mp → Prop) : Prop := ∀ (v : V) (σ : St) (H : Hp) (R : St → Hp → Prop), Tr P.K P.B M H v d → At P ε M σ H → Ke P M H Q R → g v σ H R
def DGs (P : Pr) (g : TGs) (ds : List D) (ε : DSt) (M : Mp) (Q : DSt → Mp → Prop) : Prop := ∀ (vs : List V) (σ : St) (H : Hp) (R : St → Hp → Prop), Trs P.K P.B M H vs ds → At P ε M σ H → Ke P M H Q R → g vs σ H R
structure DEnds where
  nx : DSt → Mp → Prop
  rt : D → Mp → Prop
  bk : DSt → Mp → Prop := fun _ _ => False
  ct : DSt → Mp → Prop := fun _ _ => False
structure Link (P : Pr) (G : DEnds) (E : Ends) (M : Mp) (H : Hp) : Prop where
  nx : Ke P M H G.nx E.nx
  rt : Kv P M H G.rt E.rt
  bk : Ke P M H G.bk E.bk
  ct : Ke P M H G.ct E.ct
def DS (P : Pr) (t : TS) (G : DEnds) (ε : DSt) (M : Mp) : Prop := ∀ (σ : St) (H : Hp) (E : Ends), At P ε M σ H → Link P G E M H → t E σ H
/-! values -/
def D1 (P : Pr) (r : V → Hp → VK → Prop) (x : D) (M : Mp) (Q : D → Mp → Prop) : Prop := ∀ (vx : V) (H : Hp) (R : VK), Tr P.K P.B M H vx x → Good P.K P.B M H → Kv P M H Q R → r vx H R
def D2 (P : Pr) (r : R2) (x y : D) (M : Mp) (Q : D → Mp → Prop) : Prop := ∀ (vx vy : V) (H : Hp) (R : VK), Tr P.K P.B M H vx x → Tr P.K P.B M H vy y → Good P.K P.B M H → Kv P M H Q R → r vx vy H R
def DL' (P : Pr) (r : List V → Hp → VK → Prop) (xs : List D) (M : Mp) (Q : D → Mp → Prop) : Prop := ∀ (vs : List V) (H : Hp) (R : VK), Trs P.K P.B M H vs xs → Good P.K P.B M H → Kv P M H Q R → r vs H R
def DM (P : Pr) (r : V → List V → Hp → VK → Prop) (x : D) (xs : List D) (M : Mp) (Q : D → Mp → Prop) : Prop := ∀ (vx : V) (vs : List V) (H : Hp) (R : VK), Tr P.K P.B M H vx x → Trs P.K P.B M H vs xs → Good P.K P.B M H → Kv P M H Q R → r vx vs H R
def DSl (P : Pr) (r : V → Option Int → Option Int → Hp → VK → Prop) (x : D) (lo hi : Option Int) (M : Mp) (Q : D → Mp → Prop) : Prop := ∀ (vx : V) (H : Hp) (R : VK), Tr P.K P.B M H vx x → Good P.K P.B M H → Kv P M H Q R → r vx lo hi H R

section
variable {P : Pr} {M M' : Mp} {H H' : Hp} {σ : St} {ε : DSt}
theorem At.ext (a : At P ε M σ H) (g : Good P.K P.B M' H') (e : Ext M H M' H') : At P ε M' σ H' := ⟨a.env.ext e, g, a.link.ext e⟩
theorem Kv.ext {Q : D → Mp → Prop} {R : VK} (k : Kv P M H Q R) (e : Ext M H M' H') : Kv P M' H' Q R := fun v d M2 H2 t g e2 q => k v d M2 H2 t g (e.trans e2) q
theorem Kb.ext {Q : Bool → Mp → Prop} {R : Bool → Hp → Prop} (k : Kb P M H Q R) (e : Ext M H M' H') : Kb P M' H' Q R := fun b M2 H2 g e2 q => k b M2 H2 g (e.trans e2) q
theorem Kl.ext {Q : List D → Mp → Prop} {R : List V → Hp → Prop} (k : Kl P M H Q R) (e : Ext M H M' H') : Kl P M' H' Q R := fun v d M2 H2 t g e2 q => k v d M2 H2 t g (e.trans e2) q
theorem Ko.ext {Q : Option Int → Mp → Prop} {R : Option Int → Hp → Prop} (k : Ko P M H Q R) (e : Ext M H M' H') : Ko P M' H' Q R := fun b M2 H2 g e2 q => k b M2 H2 g (e.trans e2) q
theorem Ke.ext {Q : DSt → Mp → Prop} {R : St → Hp → Prop} (k : Ke P M H Q R) (e : Ext M H M' H') : Ke P M' H' Q R := fun b ε M2 H2 t g e2 q => k b ε M2 H2 t g (e.trans e2) q
theorem Link.ext {G : DEnds} {E : Ends} (l : Link P G E M H) (e : Ext M H M' H') : Link P G E M' H' := ⟨l.nx.ext e, l.rt.ext e, l.bk.ext e, l.ct.ext e⟩
theorem Kv.here {Q : D → Mp → Prop} {R : VK} {v : V} {d : D} (k : Kv P M H Q R) (t : Tr P.K P.B M H v d) (g : Good P.K P.B M H) (q : Q d M) : R v H := k v d M H t g (Ext.refl M H) q

/-! ### expressions -/
variable {Q : D → Mp → Prop} {QT : Bool → Mp → Prop} {QA : List D → Mp → Prop} {QE : DSt → Mp → Prop} {G : DEnds} {ta tb te tc : TE} {tt tu : TT} {t u : TS} {al : TA}
theorem de_var {i : Nat} {d : D} (h : ε[i]? = some (some d)) (q : Q d M) : DE P (tVar i) ε M Q := fun σ H R a k => by
  obtain ⟨v, h1, h2⟩ := a.env.2 i d h
  exact ⟨v, h1, k.here h2 a.good q⟩
theorem de_int {i : Int} (q : Q (.int i) M) : DE P (tC (.int i)) ε M Q := fun σ H R a k => k.here (.int i) a.good q
theorem de_str {x : Str} (q : Q (.str x) M) : DE P (tC (.str x)) ε M Q := fun σ H R a k => k.here (.str x) a.good q
theorem de_bl {b : Bool} (q : Q (.bl b) M) : DE P (tC (.bl b)) ε M Q := fun σ H R a k => k.here (.bl b) a.good q
theorem de_non (q : Q .non M) : DE P (tC .non) ε M Q := fun σ H R a k => k.here .non a.good q
theorem de_val {v : V} (q : Q (.val v) M) : DE P (tC v) ε M Q := fun σ H R a k => k.here (.val v) a.good q
/-- a constant that the top has written, a tuple of flat things -/
theorem de_ktup {a : Addr} {vs : List V} {ds : List D} (h : KTup P.K a vs) (r : ∀ M H, Trs P.K P.B M H vs ds) (q : Q (.tup ds) M) : DE P (tC (.ref a)) ε M Q := fun σ H R at' k => k.here (.tup (.inr h) (r M H)) at'.good q
theorem de_op {r : R2} (h : DE P ta ε M fun x M1 => DE P tb ε M1 fun y M2 => D2 P r x y M2 Q) : DE P (tOp r ta tb) ε M Q := fun σ H R a k => by
  refine h σ H _ a fun v d M1 H1 t1 g1 e1 h1 => ?_
  refine h1 σ H1 _ (a.ext g1 e1) fun w e M2 H2 t2 g2 e2 h2 => ?_
  exact h2 v w H2 R (t1.ext e2) t2 g2 (k.ext (e1.trans e2))
theorem de_un {r : V → Hp → VK → Prop} (h : DE P ta ε M fun x M1 => D1 P r x M1 Q) : DE P (tUn r ta) ε M Q := fun σ H R a k => by
  refine h σ H _ a fun v d M1 H1 t1 g1 e1 h1 => ?_
  exact h1 v H1 R t1 g1 (k.ext e1)
theorem da_nil (q : QA [] M) : DA P tNil ε M QA := fun σ H R a k => k [] [] M H .nil a.good (Ext.refl M H) q
theorem da_cons (h : DE P te ε M fun x M1 => DA P al ε M1 fun xs M2 => QA (x :: xs) M2) : DA P (tCons te al) ε M QA := fun σ H R a k => by
  refine h σ H _ a fun v d M1 H1 t1 g1 e1 h1 => ?_
  refine h1 σ H1 _ (a.ext g1 e1) fun w e M2 H2 t2 g2 e2 h2 => ?_
  exact k _ _ M2 H2 (.cons (t1.ext e2) t2) g2 (e1.trans e2) h2
theorem de_cb {r : List V → Hp → VK → Prop} (h : DA P al ε M fun xs M1 => DL' P r xs M1 Q) : DE P (tCB r al) ε M Q := fun σ H R a k => by
  refine h σ H _ a fun v d M1 H1 t1 g1 e1 h1 => ?_
  exact h1 v H1 R t1 g1 (k.ext e1)
theorem de_tup (h : DA P al ε M fun xs M1 => xs.length ≤ 1000 ∧ Q (.tup xs) M1) : DE P (tTup al) ε M Q := fun σ H R a k => by
  refine h σ H _ a fun v d M1 H1 t1 g1 e1 h1 => ?_
  refine ⟨by rw [t1.length]; exact Nat.le_of_lt (small1000 h1.1), fun p hp => ?_⟩
  exact k _ _ M1 _ (.tup (.inl ⟨upd_same, g1.free hp⟩) (t1.ext (ext_new hp))) (g1.new hp) (e1.trans (ext_new hp)) h1.2
/-- a new list, as data -/
theorem de_lst (h : DA P al ε M fun xs M1 => xs.length ≤ 1000 ∧ Q (.lst .own xs) M1) : DE P (tLst al) ε M Q := fun σ H R a k => by
  refine h σ H _ a fun v d M1 H1 t1 g1 e1 h1 => ?_
  refine ⟨by rw [t1.length]; exact Nat.le_of_lt (small1000 h1.1), fun p hp => ?_⟩
  exact k _ (.lst .own d) M1 _ (.lst (k := .own) ⟨g1.free hp, upd_same, g1.base _ hp⟩ (t1.ext (ext_new hp))) (g1.new hp) (e1.trans (ext_new hp)) h1.2
/-- a new list, as a cell -/
theorem de_lstC (h : DA P al ε M fun xs M1 => xs.length ≤ 1000 ∧ ∀ p, M1 p = none → P.B p = none → Q (.val (.ref p)) (updM M1 p (.lst xs))) : DE P (tLst al) ε M Q := fun σ H R a k => by
  refine h σ H _ a fun v d M1 H1 t1 g1 e1 h1 => ?_
  refine ⟨by rw [t1.length]; exact Nat.le_of_lt (small1000 h1.1), fun p hp => ?_⟩
  exact k _ _ _ _ (.val _) (g1.newCell (c := .lst d) hp ⟨v, upd_same, t1.ext (ext_cell hp)⟩) (e1.trans (ext_cell hp)) (h1.2 p (g1.free hp) (g1.base _ hp))
theorem de_if (h : DT P tt ε M fun b M1 => if b = true then DE P ta ε M1 Q else DE P tb ε M1 Q) : DE P (tIf tt ta tb) ε M Q := fun σ H R a k => by
  refine h σ H _ a fun b M1 H1 g1 e1 h1 => ?_
  show (if b = true then ta σ H1 R else tb σ H1 R)
  cases b with
  | true => rw [if_pos rfl] at h1 ⊢; exact h1 σ H1 R (a.ext g1 e1) (k.ext e1)
  | false => rw [if_neg Bool.false_ne_true] at h1 ⊢; exact h1 σ H1 R (a.ext g1 e1) (k.ext e1)
theorem de_and (h : DE P ta ε M fun x M1 => ∃ c, x = .bl c ∧ if c = true then DE P tb ε M1 Q else Q (.bl false) M1) : DE P (tAndV ta tb) ε M Q := fun σ H R a k => by
  refine h σ H _ a fun v d M1 H1 t1 g1 e1 h1 => ?_
  obtain ⟨c, rfl, h1⟩ := h1
  cases t1
  refine ⟨c, rfl, ?_⟩
  cases c with
  | true => rw [if_pos rfl] at h1 ⊢; exact h1 σ H1 R (a.ext g1 e1) (k.ext e1)
  | false => rw [if_neg Bool.false_ne_true] at h1 ⊢; exact (k.ext e1).here (.bl false) g1 h1
theorem de_or (h : DE P ta ε M fun x M1 => ∃ c, x = .bl c ∧ if c = true then Q (.bl true) M1 else DE P tb ε M1 Q) : DE P (tOrV ta tb) ε M Q := fun σ H R a k => by
  refine h σ H _ a fun v d M1 H1 t1 g1 e1 h1 => ?_
  obtain ⟨c, rfl, h1⟩ := h1
  cases t1
  refine ⟨c, rfl, ?_⟩
  cases c with
  | true => rw [if_pos rfl] at h1 ⊢; exact (k.ext e1).here (.bl true) g1 h1
  | false => rw [if_neg Bool.false_ne_true] at h1 ⊢; exact h1 σ H1 R (a.ext g1 e1) (k.ext e1)
theorem de_not (h : DE P ta ε M fun x M1 => ∃ c, x = .bl c ∧ Q (.bl (!c)) M1) : DE P (tNotV ta) ε M Q := fun σ H R a k => by
  refine h σ H _ a fun v d M1 H1 t1 g1 e1 h1 => ?_
  obtain ⟨c, rfl, h1⟩ := h1
  cases t1
  exact ⟨c, rfl, (k.ext e1).here (.bl _) g1 h1⟩
theorem de_chain {r r' : R2} (h : DE P ta ε M fun x M1 => DE P tb ε M1 fun y M2 => D2 P r x y M2 fun z M3 => ∃ c, z = .bl c ∧ if c = true then DE P tc ε M3 (fun w M4 => D2 P r' y w M4 Q) else Q (.bl false) M3) : DE P (tChain r r' ta tb tc) ε M Q := fun σ H R a k => by
  refine h σ H _ a fun v d M1 H1 t1 g1 e1 h1 => ?_
  refine h1 σ H1 _ (a.ext g1 e1) fun w e M2 H2 t2 g2 e2 h2 => ?_
  refine h2 v w H2 _ (t1.ext e2) t2 g2 fun z f M3 H3 t3 g3 e3 h3 => ?_
  obtain ⟨c, rfl, h3⟩ := h3
  cases t3
  refine ⟨c, rfl, ?_⟩
  have e13 := e1.trans (e2.trans e3)
  cases c with
  | true =>
    rw [if_pos rfl] at h3 ⊢
    refine h3 σ H3 _ (a.ext g3 e13) fun y' f' M4 H4 t4 g4 e4 h4 => ?_
    exact h4 w y' H4 R (t2.ext (e3.trans e4)) t4 g4 (k.ext (e13.trans e4))
  | false => rw [if_neg Bool.false_ne_true] at h3 ⊢; exact (k.ext e13).here (.bl false) g3 h3
/-! tests -/
theorem dt_test (h : DE P te ε M fun x M1 => ∃ c, x = .bl c ∧ QT c M1) : DT P (tTest te) ε M QT := fun σ H R a k => by
  refine h σ H _ a fun v d M1 H1 t1 g1 e1 h1 => ?_
  obtain ⟨c, rfl, h1⟩ := h1
  cases t1
  exact ⟨c, rfl, k c M1 H1 g1 e1 h1⟩
theorem dt_B (h : DE P te ε M fun x M1 => ∃ c, x = .bl c ∧ QT c M1) : DT P (tB te) ε M QT := dt_test h
theorem dt_and (h : DT P tt ε M fun c M1 => if c = true then DT P tu ε M1 QT else QT false M1) : DT P (tAnd tt tu) ε M QT := fun σ H R a k => by
  refine h σ H _ a fun c M1 H1 g1 e1 h1 => ?_
  show (if c = true then tu σ H1 R else R false H1)
  cases c with
  | true => rw [if_pos rfl] at h1 ⊢; exact h1 σ H1 R (a.ext g1 e1) (k.ext e1)
  | false => rw [if_neg Bool.false_ne_true] at h1 ⊢; exact k false M1 H1 g1 e1 h1
theorem dt_or (h : DT P tt ε M fun c M1 => if c = true then QT true M1 else DT P tu ε M1 QT) : DT P (tOr tt tu) ε M QT := fun σ H R a k => by
  refine h σ H _ a fun c M1 H1 g1 e1 h1 => ?_
  show (if c = true then R true H1 else tu σ H1 R)
  cases c with
  | true => rw [if_pos rfl] at h1 ⊢; exact k true M1 H1 g1 e1 h1
  | false => rw [if_neg Bool.false_ne_true] at h1 ⊢; exact h1 σ H1 R (a.ext g1 e1) (k.ext e1)
theorem dt_not (h : DT P tt ε M fun c M1 => QT (!c) M1) : DT P (tNot tt) ε M QT := fun σ H R a k => by
  refine h σ H _ a fun c M1 H1 g1 e1 h1 => ?_
  exact k _ M1 H1 g1 e1 h1
theorem dt_yes (q : QT true M) : DT P tYes ε M QT := fun σ H R a k => k true M H a.good (Ext.refl M H) q
/-! targets -/
theorem dg_name {i : Nat} {d : D} (q : QE (ε.set i (some d)) M) : DG P (gName i) d ε M QE := fun v σ H R t a k => k _ _ M H (a.env.set t) a.good (Ext.refl M H) q
theorem dgs_nil (q : QE ε M) : DGs P gNil [] ε M QE := fun vs σ H R t a k => by
  cases t
  exact ⟨rfl, k _ _ M H a.env a.good (Ext.refl M H) q⟩
theorem dgs_cons {g : TG} {gs : TGs} {d : D} {ds : List D} (h : DG P g d ε M fun ε1 M1 => DGs P gs ds ε1 M1 QE) : DGs P (gCons g gs) (d :: ds) ε M QE := fun vs σ H R t a k => by
  cases t with
  | cons t r =>
    refine ⟨_, _, rfl, h _ σ H _ t a fun σ1 ε1 M1 H1 r1 g1 e1 h1 => ?_⟩
    exact h1 _ σ1 H1 R (r.ext e1) ⟨r1, g1, a.link.ext e1⟩ (k.ext e1)
theorem dg_tup {n : Nat} {gs : TGs} {ds : List D} (hn : ds.length = n) (h : DGs P gs ds ε M QE) : DG P (gTup P.K n gs) (.tup ds) ε M QE := fun v σ H R t a k => by
  cases t with
  | @tup p vs ds h' r =>
    refine ⟨p, vs, rfl, ?_, by rw [r.length]; exact hn, h vs σ H R r a k⟩
    rcases h' with h' | h'
    · exact .inl (.inl h'.1)
    · exact .inr h'
/-! statements -/
theorem ds_seq (h : DS P t { G with nx := fun ε1 M1 => DS P u G ε1 M1 } ε M) : DS P (tSeq t u) G ε M := fun σ H E a l => by
  refine h σ H _ a ⟨fun σ1 ε1 M1 H1 r1 g1 e1 h1 => ?_, l.rt, l.bk, l.ct⟩
  exact h1 σ1 H1 E ⟨r1, g1, a.link.ext e1⟩ (l.ext e1)
theorem ds_next (q : G.nx ε M) : DS P tNext G ε M := fun σ H E a l => l.nx σ ε M H a.env a.good (Ext.refl M H) q
theorem ds_break (q : G.bk ε M) : DS P tBreak G ε M := fun σ H E a l => l.bk σ ε M H a.env a.good (Ext.refl M H) q
theorem ds_cont (q : G.ct ε M) : DS P tCont G ε M := fun σ H E a l => l.ct σ ε M H a.env a.good (Ext.refl M H) q
theorem ds_drop (h : DE P te ε M fun _ M1 => G.nx ε M1) : DS P (tDrop te) G ε M := fun σ H E a l => by
  refine h σ H _ a fun v d M1 H1 t1 g1 e1 h1 => ?_
  exact l.nx σ ε M1 H1 (a.env.ext e1) g1 e1 h1
theorem ds_ret (h : DE P te ε M G.rt) : DS P (tRet te) G ε M := fun σ H E a l => h σ H _ a l.rt
theorem ds_retN (h : G.rt .non M) : DS P tRetN G ε M := fun σ H E a l => l.rt.here .non a.good h
theorem ds_if (h : DT P tt ε M fun b M1 => if b = true then DS P t G ε M1 else DS P u G ε M1) : DS P (tIfS tt t u) G ε M := fun σ H E a l => by
  refine h σ H _ a fun b M1 H1 g1 e1 h1 => ?_
  show (if b = true then t E σ H1 else u E σ H1)
  cases b with
  | true => rw [if_pos rfl] at h1 ⊢; exact h1 σ H1 E (a.ext g1 e1) (l.ext e1)
  | false => rw [if_neg Bool.false_ne_true] at h1 ⊢; exact h1 σ H1 E (a.ext g1 e1) (l.ext e1)
theorem ds_asg {g : TG} (h : DE P te ε M fun d M1 => DG P g d ε M1 G.nx) : DS P (tAsg te g) G ε M := fun σ H E a l => by
  refine h σ H _ a fun v d M1 H1 t1 g1 e1 h1 => ?_
  exact h1 v σ H1 _ t1 (a.ext g1 e1) (l.nx.ext e1)
theorem ds_par {i j : Nat} (h : DA P al ε M fun ds M1 => ∃ d e, ds = [d, e] ∧ G.nx ((ε.set i (some d)).set j (some e)) M1) : DS P (tPar i j al) G ε M := fun σ H E a l => by
  refine h σ H _ a fun v ds M1 H1 t1 g1 e1 h1 => ?_
  obtain ⟨d, e, rfl, h1⟩ := h1
  cases t1 with
  | cons t1 r1 =>
    cases r1 with
    | cons t2 r2 =>
      cases r2
      exact ⟨_, _, rfl, l.nx _ _ M1 H1 (((a.env.ext e1).set t1).set t2) g1 e1 h1⟩
/-- what is known may be forgotten, the state told otherwise -/
theorem ds_imp {G' : DEnds} (h : DS P t G' ε M) (hn : ∀ ε M, G'.nx ε M → G.nx ε M) (hr : ∀ d M, G'.rt d M → G.rt d M) (hb : ∀ ε M, G'.bk ε M → G.bk ε M) (hc : ∀ ε M, G'.ct ε M → G.ct ε M) : DS P t G ε M := fun σ H E a l =>
  h σ H E a ⟨fun σ1 ε1 M1 H1 r g e q => l.nx σ1 ε1 M1 H1 r g e (hn _ _ q), fun v d M1 H1 r g e q => l.rt v d M1 H1 r g e (hr _ _ q), fun σ1 ε1 M1 H1 r g e q => l.bk σ1 ε1 M1 H1 r g e (hb _ _ q), fun σ1 ε1 M1 H1 r g e q => l.ct σ1 ε1 M1 H1 r g e (hc _ _ q)⟩
theorem de_imp {Q' : D → Mp → Prop} (h : DE P te ε M Q') (hq : ∀ d M, Q' d M → Q d M) : DE P te ε M Q := fun σ H R a k => h σ H R a fun v d M1 H1 r g e q => k v d M1 H1 r g e (hq _ _ q)
end
end DL

namespace DL
open PySem L2

/-! ### lists that are read -/
inductive IsL (M : Mp) : D → List D → Prop
  | own (ds : List D) : IsL M (.lst .own ds) ds
  | arg (ds : List D) : IsL M (.lst .arg ds) ds
  | cell {a : Addr} {ds : List D} (h : M a = some (.lst ds)) : IsL M (.val (.ref a)) ds
/-- lists that may be locked, tuples -/
inductive IsS (M : Mp) : D → List D → Prop
  | lst {d : D} {ds : List D} (h : IsL M d ds) : IsS M d ds
  | frz (ds : List D) : IsS M (.lst .frz ds) ds
  | tup (ds : List D) : IsS M (.tup ds) ds
section
variable {P : Pr} {K : PySem.W.Frag} {B : Hp} {M : Mp} {H : Hp}
theorem IsL.at {d : D} {ds : List D} {v : V} (h : IsL M d ds) (t : Tr K B M H v d) (g : Good K B M H) : ∃ a vs, v = .ref a ∧ H a = some (.lst vs) ∧ Trs K B M H vs ds := by
  cases h with
  | own => cases t with
    | lst h r => exact ⟨_, _, rfl, h.2.1, r⟩
  | arg => cases t with
    | lst h r => exact ⟨_, _, rfl, h.2, r⟩
  | cell h => cases t with
    | val =>
      obtain ⟨vs, h1, h2⟩ := g.cell _ _ h
      exact ⟨_, vs, rfl, h1, h2⟩
theorem IsS.at {d : D} {ds : List D} {v : V} (h : IsS M d ds) (t : Tr K B M H v d) (g : Good K B M H) : ∃ a vs, v = .ref a ∧ (SqL K H a vs ∨ SqT K H a vs) ∧ Trs K B M H vs ds := by
  cases h with
  | lst h =>
    obtain ⟨a, vs, e, h1, h2⟩ := h.at t g
    exact ⟨a, vs, e, .inl (.inl (.inl h1)), h2⟩
  | frz => cases t with
    | lst h r => exact ⟨_, _, rfl, .inl h.sq, r⟩
  | tup => cases t with
    | tup h r =>
      rcases h with h | h
      · exact ⟨_, _, rfl, .inr (.inl (.inl h.1)), r⟩
      · exact ⟨_, _, rfl, .inr (.inr h), r⟩
theorem tup_at {ds : List D} {v : V} (t : Tr K B M H v (.tup ds)) : ∃ a vs, v = .ref a ∧ SqT K H a vs ∧ Trs K B M H vs ds := by
  cases t with
  | tup h r =>
    rcases h with h | h
    · exact ⟨_, _, rfl, .inl (.inl h.1), r⟩
    · exact ⟨_, _, rfl, .inr h, r⟩
theorem ixn_len {α β : Type} {xs : List α} {ys : List β} (h : xs.length = ys.length) (i : Int) : ixN xs.length i = ixN ys.length i := by rw [h]
theorem atI_tr {vs : List V} {ds : List D} {i : Int} {d : D} (r : Trs K B M H vs ds) (h : atI ds i = some d) : ∃ v, atI vs i = some v ∧ Tr K B M H v d := by
  unfold atI at h ⊢
  rw [r.length]
  cases e : ixN ds.length i with
  | none => rw [e] at h; cases h
  | some j =>
    rw [e] at h
    exact r.get h
end
def cutD (xs : List D) (lo hi : Option Int) : List D := (xs.drop (HT.sIx xs.length 0 lo)).take (HT.sIx xs.length xs.length hi - HT.sIx xs.length 0 lo)
theorem trs_cut {K : PySem.W.Frag} {B : Hp} {M : Mp} {H : Hp} {vs : List V} {ds : List D} (r : Trs K B M H vs ds) (lo hi : Option Int) : Trs K B M H (cutV vs lo hi) (cutD ds lo hi) := by
  unfold cutV cutD
  rw [r.length]
  exact (r.drop _).take _

/-! ### operators -/
def rAddS : R2 := fun x y H Q => ∃ i j, x = .str i ∧ y = .str j ∧ i.length + j.length ≤ sizeLine ∧ Q (.str (i ++ j)) H
def rAdd4 (K : PySem.W.Frag) : R2 := fun x y H Q => rI0 (fun i j => .int (i + j)) x y H Q ∨ (rAddS x y H Q ∨ (rCat x y H Q ∨ rCatA K x y H Q))
theorem op_add4 {X : Cx} : OpR X (binaryOp .Add) (rAdd4 X.K) := OpR.or op_add (OpR.or op_add_str (OpR.or op_cat op_catA))
def rMul2 : R2 := fun x y H Q => rI CMul (fun i j => .int (i * j)) x y H Q ∨ rRep x y H Q
theorem op_mul2 {X : Cx} : OpR X (binaryOp .Mult) rMul2 := OpR.or op_mul op_rep
/-- a list against an empty one -/
def rEqE (K : PySem.W.Frag) : R2 := fun x y H Q => ∃ a b xs, x = .ref a ∧ y = .ref b ∧ SqL K H a xs ∧ SqL K H b [] ∧ Q (.bl xs.isEmpty) H
def rNeE (K : PySem.W.Frag) : R2 := fun x y H Q => ∃ a b xs, x = .ref a ∧ y = .ref b ∧ SqL K H a xs ∧ SqL K H b [] ∧ Q (.bl (!xs.isEmpty)) H
section
variable {X : Cx}
theorem op_eqE (hu : X.A.units < cLine) : OpR X (compareOp .Eq) (rEqE X.K) := by
  intro pins s σ H x y v u Q I rx ry h
  obtain ⟨a, b, xs, rfl, rfl, ha, hb, q⟩ := h
  cases rx
  cases ry
  obtain ⟨its, r1, p1, _⟩ := I.list ha
  obtain ⟨its2, r2, p2, _⟩ := I.list hb
  cases r2
  cases r1 with
  | nil => exact SeqAt.eq_listAt (e := fun _ => true) p1.isList p2.isList rfl hu (fun j h1 h2 => absurd h1 (Nat.not_lt_zero j)) ⟨.bl true, H, I, rfl, q⟩
  | cons r t => exact SeqAt.eq_list_lengthsAt p1.isList p2.isList (by simp) hu ⟨.bl false, H, I, rfl, q⟩
theorem op_neE (hu : X.A.units < cLine) : OpR X (compareOp .NotEq) (rNeE X.K) := by
  intro pins s σ H x y v u Q I rx ry h
  obtain ⟨a, b, xs, rfl, rfl, ha, hb, q⟩ := h
  cases rx
  cases ry
  obtain ⟨its, r1, p1, _⟩ := I.list ha
  obtain ⟨its2, r2, p2, _⟩ := I.list hb
  cases r2
  cases r1 with
  | nil => exact SeqAt.RcNeAt.lists (e := fun _ => true) p1.isList p2.isList rfl hu (fun j h1 h2 => absurd h1 (Nat.not_lt_zero j)) X.prog X.w X.xe _ ⟨.bl false, H, I, rfl, q⟩
  | cons r t => exact SeqAt.RcNeAt.lists_lengths p1.isList p2.isList (by simp) hu X.prog X.w X.xe _ ⟨.bl true, H, I, rfl, q⟩
def rEq3 (K : PySem.W.Frag) : R2 := fun x y H Q => rEq x y H Q ∨ (rEqE K x y H Q ∨ rEqD K x y H Q)
def rNe3 (K : PySem.W.Frag) : R2 := fun x y H Q => rNe x y H Q ∨ (rNeE K x y H Q ∨ rNeD K x y H Q)
theorem op_eq3 {k : Nat} (hr : Room k X.A) : OpR X (compareOp .Eq) (rEq3 X.K) := OpR.or op_eq (OpR.or (op_eqE hr.units0) (op_eqD hr.units))
theorem op_ne3 {k : Nat} (hr : Room k X.A) : OpR X (compareOp .NotEq) (rNe3 X.K) := OpR.or op_ne (OpR.or (op_neE hr.units0) (op_neD hr.units))
def rInS0 : R2 := fun x y H Q => ∃ i j, x = .str i ∧ y = .str j ∧ Q (.bl (!(Builtin.Str.occurrences j i 0 j.length 1).isEmpty)) H
def rNotInS0 : R2 := fun x y H Q => ∃ i j, x = .str i ∧ y = .str j ∧ Q (.bl (!(!(Builtin.Str.occurrences j i 0 j.length 1).isEmpty))) H
def rInSg : R2 := fun x y H Q => ∃ (c : Nat) (z : Str), x = .str ⟨#[c]⟩ ∧ y = .str z ∧ Q (.bl (decide (c ∈ z.cps.toList))) H
def rNotInSg : R2 := fun x y H Q => ∃ (c : Nat) (z : Str), x = .str ⟨#[c]⟩ ∧ y = .str z ∧ Q (.bl (!decide (c ∈ z.cps.toList))) H
def rIn2 (K : PySem.W.Frag) : R2 := fun x y H Q => rIn K false x y H Q ∨ rInSg x y H Q
def rNotIn2 (K : PySem.W.Frag) : R2 := fun x y H Q => rIn K true x y H Q ∨ rNotInSg x y H Q
theorem op_in2 : OpR X (compareOp .In) (rIn2 X.K) := OpR.or op_in_seq op_in_sign
theorem op_notIn2 : OpR X (compareOp .NotIn) (rNotIn2 X.K) := OpR.or op_notIn_seq op_notIn_sign
def rSl3 (K : PySem.W.Frag) : V → Option Int → Option Int → Hp → VK → Prop := fun x lo hi H Q => rSlL K x lo hi H Q ∨ (rSlA K x lo hi H Q ∨ rSlS x lo hi H Q)
theorem sl_3 : SlR X (rSl3 X.K) := SlR.or sl_list (SlR.or sl_tupA sl_str)
end
section
variable {P : Pr} {M : Mp} {Q : D → Mp → Prop}
theorem d2_I0 {g : Int → Int → V} {g' : Int → Int → D} {i j : Int} (hg : ∀ K B M H, Tr K B M H (g i j) (g' i j)) (q : Q (g' i j) M) : D2 P (rI0 g) (.int i) (.int j) M Q := by
  intro vx vy H R rx ry gd k
  cases rx
  cases ry
  exact ⟨i, j, rfl, rfl, k.here (hg _ _ _ _) gd q⟩
theorem d2_I {C : Int → Int → Prop} {g : Int → Int → V} {g' : Int → Int → D} {i j : Int} (hg : ∀ K B M H, Tr K B M H (g i j) (g' i j)) (c : C i j) (q : Q (g' i j) M) : D2 P (rI C g) (.int i) (.int j) M Q := by
  intro vx vy H R rx ry gd k
  cases rx
  cases ry
  exact ⟨i, j, rfl, rfl, c, k.here (hg _ _ _ _) gd q⟩
theorem d2_add_int {i j : Int} (q : Q (.int (i + j)) M) : D2 P (rAdd4 P.K) (.int i) (.int j) M Q := fun vx vy H R rx ry gd k =>
  .inl (d2_I0 (g := fun i j => .int (i + j)) (g' := fun i j => .int (i + j)) (fun _ _ _ _ => .int _) q vx vy H R rx ry gd k)
theorem d2_add_str {i j : Str} (h : i.length + j.length ≤ 100000) (q : Q (.str (i ++ j)) M) : D2 P (rAdd4 P.K) (.str i) (.str j) M Q := by
  intro vx vy H R rx ry gd k
  cases rx
  cases ry
  exact .inr (.inl ⟨i, j, rfl, rfl, Nat.le_trans h (by decide), k.here (.str _) gd q⟩)
theorem d2_add_lst {x y : D} {xs ys : List D} (hx : IsL M x xs) (hy : IsL M y ys) (h : xs.length + ys.length ≤ 100000) (q : Q (.lst .own (xs ++ ys)) M) : D2 P (rAdd4 P.K) x y M Q := by
  intro vx vy H R rx ry gd k
  obtain ⟨a, vs, rfl, h1, r1⟩ := hx.at rx gd
  obtain ⟨b, ws, rfl, h2, r2⟩ := hy.at ry gd
  refine .inr (.inr (.inl ⟨a, b, vs, ws, rfl, rfl, h1, h2, by rw [r1.length, r2.length]; exact Nat.le_trans h (by decide), fun p hp => ?_⟩))
  exact k _ (.lst .own (xs ++ ys)) M _ (.lst (k := .own) ⟨gd.free hp, upd_same, gd.base _ hp⟩ ((r1.append r2).ext (ext_new hp))) (gd.new hp) (ext_new hp) q
theorem d2_add_lstC {x y : D} {xs ys : List D} (hx : IsL M x xs) (hy : IsL M y ys) (h : xs.length + ys.length ≤ 100000) (q : ∀ p, M p = none → P.B p = none → Q (.val (.ref p)) (updM M p (.lst (xs ++ ys)))) : D2 P (rAdd4 P.K) x y M Q := by
  intro vx vy H R rx ry gd k
  obtain ⟨a, vs, rfl, h1, r1⟩ := hx.at rx gd
  obtain ⟨b, ws, rfl, h2, r2⟩ := hy.at ry gd
  refine .inr (.inr (.inl ⟨a, b, vs, ws, rfl, rfl, h1, h2, by rw [r1.length, r2.length]; exact Nat.le_trans h (by decide), fun p hp => ?_⟩))
  exact k _ _ _ _ (.val _) (gd.newCell (c := .lst (xs ++ ys)) hp ⟨_, upd_same, (r1.append r2).ext (ext_cell hp)⟩) (ext_cell hp) (q p (gd.free hp) (gd.base _ hp))
theorem d2_add_tup {xs ys : List D} (h : xs.length + ys.length ≤ 100000) (q : Q (.tup (xs ++ ys)) M) : D2 P (rAdd4 P.K) (.tup xs) (.tup ys) M Q := by
  intro vx vy H R rx ry gd k
  have rx' := rx
  have ry' := ry
  obtain ⟨a, vs, rfl, h1, r1⟩ := tup_at rx
  obtain ⟨b, ws, rfl, h2, r2⟩ := tup_at ry
  refine .inr (.inr (.inr ⟨a, b, vs, ws, rfl, rfl, h1, h2, by rw [r1.length, r2.length]; exact Nat.le_trans h (by decide), fun e => ?_, fun _ e => ?_, fun _ _ p hp => ?_⟩))
  · subst e
    cases r1
    exact k.here ry' gd q
  · subst e
    cases r2
    rw [List.append_nil] at q
    exact k.here rx' gd q
  · exact k _ (.tup (xs ++ ys)) M _ (.tup (.inl ⟨upd_same, gd.free hp⟩) ((r1.append r2).ext (ext_new hp))) (gd.new hp) (ext_new hp) q
theorem d2_sub {i j : Int} (q : Q (.int (i - j)) M) : D2 P (rI0 fun i j => .int (i - j)) (.int i) (.int j) M Q := d2_I0 (g' := fun i j => .int (i - j)) (fun _ _ _ _ => .int _) q
theorem d2_mul {i j : Int} (c : CMul i j) (q : Q (.int (i * j)) M) : D2 P rMul2 (.int i) (.int j) M Q := fun vx vy H R rx ry gd k =>
  .inl (d2_I (g := fun i j => .int (i * j)) (g' := fun i j => .int (i * j)) (fun _ _ _ _ => .int _) c q vx vy H R rx ry gd k)
theorem d2_modN {i j : Int} (c : j ≠ 0) (q : Q (.int (i.fmod j)) M) : D2 P (rI (fun _ j => j ≠ 0) fun i j => .int (i.fmod j)) (.int i) (.int j) M Q := d2_I (g' := fun i j => .int (i.fmod j)) (fun _ _ _ _ => .int _) c q
theorem d2_fdivN {i j : Int} (c : CDivN i j) (q : Q (.int (i.fdiv j)) M) : D2 P (rI CDivN fun i j => .int (i.fdiv j)) (.int i) (.int j) M Q := d2_I (g' := fun i j => .int (i.fdiv j)) (fun _ _ _ _ => .int _) c q
theorem d2_pow {i j : Int} (c : CPow i j) (q : Q (.int (i ^ j.toNat)) M) : D2 P (rI CPow fun i j => .int (i ^ j.toNat)) (.int i) (.int j) M Q := d2_I (g' := fun i j => .int (i ^ j.toNat)) (fun _ _ _ _ => .int _) c q
theorem d2_lt {i j : Int} (q : Q (.bl (decide (i < j))) M) : D2 P (rI0 fun i j => .bl (decide (i < j))) (.int i) (.int j) M Q := d2_I0 (g' := fun i j => .bl (decide (i < j))) (fun _ _ _ _ => .bl _) q
theorem d2_le {i j : Int} (q : Q (.bl (decide (i ≤ j))) M) : D2 P (rI0 fun i j => .bl (decide (i ≤ j))) (.int i) (.int j) M Q := d2_I0 (g' := fun i j => .bl (decide (i ≤ j))) (fun _ _ _ _ => .bl _) q
theorem d2_gt {i j : Int} (q : Q (.bl (decide (j < i))) M) : D2 P (rI0 fun i j => .bl (decide (j < i))) (.int i) (.int j) M Q := d2_I0 (g' := fun i j => .bl (decide (j < i))) (fun _ _ _ _ => .bl _) q
theorem d2_ge {i j : Int} (q : Q (.bl (decide (j ≤ i))) M) : D2 P (rI0 fun i j => .bl (decide (j ≤ i))) (.int i) (.int j) M Q := d2_I0 (g' := fun i j => .bl (decide (j ≤ i))) (fun _ _ _ _ => .bl _) q
/-! == -/
theorem d2_eq_int {i j : Int} (q : Q (.bl (decide (i = j))) M) : D2 P (rEq3 P.K) (.int i) (.int j) M Q := by
  intro vx vy H R rx ry gd k
  cases rx
  cases ry
  refine .inl ⟨rfl, k.here ?_ gd q⟩
  rw [show decide (V.int i = V.int j) = decide (i = j) from decide_eq_decide.mpr ⟨fun e => V.int.inj e, fun e => congrArg V.int e⟩]
  exact .bl _
theorem d2_eq_str {i j : Str} (q : Q (.bl (decide (i = j))) M) : D2 P (rEq3 P.K) (.str i) (.str j) M Q := by
  intro vx vy H R rx ry gd k
  cases rx
  cases ry
  refine .inl ⟨rfl, k.here ?_ gd q⟩
  rw [show decide (V.str i = V.str j) = decide (i = j) from decide_eq_decide.mpr ⟨fun e => V.str.inj e, fun e => congrArg V.str e⟩]
  exact .bl _
theorem d2_eq_bl {i j : Bool} (q : Q (.bl (decide (i = j))) M) : D2 P (rEq3 P.K) (.bl i) (.bl j) M Q := by
  intro vx vy H R rx ry gd k
  cases rx
  cases ry
  refine .inl ⟨rfl, k.here ?_ gd q⟩
  rw [show decide (V.bl i = V.bl j) = decide (i = j) from decide_eq_decide.mpr ⟨fun e => V.bl.inj e, fun e => congrArg V.bl e⟩]
  exact .bl _
theorem d2_ne_int {i j : Int} (q : Q (.bl (!decide (i = j))) M) : D2 P (rNe3 P.K) (.int i) (.int j) M Q := by
  intro vx vy H R rx ry gd k
  cases rx
  cases ry
  refine .inl ⟨rfl, k.here ?_ gd q⟩
  rw [show decide (V.int i = V.int j) = decide (i = j) from decide_eq_decide.mpr ⟨fun e => V.int.inj e, fun e => congrArg V.int e⟩]
  exact .bl _
theorem d2_ne_str {i j : Str} (q : Q (.bl (!decide (i = j))) M) : D2 P (rNe3 P.K) (.str i) (.str j) M Q := by
  intro vx vy H R rx ry gd k
  cases rx
  cases ry
  refine .inl ⟨rfl, k.here ?_ gd q⟩
  rw [show decide (V.str i = V.str j) = decide (i = j) from decide_eq_decide.mpr ⟨fun e => V.str.inj e, fun e => congrArg V.str e⟩]
  exact .bl _
theorem d2_ne_bl {i j : Bool} (q : Q (.bl (!decide (i = j))) M) : D2 P (rNe3 P.K) (.bl i) (.bl j) M Q := by
  intro vx vy H R rx ry gd k
  cases rx
  cases ry
  refine .inl ⟨rfl, k.here ?_ gd q⟩
  rw [show decide (V.bl i = V.bl j) = decide (i = j) from decide_eq_decide.mpr ⟨fun e => V.bl.inj e, fun e => congrArg V.bl e⟩]
  exact .bl _
theorem empty_len {α β : Type} {xs : List α} {ys : List β} (h : xs.length = ys.length) : xs.isEmpty = ys.isEmpty := by
  cases xs <;> cases ys <;> first | rfl | (simp at h)
theorem d2_eqE {x y : D} {xs : List D} (hx : IsL M x xs) (hy : IsL M y []) (q : Q (.bl xs.isEmpty) M) : D2 P (rEq3 P.K) x y M Q := by
  intro vx vy H R rx ry gd k
  obtain ⟨a, vs, rfl, h1, r1⟩ := hx.at rx gd
  obtain ⟨b, ws, rfl, h2, r2⟩ := hy.at ry gd
  cases r2
  refine .inr (.inl ⟨a, b, vs, rfl, rfl, .inl (.inl h1), .inl (.inl h2), ?_⟩)
  rw [empty_len r1.length]
  exact k.here (.bl _) gd q
theorem d2_neE {x y : D} {xs : List D} (hx : IsL M x xs) (hy : IsL M y []) (q : Q (.bl (!xs.isEmpty)) M) : D2 P (rNe3 P.K) x y M Q := by
  intro vx vy H R rx ry gd k
  obtain ⟨a, vs, rfl, h1, r1⟩ := hx.at rx gd
  obtain ⟨b, ws, rfl, h2, r2⟩ := hy.at ry gd
  cases r2
  refine .inr (.inl ⟨a, b, vs, rfl, rfl, .inl (.inl h1), .inl (.inl h2), ?_⟩)
  rw [empty_len r1.length]
  exact k.here (.bl _) gd q
/-! None, is -/
theorem d2_isN {x : D} (h : (∃ b, x = .bl b) ∨ (∃ i, x = .int i) ∨ (∃ s, x = .str s) ∨ (∃ ds, x = .tup ds) ∨ (∃ k ds, x = .lst k ds)) (q : Q (.bl false) M) : D2 P (fun x y H Q => y = .non ∧ Q (.bl (decide (x = .non))) H) x .non M Q := by
  intro vx vy H R rx ry gd k
  cases ry
  have e : decide (vx = V.non) = false := by
    rcases h with ⟨_, rfl⟩ | ⟨_, rfl⟩ | ⟨_, rfl⟩ | ⟨_, rfl⟩ | ⟨_, _, rfl⟩ <;> cases rx <;> rfl
  refine ⟨rfl, ?_⟩
  rw [e]
  exact k.here (.bl _) gd q
theorem d2_isN0 (q : Q (.bl true) M) : D2 P (fun x y H Q => y = .non ∧ Q (.bl (decide (x = .non))) H) .non .non M Q := by
  intro vx vy H R rx ry gd k
  cases rx
  cases ry
  exact ⟨rfl, k.here (.bl _) gd q⟩
theorem d2_notN {x : D} (h : (∃ b, x = .bl b) ∨ (∃ i, x = .int i) ∨ (∃ s, x = .str s) ∨ (∃ ds, x = .tup ds) ∨ (∃ k ds, x = .lst k ds)) (q : Q (.bl true) M) : D2 P (fun x y H Q => y = .non ∧ Q (.bl (!decide (x = .non))) H) x .non M Q := by
  intro vx vy H R rx ry gd k
  cases ry
  have e : decide (vx = V.non) = false := by
    rcases h with ⟨_, rfl⟩ | ⟨_, rfl⟩ | ⟨_, rfl⟩ | ⟨_, rfl⟩ | ⟨_, _, rfl⟩ <;> cases rx <;> rfl
  refine ⟨rfl, ?_⟩
  rw [e]
  exact k.here (.bl _) gd q
theorem d2_notN0 (q : Q (.bl false) M) : D2 P (fun x y H Q => y = .non ∧ Q (.bl (!decide (x = .non))) H) .non .non M Q := by
  intro vx vy H R rx ry gd k
  cases rx
  cases ry
  exact ⟨rfl, k.here (.bl _) gd q⟩
/-! in -/
/-- data without a heap -/
def flatD : D → Bool
  | .non | .bl _ | .int _ | .str _ => true
  | _ => false
def flatOf : D → V
  | .bl b => .bl b
  | .int i => .int i
  | .str x => .str x
  | _ => .non
theorem flat_tr {K B M H} {v : V} {d : D} (h : flatD d = true) (t : Tr K B M H v d) : v = flatOf d ∧ flatV v = true := by
  cases t <;> first | exact ⟨rfl, rfl⟩ | cases h
theorem flat_trs {K B M H} {vs : List V} {ds : List D} (h : ds.all flatD = true) (t : Trs K B M H vs ds) : vs = ds.map flatOf ∧ vs.all flatV = true := by
  induction ds generalizing vs with
  | nil => cases t; exact ⟨rfl, rfl⟩
  | cons d ds ih =>
    cases t with
    | cons t r =>
      rw [List.all_cons, Bool.and_eq_true] at h
      obtain ⟨e1, f1⟩ := flat_tr h.1 t
      obtain ⟨e2, f2⟩ := ih h.2 r
      refine ⟨by rw [List.map_cons, ← e1, ← e2], by rw [List.all_cons, f1, f2] <;> rfl⟩
theorem d2_in {x y : D} {ys : List D} (hy : IsS M y ys) (fx : flatD x = true) (fy : ys.all flatD = true) (q : Q (.bl (inV (flatOf x) (ys.map flatOf))) M) : D2 P (rIn2 P.K) x y M Q := by
  intro vx vy H R rx ry gd k
  obtain ⟨a, vs, rfl, h1, r1⟩ := hy.at ry gd
  obtain ⟨e1, f1⟩ := flat_tr fx rx
  obtain ⟨e2, f2⟩ := flat_trs fy r1
  subst e1 e2
  exact .inl ⟨a, _, rfl, h1, f1, f2, k.here (.bl _) gd q⟩
theorem d2_notIn {x y : D} {ys : List D} (hy : IsS M y ys) (fx : flatD x = true) (fy : ys.all flatD = true) (q : Q (.bl (!inV (flatOf x) (ys.map flatOf))) M) : D2 P (rNotIn2 P.K) x y M Q := by
  intro vx vy H R rx ry gd k
  obtain ⟨a, vs, rfl, h1, r1⟩ := hy.at ry gd
  obtain ⟨e1, f1⟩ := flat_tr fx rx
  obtain ⟨e2, f2⟩ := flat_trs fy r1
  subst e1 e2
  exact .inl ⟨a, _, rfl, h1, f1, f2, k.here (.bl _) gd q⟩
theorem d2_inS {c : Nat} {z : Str} (q : Q (.bl (decide (c ∈ z.cps.toList))) M) : D2 P (rIn2 P.K) (.str ⟨#[c]⟩) (.str z) M Q := by
  intro vx vy H R rx ry gd k
  cases rx
  cases ry
  exact .inr ⟨c, z, rfl, rfl, k.here (.bl _) gd q⟩
theorem d2_notInS {c : Nat} {z : Str} (q : Q (.bl (!decide (c ∈ z.cps.toList))) M) : D2 P (rNotIn2 P.K) (.str ⟨#[c]⟩) (.str z) M Q := by
  intro vx vy H R rx ry gd k
  cases rx
  cases ry
  exact .inr ⟨c, z, rfl, rfl, k.here (.bl _) gd q⟩
/-! subscripts -/
theorem d2_ix {x : D} {xs : List D} {i : Int} {d : D} (hx : IsS M x xs) (h : atI xs i = some d) (q : Q d M) : D2 P (rIx P.K) x (.int i) M Q := by
  intro vx vy H R rx ry gd k
  obtain ⟨a, vs, rfl, h1, r1⟩ := hx.at rx gd
  cases ry
  obtain ⟨v, e, t⟩ := atI_tr r1 h
  rcases h1 with h1 | h1
  · exact .inl ⟨a, vs, i, v, rfl, rfl, h1, e, k.here t gd q⟩
  · exact .inr (.inl ⟨a, vs, i, v, rfl, rfl, h1, e, k.here t gd q⟩)
theorem d2_ixS {z : Str} {i : Int} {c : Nat} (hz : z.length ≤ 100000) (h : atI z.cps.toList i = some c) (q : Q (.str ⟨#[c]⟩) M) : D2 P (rIx P.K) (.str z) (.int i) M Q := by
  intro vx vy H R rx ry gd k
  cases rx
  cases ry
  exact .inr (.inr ⟨z, i, c, rfl, rfl, Nat.le_trans hz (by decide), h, k.here (.str _) gd q⟩)
theorem do_none {ε : DSt} {QO : Option Int → Mp → Prop} (q : QO none M) : DO P tNoPart ε M QO := fun σ H R a k => k none M H a.good (Ext.refl M H) q
theorem do_part {te : TE} {ε : DSt} {QO : Option Int → Mp → Prop} (h : DE P te ε M fun x M1 => ∃ i, x = .int i ∧ QO (some i) M1) : DO P (tPart te) ε M QO := fun σ H R a k => by
  refine h σ H _ a fun v d M1 H1 t1 g1 e1 h1 => ?_
  obtain ⟨i, rfl, h1⟩ := h1
  cases t1
  exact ⟨i, rfl, k _ M1 H1 g1 e1 h1⟩
theorem de_sl {r : V → Option Int → Option Int → Hp → VK → Prop} {te : TE} {tl th : TO} {ε : DSt} (h : DE P te ε M fun x M1 => DO P tl ε M1 fun lo M2 => DO P th ε M2 fun hi M3 => DSl P r x lo hi M3 Q) : DE P (tSl r te tl th) ε M Q := fun σ H R a k => by
  refine h σ H _ a fun v d M1 H1 t1 g1 e1 h1 => ?_
  refine h1 σ H1 _ (a.ext g1 e1) fun lo M2 H2 g2 e2 h2 => ?_
  refine h2 σ H2 _ (a.ext g2 (e1.trans e2)) fun hi M3 H3 g3 e3 h3 => ?_
  exact h3 v H3 R (t1.ext (e2.trans e3)) g3 (k.ext (e1.trans (e2.trans e3)))
theorem dsl_tup {ds : List D} {lo hi : Option Int} (q : Q (.tup (cutD ds lo hi)) M) : DSl P (rSl3 P.K) (.tup ds) lo hi M Q := by
  intro vx H R rx gd k
  have rx' := rx
  obtain ⟨a, vs, rfl, h1, r1⟩ := tup_at rx
  refine .inr (.inl ⟨a, vs, rfl, h1, fun e => ?_, fun _ p hp => ?_⟩)
  · have e' : cutD ds lo hi = ds := by
      unfold cutD
      rw [← r1.length, e.1, e.2, r1.length, List.drop_zero, Nat.sub_zero, List.take_length]
    rw [e'] at q
    exact k.here rx' gd q
  · exact k _ (.tup (cutD ds lo hi)) M _ (.tup (.inl ⟨upd_same, gd.free hp⟩) ((trs_cut r1 lo hi).ext (ext_new hp))) (gd.new hp) (ext_new hp) q
theorem dsl_lst {x : D} {ds : List D} {lo hi : Option Int} (hx : IsL M x ds) (q : Q (.lst .own (cutD ds lo hi)) M) : DSl P (rSl3 P.K) x lo hi M Q := by
  intro vx H R rx gd k
  obtain ⟨a, vs, rfl, h1, r1⟩ := hx.at rx gd
  refine .inl ⟨a, vs, rfl, .inl (.inl h1), fun p hp => ?_⟩
  exact k _ (.lst .own (cutD ds lo hi)) M _ (.lst (k := .own) ⟨gd.free hp, upd_same, gd.base _ hp⟩ ((trs_cut r1 lo hi).ext (ext_new hp))) (gd.new hp) (ext_new hp) q
theorem dsl_str {z : Str} {lo hi : Option Int} (hz : z.length ≤ 100000) (q : Q (.str (cutS z lo hi)) M) : DSl P (rSl3 P.K) (.str z) lo hi M Q := by
  intro vx H R rx gd k
  cases rx
  exact .inr (.inr ⟨z, rfl, Nat.le_trans hz (by decide), k.here (.str _) gd q⟩)
end
end DL

namespace DL
open PySem L2

/-! ### built-in calls -/
def tyD : D → Option String
  | .non => some "NoneType"
  | .bl _ => some "bool"
  | .int _ => some "int"
  | .str _ => some "str"
  | .tup _ => some "tuple"
  | .lst _ _ => some "list"
  | .dic _ => some "dict"
  | .val _ => none
section
variable {P : Pr} {K : PySem.W.Frag} {B : Hp} {M : Mp} {H : Hp} {Q : D → Mp → Prop} {ε : DSt}
theorem tyx_of {v : V} {d : D} {t : String} (h : tyD d = some t) (r : Tr K B M H v d) : TyX K H v (.type t) := by
  cases r with
  | non => cases h; exact .base .non
  | bl b => cases h; exact .base (.bl b)
  | int i => cases h; exact .base (.int i)
  | str x => cases h; exact .base (.str x)
  | tup h' r =>
    cases h
    rcases h' with h' | ⟨o, its, n, h1, h2, _⟩
    · exact .base (.tup h'.1)
    · exact .kTuple h1 h2
  | @lst k a vs ds h' r =>
    cases h
    cases k with
    | own => exact .base (.lst h'.2.1)
    | arg => exact .base (.lst h'.2)
    | frz =>
      rcases h' with ⟨_, h' | ⟨o, h'⟩⟩ | ⟨o, its, n, h1, h2, _⟩
      · exact .base (.lst h')
      · exact .base (.frz h')
      · exact .kList h1 h2
  | dic h' m e r => cases h; exact .base (.dK h')
  | val v => cases h
def rIsi3 (K : PySem.W.Frag) : List V → Hp → VK → Prop := fun xs H Q => rIsi K xs H Q ∨ (rIsiT K xs H Q ∨ rIsiK K xs H Q)
theorem call_isi3 {X : Cx} : CallR X (.builtin "isinstance") (rIsi3 X.K) := CallR.or call_isi (CallR.or call_isiT call_isiK)
theorem trs1 {x : D} {vs : List V} (r : Trs K B M H vs [x]) : ∃ v, vs = [v] ∧ Tr K B M H v x := by
  cases r with
  | cons r1 r => cases r; exact ⟨_, rfl, r1⟩
theorem trs2 {x y : D} {vs : List V} (r : Trs K B M H vs [x, y]) : ∃ v w, vs = [v, w] ∧ Tr K B M H v x ∧ Tr K B M H w y := by
  cases r with
  | cons r1 r =>
    obtain ⟨w, rfl, r2⟩ := trs1 r
    exact ⟨_, w, rfl, r1, r2⟩
theorem trs3 {x y z : D} {vs : List V} (r : Trs K B M H vs [x, y, z]) : ∃ u v w, vs = [u, v, w] ∧ Tr K B M H u x ∧ Tr K B M H v y ∧ Tr K B M H w z := by
  cases r with
  | cons r1 r =>
    obtain ⟨v, w, rfl, r2, r3⟩ := trs2 r
    exact ⟨_, v, w, rfl, r1, r2, r3⟩
theorem tr_val {v w : V} (r : Tr K B M H v (.val w)) : v = w := by cases r; rfl
theorem tr_int {v : V} {i : Int} (r : Tr K B M H v (.int i)) : v = .int i := by cases r; rfl
theorem tr_str {v : V} {i : Str} (r : Tr K B M H v (.str i)) : v = .str i := by cases r; rfl
theorem tr_bl {v : V} {i : Bool} (r : Tr K B M H v (.bl i)) : v = .bl i := by cases r; rfl
theorem tr_non {v : V} (r : Tr K B M H v .non) : v = .non := by cases r; rfl
theorem dl_isi {x : D} {t T : String} {b : Bool} (h : tyD x = some t) (hb : kitB t T = some b) (q : Q (.bl b) M) : DL' P (rIsi3 P.K) [x, .val (.ty T)] M Q := by
  intro vs H R r gd k
  obtain ⟨v, w, rfl, r1, r2⟩ := trs2 r
  cases tr_val r2
  exact .inl ⟨_, _, _, _, b, rfl, .ty T, tyx_of h r1, kit_ty hb, k.here (.bl b) gd q⟩
/-- two classes -/
theorem dl_isi2 {x : D} {t T U : String} {b c : Bool} (h : tyD x = some t) (hb : kitB t T = some b) (hc : kitB t U = some c) (q : Q (.bl (b || c)) M) : DL' P (rIsi3 P.K) [x, .tup [.val (.ty T), .val (.ty U)]] M Q := by
  intro vs H R r gd k
  obtain ⟨v, w, rfl, r1, r2⟩ := trs2 r
  have e : PySem.W.kitAny P.K (.type t) [.type T, .type U] = some (b || c) := by
    refine kitAny_cons (kit_ty hb) (fun e => ?_) (fun e => by rw [e] <;> rfl)
    refine kitAny_cons (kit_ty hc) (fun e' => ?_) (fun e' => by rw [e'] <;> simp)
    rw [e, e']
    exact kitAny_nil
  cases r2 with
  | tup h' r' =>
    obtain ⟨s1, s2, rfl, q1, q2⟩ := trs2 r'
    cases tr_val q1
    cases tr_val q2
    rcases h' with h' | ⟨⟨oc, od, dt, sl⟩, its, n, h1, h2, h3, h4, h5⟩
    · exact .inr (.inl ⟨_, _, _, _, [.type T, .type U], b || c, rfl, h'.1, .cons (.ty T) (.cons (.ty U) .nil), tyx_of h r1, e, k.here (.bl _) gd q⟩)
    · have e5 : its.toList = [.type T, .type U] := ClsV.all (.cons (.ty T) (.cons (.ty U) .nil)) h5
      have e6 : its = ([.type T, .type U] : List Value).toArray := by rw [← e5]
      subst e6
      dsimp only at h2 h3
      subst h2 h3
      exact .inr (.inr ⟨_, _, od, [.type T, .type U], n, sl, _, b || c, rfl, h1, tyx_of h r1, e, k.here (.bl _) gd q⟩)
abbrev rLen (K : PySem.W.Frag) : List V → Hp → VK → Prop := fun xs H Q => ∃ x n, xs = [x] ∧ LenV K x H n ∧ Q (.int n) H
theorem dl_len {x : D} {xs : List D} (h : IsS M x xs) (q : Q (.int (xs.length : Nat)) M) : DL' P (rLen P.K) [x] M Q := by
  intro vs H R r gd k
  obtain ⟨v, rfl, r1⟩ := trs1 r
  obtain ⟨a, ws, rfl, h1, r2⟩ := h.at r1 gd
  refine ⟨_, xs.length, rfl, ?_, k.here (.int _) gd q⟩
  rcases h1 with h1 | h1
  · exact .inl ⟨ws, h1, r2.length.symm⟩
  · exact .inr ⟨ws, h1, r2.length.symm⟩
theorem dl_lenS {z : Str} (h : z.length ≤ 100000) (q : Q (.int (z.length : Nat)) M) : DL' P (rLen P.K) [.str z] M Q := by
  intro vs H R r gd k
  obtain ⟨v, rfl, r1⟩ := trs1 r
  cases tr_str r1
  exact ⟨_, z.length, rfl, ⟨Nat.le_trans h (by decide), rfl⟩, k.here (.int _) gd q⟩
abbrev rListOf (K : PySem.W.Frag) : List V → Hp → VK → Prop := fun xs H Q => ∃ p ys, xs = [.ref p] ∧ (SqL K H p ys ∨ SqT K H p ys) ∧ ∀ l, H l = none → Q (.ref l) (upd H l (.lst ys))
theorem dl_list {x : D} {xs : List D} (h : IsS M x xs) (q : Q (.lst .own xs) M) : DL' P (rListOf P.K) [x] M Q := by
  intro vs H R r gd k
  obtain ⟨v, rfl, r1⟩ := trs1 r
  obtain ⟨a, ws, rfl, h1, r2⟩ := h.at r1 gd
  refine ⟨a, ws, rfl, h1, fun p hp => ?_⟩
  exact k _ (.lst .own xs) M _ (.lst (k := .own) ⟨gd.free hp, upd_same, gd.base _ hp⟩ (r2.ext (ext_new hp))) (gd.new hp) (ext_new hp) q
theorem dl_listC {x : D} {xs : List D} (h : IsS M x xs) (q : ∀ p, M p = none → P.B p = none → Q (.val (.ref p)) (updM M p (.lst xs))) : DL' P (rListOf P.K) [x] M Q := by
  intro vs H R r gd k
  obtain ⟨v, rfl, r1⟩ := trs1 r
  obtain ⟨a, ws, rfl, h1, r2⟩ := h.at r1 gd
  refine ⟨a, ws, rfl, h1, fun p hp => ?_⟩
  exact k _ _ _ _ (.val _) (gd.newCell (c := .lst xs) hp ⟨_, upd_same, r2.ext (ext_cell hp)⟩) (ext_cell hp) (q p (gd.free hp) (gd.base _ hp))
abbrev rTupleOf (K : PySem.W.Frag) : List V → Hp → VK → Prop := fun xs H Q => ∃ p ys, xs = [.ref p] ∧ ((SqL K H p ys ∧ ∀ l, H l = none → Q (.ref l) (upd H l (.tup ys))) ∨ (SqT K H p ys ∧ Q (.ref p) H))
theorem dl_tuple {x : D} {xs : List D} (h : IsS M x xs) (q : Q (.tup xs) M) : DL' P (rTupleOf P.K) [x] M Q := by
  intro vs H R r gd k
  obtain ⟨v, rfl, r1⟩ := trs1 r
  have lst : ∀ {ws : List V} {a : Addr}, SqL P.K H a ws → Trs P.K P.B M H ws xs → rTupleOf P.K [.ref a] H R := fun {ws a} h1 r2 =>
    ⟨a, ws, rfl, .inl ⟨h1, fun p hp => k _ (.tup xs) M _ (.tup (.inl ⟨upd_same, gd.free hp⟩) (r2.ext (ext_new hp))) (gd.new hp) (ext_new hp) q⟩⟩
  cases h with
  | lst h =>
    obtain ⟨a, ws, rfl, h1, r2⟩ := h.at r1 gd
    exact lst (.inl (.inl h1)) r2
  | frz =>
    cases r1 with
    | lst h r => exact lst h.sq r
  | tup =>
    have r1' := r1
    obtain ⟨a, ws, rfl, h1, r2⟩ := tup_at r1
    exact ⟨a, ws, rfl, .inr ⟨h1, k.here r1' gd q⟩⟩
abbrev rStrI : List V → Hp → VK → Prop := fun xs H Q => ∃ i, xs = [.int i] ∧ i.natAbs.log2 < 1920 ∧ Q (.str (toString i)) H
theorem dl_strI {i : Int} (h : i.natAbs.log2 < 1920) (q : Q (.str (toString i)) M) : DL' P rStrI [.int i] M Q := by
  intro vs H R r gd k
  obtain ⟨v, rfl, r1⟩ := trs1 r
  cases tr_int r1
  exact ⟨i, rfl, h, k.here (.str _) gd q⟩
abbrev rMax2 : List V → Hp → VK → Prop := fun xs H Q => ∃ i j, xs = [.int i, .int j] ∧ Q (.int (if j > i then j else i)) H
abbrev rMin2 : List V → Hp → VK → Prop := fun xs H Q => ∃ i j, xs = [.int i, .int j] ∧ Q (.int (if j < i then j else i)) H
theorem dl_max2 {i j : Int} (q : Q (.int (if j > i then j else i)) M) : DL' P rMax2 [.int i, .int j] M Q := by
  intro vs H R r gd k
  obtain ⟨v, w, rfl, r1, r2⟩ := trs2 r
  cases tr_int r1
  cases tr_int r2
  exact ⟨i, j, rfl, k.here (.int _) gd q⟩
theorem dl_min2 {i j : Int} (q : Q (.int (if j < i then j else i)) M) : DL' P rMin2 [.int i, .int j] M Q := by
  intro vs H R r gd k
  obtain ⟨v, w, rfl, r1, r2⟩ := trs2 r
  cases tr_int r1
  cases tr_int r2
  exact ⟨i, j, rfl, k.here (.int _) gd q⟩
/-! ### methods of lists -/
theorem de_bm {T : String} {r : V → List V → Hp → VK → Prop} {to : TE} {al : TA} (h : DE P to ε M fun x M1 => (∀ v H, Tr P.K P.B M1 H v x → Good P.K P.B M1 H → tyV P.K T v H) ∧ DA P al ε M1 fun xs M2 => DM P r x xs M2 Q) : DE P (tBM P.K T r to al) ε M Q := fun σ H R a k => by
  refine h σ H _ a fun v d M1 H1 t1 g1 e1 h1 => ⟨h1.1 v H1 t1 g1, ?_⟩
  refine h1.2 σ H1 _ (a.ext g1 e1) fun w e M2 H2 t2 g2 e2 h2 => ?_
  exact h2 v w H2 R (t1.ext e2) t2 g2 (k.ext (e1.trans e2))
theorem de_bm0 {T : String} {r : V → List V → Hp → VK → Prop} {to : TE} (h : DE P to ε M fun x M1 => (∀ v H, Tr P.K P.B M1 H v x → Good P.K P.B M1 H → tyV P.K T v H) ∧ DM P r x [] M1 Q) : DE P (tBM0 P.K T r to) ε M Q := fun σ H R a k => by
  refine h σ H _ a fun v d M1 H1 t1 g1 e1 h1 => ⟨h1.1 v H1 t1 g1, ?_⟩
  exact h1.2 v [] H1 R t1 .nil g1 (k.ext e1)
theorem ty_list {x : D} {xs : List D} (h : IsL M x xs) : ∀ v H, Tr P.K P.B M H v x → Good P.K P.B M H → tyV P.K "list" v H := fun v H t g => by
  obtain ⟨a, ws, rfl, h1, r2⟩ := h.at t g
  exact .inl ⟨rfl, ws, .inl (.inl h1)⟩
theorem ty_str {z : Str} : ∀ v H, Tr P.K P.B M H v (.str z) → Good P.K P.B M H → tyV P.K "str" v H := fun v H t g => by
  cases tr_str t
  exact rfl
theorem dm_append {p : Addr} {xs : List D} {y : D} (h : M p = some (.lst xs)) (hl : xs.length < 100000) (q : Q .non (updM M p (.lst (xs ++ [y])))) : DM P rAppend (.val (.ref p)) [y] M Q := by
  intro vx vs H R rx r gd k
  cases tr_val rx
  obtain ⟨v, rfl, r1⟩ := trs1 r
  obtain ⟨ws, h1, r2⟩ := gd.cell _ _ h
  refine ⟨p, ws, v, rfl, rfl, h1, by rw [r2.length]; exact Nat.lt_of_lt_of_le hl (by decide), ?_⟩
  exact k _ .non _ _ .non (gd.set (c' := .lst (xs ++ [y])) h ⟨_, upd_same, (r2.append (.one r1)).ext (ext_set h)⟩) (ext_set h) q
theorem dm_extend {p : Addr} {xs ys : List D} {y : D} (h : M p = some (.lst xs)) (hy : IsL M y ys) (hl : xs.length + ys.length ≤ 100000) (q : Q .non (updM M p (.lst (xs ++ ys)))) : DM P rExtend (.val (.ref p)) [y] M Q := by
  intro vx vs H R rx r gd k
  cases tr_val rx
  obtain ⟨v, rfl, r1⟩ := trs1 r
  obtain ⟨ws, h1, r2⟩ := gd.cell _ _ h
  obtain ⟨b, us, rfl, h3, r4⟩ := hy.at r1 gd
  refine ⟨p, b, ws, us, rfl, rfl, h1, h3, by rw [r2.length, r4.length]; exact Nat.le_trans hl (by decide), ?_⟩
  exact k _ .non _ _ .non (gd.set (c' := .lst (xs ++ ys)) h ⟨_, upd_same, (r2.append r4).ext (ext_set h)⟩) (ext_set h) q
theorem Trs.dropLast {vs : List V} {ds : List D} (h : Trs K B M H vs ds) : Trs K B M H vs.dropLast ds.dropLast := by
  rw [List.dropLast_eq_take, List.dropLast_eq_take, h.length]
  exact h.take _
theorem dm_pop {p : Addr} {xs : List D} {y : D} (h : M p = some (.lst (xs ++ [y]))) (q : Q y (updM M p (.lst xs))) : DM P rPop (.val (.ref p)) [] M Q := by
  intro vx vs H R rx r gd k
  cases tr_val rx
  cases r
  obtain ⟨ws, h1, r2⟩ := gd.cell _ _ h
  have hl := r2.length
  rw [List.length_append, List.length_singleton] at hl
  obtain ⟨v, hv, tv⟩ := r2.get (i := xs.length) (d := y) (by simp)
  have r3 := r2.dropLast
  rw [List.dropLast_concat] at r3
  refine ⟨p, ws, v, rfl, rfl, h1, by rw [hl]; exact hv, ?_⟩
  exact k _ y _ _ (tv.ext (ext_set h)) (gd.set (c' := .lst xs) h ⟨_, upd_same, r3.ext (ext_set h)⟩) (ext_set h) q
theorem dm_reverse {p : Addr} {xs : List D} (h : M p = some (.lst xs)) (q : Q .non (updM M p (.lst xs.reverse))) : DM P rReverse (.val (.ref p)) [] M Q := by
  intro vx vs H R rx r gd k
  cases tr_val rx
  cases r
  obtain ⟨ws, h1, r2⟩ := gd.cell _ _ h
  refine ⟨p, ws, rfl, rfl, h1, ?_⟩
  exact k _ .non _ _ .non (gd.set (c' := .lst xs.reverse) h ⟨_, upd_same, r2.reverse.ext (ext_set h)⟩) (ext_set h) q
/-- xs[i] = y -/
theorem dg_setL {to ti : TE} {y : D} {QE : DSt → Mp → Prop} (h : DE P to ε M fun x M1 => DE P ti ε M1 fun z M2 => ∃ p i xs j, x = .val (.ref p) ∧ z = .int i ∧ M2 p = some (.lst xs) ∧ ixN xs.length i = some j ∧ QE ε (updM M2 p (.lst (xs.set j y)))) : DG P (gSub to ti rSetL) y ε M QE := fun v σ H R t a k => by
  refine h σ H _ a fun vx d M1 H1 t1 g1 e1 h1 => ?_
  refine h1 σ H1 _ (a.ext g1 e1) fun vi e M2 H2 t2 g2 e2 h2 => ?_
  obtain ⟨p, i, xs, j, rfl, rfl, hp, hj, q⟩ := h2
  cases tr_val t1
  cases tr_int t2
  obtain ⟨ws, h3, r3⟩ := g2.cell _ _ hp
  have e12 := e1.trans e2
  refine ⟨p, ws, i, j, rfl, rfl, h3, by rw [r3.length]; exact hj, ?_⟩
  have e3 : Ext M2 H2 (updM M2 p (.lst (xs.set j y))) (upd H2 p (.lst (ws.set j v))) := ext_set hp
  exact k σ ε _ _ (a.env.ext (e12.trans e3)) (g2.set (c' := .lst (xs.set j y)) hp ⟨_, upd_same, (r3.set (t.ext e12)).ext (ext_set hp)⟩) (e12.trans e3) q
end
end DL

namespace DL
open PySem L2 PyProof.Rows

/-! ### tables -/
section
variable {κ : Type} [DecidableEq κ]
def valD (kvs : List (κ × D)) (k : κ) : Option D := (kvs.find? fun kv => decide (kv.1 = k)).map (·.2)
def putD (kvs : List (κ × D)) (k : κ) (v : D) : List (κ × D) :=
  if (kvs.any fun kv => decide (kv.1 = k)) = true then kvs.map (fun kv => if kv.1 = k then (kv.1, v) else kv) else kvs ++ [(k, v)]
def dropD (kvs : List (κ × D)) (k : κ) : List (κ × D) := kvs.filter fun kv => decide (kv.1 ≠ k)
end
def putFD (f : Str) (v : D) : List (Str × D) → List (Str × D)
  | [] => [(f, v)]
  | (g, x) :: r => if g = f then (g, v) :: r else (g, x) :: putFD f v r
/-- tables of the same keys, their values in turn -/
structure Tab {κ : Type} (K : PySem.W.Frag) (B : Hp) (M : Mp) (H : Hp) (ws : List (κ × V)) (kvs : List (κ × D)) : Prop where
  ks : ws.map (·.1) = kvs.map (·.1)
  vs : Trs K B M H (ws.map (·.2)) (kvs.map (·.2))
section
variable {κ : Type} {P : Pr} {K : PySem.W.Frag} {B : Hp} {M M' : Mp} {H H' : Hp} {Q : D → Mp → Prop} {ε : DSt}
theorem Tab.nil : Tab K B M H ([] : List (κ × V)) [] := ⟨rfl, .nil⟩
theorem Tab.cons {k : κ} {v : V} {d : D} {ws : List (κ × V)} {kvs : List (κ × D)} (h : Tr K B M H v d) (t : Tab K B M H ws kvs) : Tab K B M H ((k, v) :: ws) ((k, d) :: kvs) := ⟨by simp [t.ks], .cons h t.vs⟩
theorem Tab.inv {ws : List (κ × V)} {k : κ} {d : D} {kvs : List (κ × D)} (t : Tab K B M H ws ((k, d) :: kvs)) : ∃ v ws', ws = (k, v) :: ws' ∧ Tr K B M H v d ∧ Tab K B M H ws' kvs := by
  obtain ⟨e, r⟩ := t
  cases ws with
  | nil => cases e
  | cons p ws =>
    obtain ⟨k', v⟩ := p
    simp only [List.map_cons, List.cons.injEq] at e
    obtain ⟨e1, e2⟩ := e
    subst e1
    cases r with
    | cons h r => exact ⟨v, ws, rfl, h, e2, r⟩
theorem Tab.inv0 {ws : List (κ × V)} (t : Tab K B M H ws []) : ws = [] := by
  have e := t.ks
  cases ws with
  | nil => rfl
  | cons p ws => cases e
theorem Tab.ext {ws : List (κ × V)} {kvs : List (κ × D)} (t : Tab K B M H ws kvs) (e : Ext M H M' H') : Tab K B M' H' ws kvs := ⟨t.ks, t.vs.ext e⟩
theorem Tab.length {ws : List (κ × V)} {kvs : List (κ × D)} (t : Tab K B M H ws kvs) : ws.length = kvs.length := by
  have e := congrArg List.length t.ks
  rw [List.length_map, List.length_map] at e
  exact e
theorem Tab.append {ws ws2 : List (κ × V)} {kvs kvs2 : List (κ × D)} (t : Tab K B M H ws kvs) (t2 : Tab K B M H ws2 kvs2) : Tab K B M H (ws ++ ws2) (kvs ++ kvs2) :=
  ⟨by rw [List.map_append, List.map_append, t.ks, t2.ks], by rw [List.map_append, List.map_append]; exact t.vs.append t2.vs⟩
section
variable [DecidableEq κ]
theorem Tab.val {kvs : List (κ × D)} (k : κ) : ∀ {ws : List (κ × V)}, Tab K B M H ws kvs → (∀ d, valD kvs k = some d → ∃ v, valV ws k = some v ∧ Tr K B M H v d) ∧ (valD kvs k = none → valV ws k = none) := by
  induction kvs with
  | nil =>
    intro ws t
    rw [t.inv0]
    exact ⟨fun d e => (by cases e), fun _ => rfl⟩
  | cons p kvs ih =>
    intro ws t
    obtain ⟨k', d⟩ := p
    obtain ⟨v, ws', rfl, h, t'⟩ := t.inv
    by_cases e : k' = k
    · subst e
      refine ⟨fun d' q => ?_, fun q => ?_⟩
      · have q' : d = d' := by simpa [valD] using q
        subst q'
        exact ⟨v, valV_pos rfl, h⟩
      · simp [valD] at q
    · have e1 : valD ((k', d) :: kvs) k = valD kvs k := by simp [valD, List.find?_cons, e]
      rw [e1, valV_neg (p := (k', v)) e]
      exact ih t'
theorem Tab.any {kvs : List (κ × D)} (k : κ) : ∀ {ws : List (κ × V)}, Tab K B M H ws kvs → (ws.any fun kv => decide (kv.1 = k)) = (kvs.any fun kv => decide (kv.1 = k)) := by
  induction kvs with
  | nil => intro ws t; rw [t.inv0]; rfl
  | cons p kvs ih =>
    intro ws t
    obtain ⟨k', d⟩ := p
    obtain ⟨v, ws', rfl, h, t'⟩ := t.inv
    rw [List.any_cons, List.any_cons, ih t']
theorem Tab.map {kvs : List (κ × D)} (k : κ) {y : V} {d : D} (hy : Tr K B M H y d) : ∀ {ws : List (κ × V)}, Tab K B M H ws kvs → Tab K B M H (ws.map fun kv => if kv.1 = k then (kv.1, y) else kv) (kvs.map fun kv => if kv.1 = k then (kv.1, d) else kv) := by
  induction kvs with
  | nil => intro ws t; rw [t.inv0]; exact .nil
  | cons p kvs ih =>
    intro ws t
    obtain ⟨k', d'⟩ := p
    obtain ⟨v, ws', rfl, h, t'⟩ := t.inv
    rw [List.map_cons, List.map_cons]
    by_cases e : k' = k
    · rw [if_pos e, if_pos e]
      exact .cons hy (ih t')
    · rw [if_neg e, if_neg e]
      exact .cons h (ih t')
theorem Tab.put {kvs : List (κ × D)} {ws : List (κ × V)} (t : Tab K B M H ws kvs) (k : κ) {y : V} {d : D} (hy : Tr K B M H y d) : Tab K B M H (putK ws k y) (putD kvs k d) := by
  unfold putK putD
  rw [t.any k]
  split
  · exact t.map k hy
  · exact t.append (.cons hy .nil)
theorem Tab.drop {kvs : List (κ × D)} (k : κ) : ∀ {ws : List (κ × V)}, Tab K B M H ws kvs → Tab K B M H (dropK ws k) (dropD kvs k) := by
  induction kvs with
  | nil => intro ws t; rw [t.inv0]; exact .nil
  | cons p kvs ih =>
    intro ws t
    obtain ⟨k', d'⟩ := p
    obtain ⟨v, ws', rfl, h, t'⟩ := t.inv
    unfold dropK dropD
    rw [List.filter_cons, List.filter_cons]
    by_cases e : k' = k
    · rw [if_neg (by simp [e]), if_neg (by simp [e])]
      exact ih t'
    · rw [if_pos (by simp [e]), if_pos (by simp [e])]
      exact .cons h (ih t')
end
theorem Tab.look {fs : List (Str × D)} {f : Str} : ∀ {ws : List (Str × V)}, Tab K B M H ws fs → (∀ d, fs.lookup f = some d → ∃ v, ws.lookup f = some v ∧ Tr K B M H v d) ∧ (fs.lookup f = none → ws.lookup f = none) := by
  induction fs with
  | nil =>
    intro ws t
    rw [t.inv0]
    exact ⟨fun d e => (by cases e), fun _ => rfl⟩
  | cons p kvs ih =>
    intro ws t
    obtain ⟨k', d⟩ := p
    obtain ⟨v, ws', rfl, h, t'⟩ := t.inv
    by_cases e : (f == k') = true
    · simp only [List.lookup, e]
      exact ⟨fun d' q => ⟨v, rfl, (by cases q; exact h)⟩, fun q => (by cases q)⟩
    · have e' : (f == k') = false := by simpa using e
      simp only [List.lookup, e']
      exact ih t'
theorem Tab.putF {fs : List (Str × D)} {f : Str} {y : V} {d : D} (hy : Tr K B M H y d) : ∀ {ws : List (Str × V)}, Tab K B M H ws fs → Tab K B M H (putF f y ws) (putFD f d fs) := by
  induction fs with
  | nil => intro ws t; rw [t.inv0]; exact .cons hy .nil
  | cons p kvs ih =>
    intro ws t
    obtain ⟨k', d'⟩ := p
    obtain ⟨v, ws', rfl, h, t'⟩ := t.inv
    unfold L2.putF putFD
    by_cases e : k' = f
    · rw [if_pos e, if_pos e]
      exact .cons hy t'
    · rw [if_neg e, if_neg e]
      exact .cons h (ih t')

/-! ### dicts -/
inductive IsDi (M : Mp) : D → List (Key × D) → Prop
  | dic (kvs : List (Key × D)) : IsDi M (.dic kvs) kvs
  | cell {a : Addr} {kvs : List (Key × D)} (h : M a = some (.dic kvs)) : IsDi M (.val (.ref a)) kvs
theorem IsDi.at {d : D} {kvs : List (Key × D)} {v : V} (h : IsDi M d kvs) (t : Tr K B M H v d) (g : Good K B M H) : ∃ a ws, v = .ref a ∧ H a = some (.dK ws) ∧ Tab K B M H ws kvs := by
  cases h with
  | dic => cases t with
    | dic h m e r => exact ⟨_, _, rfl, h, e, r⟩
  | cell h => cases t with
    | val =>
      obtain ⟨ws, h1, h2, h3⟩ := g.cell _ _ h
      exact ⟨_, ws, rfl, h1, h2, h3⟩
/-- a key as data -/
def keyD : Key → D
  | .inl i => .int i
  | .inr x => .str x
theorem key_tr {k : Key} {v : V} (t : Tr K B M H v (keyD k)) : v = kV k := by
  cases k with
  | inl i => cases t; rfl
  | inr x => cases t; rfl
theorem de_dget {td ty : TE} (h : DE P td ε M fun x M1 => DE P ty ε M1 fun y M2 => ∃ kvs k d, IsDi M2 x kvs ∧ y = keyD k ∧ valD kvs k = some d ∧ Q d M2) : DE P (tDGet td ty) ε M Q := fun σ H R a k => by
  refine h σ H _ a fun v d M1 H1 t1 g1 e1 h1 => ?_
  refine h1 σ H1 _ (a.ext g1 e1) fun w e M2 H2 t2 g2 e2 h2 => ?_
  obtain ⟨kvs, ky, dd, hi, rfl, hv, q⟩ := h2
  obtain ⟨p, ws, rfl, hp, t⟩ := hi.at (t1.ext e2) g2
  cases key_tr t2
  obtain ⟨u, hu, tu⟩ := (t.val ky).1 _ hv
  exact ⟨p, u, rfl, .inl ⟨ws, ky, .inl hp, rfl, hu.symm⟩, (k.ext (e1.trans e2)).here tu g2 q⟩
theorem de_din {td ty : TE} (h : DE P ty ε M fun y M1 => DE P td ε M1 fun x M2 => ∃ kvs k, IsDi M2 x kvs ∧ y = keyD k ∧ Q (.bl (valD kvs k).isSome) M2) : DE P (tDIn ty td) ε M Q := fun σ H R a k => by
  refine h σ H _ a fun v d M1 H1 t1 g1 e1 h1 => ?_
  refine h1 σ H1 _ (a.ext g1 e1) fun w e M2 H2 t2 g2 e2 h2 => ?_
  obtain ⟨kvs, ky, hi, rfl, q⟩ := h2
  obtain ⟨p, ws, rfl, hp, t⟩ := hi.at t2 g2
  cases key_tr t1
  refine ⟨p, valV ws ky, rfl, .inl ⟨ws, ky, .inl hp, rfl, rfl⟩, ?_⟩
  cases hv : valD kvs ky with
  | none =>
    rw [hv] at q
    rw [(t.val ky).2 hv]
    exact (k.ext (e1.trans e2)).here (.bl _) g2 q
  | some d =>
    rw [hv] at q
    obtain ⟨u, hu, tu⟩ := (t.val ky).1 _ hv
    rw [hu]
    exact (k.ext (e1.trans e2)).here (.bl _) g2 q
theorem de_dnotin {td ty : TE} (h : DE P ty ε M fun y M1 => DE P td ε M1 fun x M2 => ∃ kvs k, IsDi M2 x kvs ∧ y = keyD k ∧ Q (.bl (!(valD kvs k).isSome)) M2) : DE P (tDNotIn ty td) ε M Q := fun σ H R a k => by
  refine h σ H _ a fun v d M1 H1 t1 g1 e1 h1 => ?_
  refine h1 σ H1 _ (a.ext g1 e1) fun w e M2 H2 t2 g2 e2 h2 => ?_
  obtain ⟨kvs, ky, hi, rfl, q⟩ := h2
  obtain ⟨p, ws, rfl, hp, t⟩ := hi.at t2 g2
  cases key_tr t1
  refine ⟨p, valV ws ky, rfl, .inl ⟨ws, ky, .inl hp, rfl, rfl⟩, ?_⟩
  cases hv : valD kvs ky with
  | none =>
    rw [hv] at q
    rw [(t.val ky).2 hv]
    exact (k.ext (e1.trans e2)).here (.bl _) g2 q
  | some d =>
    rw [hv] at q
    obtain ⟨u, hu, tu⟩ := (t.val ky).1 _ hv
    rw [hu]
    exact (k.ext (e1.trans e2)).here (.bl _) g2 q
/-- d.get(k, x) -/
theorem de_dget2 {td ty tx : TE} (h : DE P td ε M fun x M1 => (∃ kvs, IsDi M1 x kvs) ∧ DE P ty ε M1 fun y M2 => DE P tx ε M2 fun z M3 => ∃ kvs k, IsDi M3 x kvs ∧ y = keyD k ∧ Q ((valD kvs k).getD z) M3) : DE P (tDGet2 td ty tx) ε M Q := fun σ H R a k => by
  refine h σ H _ a fun v d M1 H1 t1 g1 e1 h1 => ?_
  obtain ⟨⟨kvs0, hi0⟩, h1⟩ := h1
  obtain ⟨p, ws0, rfl, hp0, _⟩ := hi0.at t1 g1
  refine ⟨p, rfl, .inl ⟨ws0, .inl hp0⟩, ?_⟩
  refine h1 σ H1 _ (a.ext g1 e1) fun w e M2 H2 t2 g2 e2 h2 => ?_
  refine h2 σ H2 _ (a.ext g2 (e1.trans e2)) fun z f M3 H3 t3 g3 e3 h3 => ?_
  obtain ⟨kvs, ky, hi, rfl, q⟩ := h3
  obtain ⟨p', ws, ep, hp, t⟩ := hi.at (t1.ext (e2.trans e3)) g3
  cases ep
  cases key_tr t2
  refine ⟨valV ws ky, .inl ⟨ws, ky, .inl hp, rfl, rfl⟩, ?_⟩
  have kk := k.ext (e1.trans (e2.trans e3))
  cases hv : valD kvs ky with
  | none =>
    rw [hv] at q
    rw [(t.val ky).2 hv]
    exact kk.here t3 g3 q
  | some d =>
    rw [hv] at q
    obtain ⟨u, hu, tu⟩ := (t.val ky).1 _ hv
    rw [hu]
    exact kk.here tu g3 q
theorem ds_dput {td ty tv : TE} {G : DEnds} (h : DE P tv ε M fun y M1 => DE P td ε M1 fun x M2 => DE P ty ε M2 fun z M3 => ∃ p kvs k, x = .val (.ref p) ∧ z = keyD k ∧ M3 p = some (.dic kvs) ∧ kvs.length < 100000 ∧ G.nx ε (updM M3 p (.dic (putD kvs k y)))) : DS P (sDPut td ty tv) G ε M := fun σ H E a l => by
  refine h σ H _ a fun v d M1 H1 t1 g1 e1 h1 => ?_
  refine h1 σ H1 _ (a.ext g1 e1) fun w e M2 H2 t2 g2 e2 h2 => ?_
  refine h2 σ H2 _ (a.ext g2 (e1.trans e2)) fun z f M3 H3 t3 g3 e3 h3 => ?_
  obtain ⟨p, kvs, ky, rfl, rfl, hp, hl, q⟩ := h3
  cases tr_val t2
  cases key_tr t3
  obtain ⟨ws, h4, h5, h6⟩ := g3.cell _ _ hp
  have t : Tab P.K P.B M3 H3 ws kvs := ⟨h5, h6⟩
  have tt := (t.put ky (t1.ext (e2.trans e3))).ext (ext_set (o := .dK (putK ws ky v)) (c' := .dic (putD kvs ky d)) hp)
  refine ⟨p, _, rfl, .inl ⟨ws, ky, h4, rfl, by rw [t.length]; exact Nat.lt_of_lt_of_le hl (by decide), rfl⟩, ?_⟩
  have e13 := e1.trans (e2.trans e3)
  exact l.nx σ ε _ _ (a.env.ext (e13.trans (ext_set hp))) (g3.set (c' := .dic (putD kvs ky d)) hp ⟨_, upd_same, tt.ks, tt.vs⟩) (e13.trans (ext_set hp)) q
/-- {} as a cell -/
theorem de_dnew (q : ∀ p, M p = none → P.B p = none → Q (.val (.ref p)) (updM M p (.dic []))) : DE P tDNewK ε M Q := fun σ H R a k p hp =>
  k _ _ _ _ (.val _) (a.good.newCell (c := .dic []) hp ⟨[], upd_same, rfl, .nil⟩) (ext_cell hp) (q p (a.good.free hp) (a.good.base _ hp))

/-! ### objects -/
theorem de_fld {ta : TE} {f : Str} (h : DE P ta ε M fun x M1 => ∃ p C fs d, x = .val (.ref p) ∧ M1 p = some (.ins C fs) ∧ Cls P.K C ∧ NoAttr P.K C f ∧ fs.lookup f = some d ∧ Q d M1) : DE P (tFld P.K ta f) ε M Q := fun σ H R a k => by
  refine h σ H _ a fun v d M1 H1 t1 g1 e1 h1 => ?_
  obtain ⟨p, C, fs, d', rfl, hp, c, n, hl, q⟩ := h1
  cases tr_val t1
  obtain ⟨dx, ws, h2, h3, h4⟩ := g1.cell _ _ hp
  obtain ⟨u, hu, tu⟩ := (Tab.look (f := f) ⟨h3, h4⟩).1 _ hl
  exact ⟨p, C, dx, ws, u, rfl, h2, c, n, hu, (k.ext e1).here tu g1 q⟩
theorem ds_fld {ta tv : TE} {f : Str} {G : DEnds} (h : DE P tv ε M fun y M1 => DE P ta ε M1 fun x M2 => ∃ p C fs, x = .val (.ref p) ∧ M2 p = some (.ins C fs) ∧ Cls P.K C ∧ NoAttr P.K C f ∧ fs.length < 1000 ∧ G.nx ε (updM M2 p (.ins C (putFD f y fs)))) : DS P (sFld P.K ta tv f) G ε M := fun σ H E a l => by
  refine h σ H _ a fun v d M1 H1 t1 g1 e1 h1 => ?_
  refine h1 σ H1 _ (a.ext g1 e1) fun w e M2 H2 t2 g2 e2 h2 => ?_
  obtain ⟨p, C, fs, rfl, hp, c, n, hl, q⟩ := h2
  cases tr_val t2
  obtain ⟨dx, ws, h3, h4, h5⟩ := g2.cell _ _ hp
  have t : Tab P.K P.B M2 H2 ws fs := ⟨h4, h5⟩
  have tt := (t.putF (f := f) (t1.ext e2)).ext (ext_set (o := .ins C dx (putF f v ws)) (c' := .ins C (putFD f d fs)) hp)
  refine ⟨p, C, dx, ws, rfl, h3, c, n, by rw [t.length]; exact hl, ?_⟩
  have e12 := e1.trans e2
  exact l.nx σ ε _ _ (a.env.ext (e12.trans (ext_set hp))) (g2.set (c' := .ins C (putFD f d fs)) hp ⟨dx, _, upd_same, tt.ks, tt.vs⟩) (e12.trans (ext_set hp)) q
end
end DL

namespace DL
open PySem L2 PyProof.Rows

/-! ### what a def promises, over data -/
abbrev Sq := List D → Mp → (D → Mp → Prop) → Xq → Prop
abbrev X0 : Xq := fun _ _ _ => False
def spI (K : PySem.W.Frag) (S : Sq) : Sp := fun vs H Q E => ∃ (B : Hp) (ds : List D) (M : Mp) (Qd : D → Mp → Prop) (Xd : Xq), Trs K B M H vs ds ∧ Good K B M H ∧ S ds M Qd Xd ∧ Kv ⟨K, B, E, Xd⟩ M H Qd Q ∧ ELink ⟨K, B, E, Xd⟩ M H
abbrev Pq := List D → (D → Prop) → (Value → Option (List (Str × V)) → Prop) → Prop
mutual
def ownD : D → Bool
  | .tup ds => ownDs ds
  | .lst .own ds => ownDs ds
  | .lst .arg _ => false
  | .lst .frz _ => false
  | .dic _ => false
  | .non => true
  | .bl _ => true
  | .int _ => true
  | .str _ => true
  | .val _ => true
def ownDs : List D → Bool
  | [] => true
  | d :: ds => ownD d && ownDs ds
end
mutual
/-- no list, no dict within -/
def noL : D → Bool
  | .tup ds => noLs ds
  | .lst _ _ => false
  | .dic _ => false
  | .non => true
  | .bl _ => true
  | .int _ => true
  | .str _ => true
  | .val _ => true
def noLs : List D → Bool
  | [] => true
  | d :: ds => noL d && noLs ds
end
def spP (K : PySem.W.Frag) (S : Pq) : Sp := fun vs H Q E => ∃ (ds : List D) (Qd : D → Prop) (Xd : Value → Option (List (Str × V)) → Prop), Trs K H mt H vs ds ∧ S ds Qd Xd ∧
  (∀ (v : V) (d : D) (H' : Hp), Tr K H mt H' v d → ownD d = true → Same H H' → Qd d → Q v H') ∧
  (∀ (cls : Value) (fs : Option (List (Str × V))) (H' : Hp), Same H H' → Xd cls fs → match fs with
    | none => E cls none H'
    | some l => ∀ d, H d = none → H' d = some (.xd l) → E cls (some d) H')

/-! ### views of arguments, the freezing of results -/
mutual
inductive Vw (M : Mp) : D → D → Prop
  | non : Vw M .non .non
  | bl (b : Bool) : Vw M (.bl b) (.bl b)
  | int (i : Int) : Vw M (.int i) (.int i)
  | str (x : Str) : Vw M (.str x) (.str x)
  | tup {ds es : List D} (h : Vws M ds es) : Vw M (.tup ds) (.tup es)
  | own {ds es : List D} (h : Vws M ds es) : Vw M (.lst .own ds) (.lst .arg es)
  | arg {ds es : List D} (h : Vws M ds es) : Vw M (.lst .arg ds) (.lst .arg es)
  | frz {ds es : List D} (h : Vws M ds es) : Vw M (.lst .frz ds) (.lst .frz es)
  | dic {kvs les : List (Key × D)} (e : kvs.map (·.1) = les.map (·.1)) (h : Vws M (kvs.map (·.2)) (les.map (·.2))) : Vw M (.dic kvs) (.dic les)
  | val (v : V) : Vw M (.val v) (.val v)
  | cell {a : Addr} {ds es : List D} (c : M a = some (.lst ds)) (h : Vws M ds es) : Vw M (.val (.ref a)) (.lst .arg es)
  | cellD {a : Addr} {kvs les : List (Key × D)} (c : M a = some (.dic kvs)) (e : kvs.map (·.1) = les.map (·.1)) (h : Vws M (kvs.map (·.2)) (les.map (·.2))) : Vw M (.val (.ref a)) (.dic les)
inductive Vws (M : Mp) : List D → List D → Prop
  | nil : Vws M [] []
  | cons {d e : D} {ds es : List D} (h : Vw M d e) (r : Vws M ds es) : Vws M (d :: ds) (e :: es)
end
mutual
inductive Fz (M : Mp) : D → D → Prop
  | non : Fz M .non .non
  | bl (b : Bool) : Fz M (.bl b) (.bl b)
  | int (i : Int) : Fz M (.int i) (.int i)
  | str (x : Str) : Fz M (.str x) (.str x)
  | tup {ds es : List D} (h : Fzs M ds es) : Fz M (.tup ds) (.tup es)
  | lst {k : LK} {ds es : List D} (h : Fzs M ds es) : Fz M (.lst k ds) (.lst k es)
  | val (v : V) : Fz M (.val v) (.val v)
  | cell {a : Addr} {ds es : List D} (c : M a = some (.lst ds)) (h : Fzs M ds es) : Fz M (.val (.ref a)) (.lst .own es)
inductive Fzs (M : Mp) : List D → List D → Prop
  | nil : Fzs M [] []
  | cons {d e : D} {ds es : List D} (h : Fz M d e) (r : Fzs M ds es) : Fzs M (d :: ds) (e :: es)
end
section
variable {K : PySem.W.Frag} {B : Hp} {M : Mp} {H : Hp}
theorem tupAt_mt {a : Addr} {vs : List V} (h : TupAt K M H a vs) : TupAt K mt H a vs := by
  rcases h with h | h
  · exact .inl ⟨h.1, rfl⟩
  · exact .inr h
theorem vw_tr (g : Good K B M H) {d e : D} (w : Vw M d e) : ∀ v, Tr K B M H v d → Tr K H mt H v e :=
  Vw.rec (motive_1 := fun d e _ => ∀ v, Tr K B M H v d → Tr K H mt H v e) (motive_2 := fun ds es _ => ∀ vs, Trs K B M H vs ds → Trs K H mt H vs es)
    (fun v t => by cases t; exact .non) (fun b v t => by cases t; exact .bl b) (fun i v t => by cases t; exact .int i) (fun x v t => by cases t; exact .str x)
    (fun _ ih v t => by
      cases t with
      | tup h r => exact .tup (tupAt_mt h) (ih _ r))
    (fun _ ih v t => by
      cases t with
      | lst h r => exact .lst (k := .arg) ⟨rfl, h.2.1⟩ (ih _ r))
    (fun _ ih v t => by
      cases t with
      | lst h r => exact .lst (k := .arg) ⟨rfl, h.2⟩ (ih _ r))
    (fun _ ih v t => by
      cases t with
      | lst h r => exact .lst (k := .frz) (h.imp (fun z => ⟨rfl, z.2⟩) id) (ih _ r))
    (fun e _ ih v t => by
      cases t with
      | dic h m q r => exact .dic h rfl (q.trans e) (ih _ r))
    (fun w v t => by cases t; exact .val w)
    (fun c _ ih v t => by
      cases tr_val t
      obtain ⟨ws, h1, h2⟩ := g.cell _ _ c
      exact .lst (k := .arg) ⟨rfl, h1⟩ (ih _ h2))
    (fun c e _ ih v t => by
      cases tr_val t
      obtain ⟨ws, h1, h2, h3⟩ := g.cell _ _ c
      exact .dic h1 rfl (h2.trans e) (ih _ h3))
    (fun vs t => by cases t; exact .nil)
    (fun _ _ ih1 ih2 vs t => by
      cases t with
      | cons h r => exact .cons (ih1 _ h) (ih2 _ r)) w
theorem vws_trs (g : Good K B M H) {ds es : List D} (w : Vws M ds es) {vs : List V} (t : Trs K B M H vs ds) : Trs K H mt H vs es := by
  induction ds generalizing vs es with
  | nil => cases t; cases w; exact .nil
  | cons d ds ih =>
    cases t with
    | cons h r => cases w with
      | cons w1 w2 => exact .cons (vw_tr g w1 _ h) (ih w2 r)
theorem fz_tr (g : Good K B M H) (hM : ∀ a c, M a = some c → B a = none) {d e : D} (w : Fz M d e) : ∀ v, Tr K B M H v d → Tr K B mt H v e :=
  Fz.rec (motive_1 := fun d e _ => ∀ v, Tr K B M H v d → Tr K B mt H v e) (motive_2 := fun ds es _ => ∀ vs, Trs K B M H vs ds → Trs K B mt H vs es)
    (fun v t => by cases t; exact .non) (fun b v t => by cases t; exact .bl b) (fun i v t => by cases t; exact .int i) (fun x v t => by cases t; exact .str x)
    (fun _ ih v t => by
      cases t with
      | tup h r => exact .tup (tupAt_mt h) (ih _ r))
    (fun {k} {ds} {es} _ ih v t => by
      cases t with
      | lst h r =>
        refine .lst (k := k) ?_ (ih _ r)
        cases k with
        | own => exact ⟨rfl, h.2⟩
        | arg => exact ⟨rfl, h.2⟩
        | frz => exact h.imp (fun z => ⟨rfl, z.2⟩) id)
    (fun w v t => by cases t; exact .val w)
    (fun c _ ih v t => by
      cases tr_val t
      obtain ⟨ws, h1, h2⟩ := g.cell _ _ c
      exact .lst (k := .own) ⟨rfl, h1, hM _ _ c⟩ (ih _ h2))
    (fun vs t => by cases t; exact .nil)
    (fun _ _ ih1 ih2 vs t => by
      cases t with
      | cons h r => exact .cons (ih1 _ h) (ih2 _ r)) w
end
/-- what holds no list is its own view, is frozen as it is -/
theorem vw_refl {M : Mp} : ∀ {d : D}, noL d = true → Vw M d d :=
  fun {d} => D.rec (motive_1 := fun d => noL d = true → Vw M d d) (motive_2 := fun ds => noLs ds = true → Vws M ds ds) (motive_3 := fun _ => True) (motive_4 := fun _ => True)
    (fun _ => .non) (fun b _ => .bl b) (fun i _ => .int i) (fun x _ => .str x) (fun ds ih h => .tup (ih (by simpa [noL] using h)))
    (fun k ds ih h => by simp [noL] at h) (fun kvs ih h => by simp [noL] at h) (fun v _ => .val v)
    (fun _ => .nil) (fun d ds ih1 ih2 h => by
      have h' : noL d = true ∧ noLs ds = true := by simpa [noLs] using h
      exact .cons (ih1 h'.1) (ih2 h'.2)) trivial (fun _ _ _ _ => trivial) (fun _ _ _ => trivial) d
theorem fz_refl {M : Mp} : ∀ {d : D}, noL d = true → Fz M d d :=
  fun {d} => D.rec (motive_1 := fun d => noL d = true → Fz M d d) (motive_2 := fun ds => noLs ds = true → Fzs M ds ds) (motive_3 := fun _ => True) (motive_4 := fun _ => True)
    (fun _ => .non) (fun b _ => .bl b) (fun i _ => .int i) (fun x _ => .str x) (fun ds ih h => .tup (ih (by simpa [noL] using h)))
    (fun k ds ih h => by simp [noL] at h) (fun kvs ih h => by simp [noL] at h) (fun v _ => .val v)
    (fun _ => .nil) (fun d ds ih1 ih2 h => by
      have h' : noL d = true ∧ noLs ds = true := by simpa [noLs] using h
      exact .cons (ih1 h'.1) (ih2 h'.2)) trivial (fun _ _ _ _ => trivial) (fun _ _ _ => trivial) d
theorem vws_refl {M : Mp} {ds : List D} (h : noLs ds = true) : Vws M ds ds := by
  have t : Vw M (.tup ds) (.tup ds) := vw_refl (d := .tup ds) (by simpa [noL] using h)
  cases t with
  | tup t => exact t
theorem fzs_refl {M : Mp} {ds : List D} (h : noLs ds = true) : Fzs M ds ds := by
  have t : Fz M (.tup ds) (.tup ds) := fz_refl (d := .tup ds) (by simpa [noL] using h)
  cases t with
  | tup t => exact t
theorem own_noL : ∀ {d : D}, noL d = true → ownD d = true :=
  fun {d} => D.rec (motive_1 := fun d => noL d = true → ownD d = true) (motive_2 := fun ds => noLs ds = true → ownDs ds = true) (motive_3 := fun _ => True) (motive_4 := fun _ => True)
    (fun _ => rfl) (fun b _ => rfl) (fun i _ => rfl) (fun x _ => rfl) (fun ds ih h => ih (by simpa [noL] using h))
    (fun k ds ih h => by simp [noL] at h) (fun kvs ih h => by simp [noL] at h) (fun v _ => rfl)
    (fun _ => rfl) (fun d ds ih1 ih2 h => by
      have h' : noL d = true ∧ noLs ds = true := by simpa [noLs] using h
      simp [ownDs, ih1 h'.1, ih2 h'.2]) trivial (fun _ _ _ _ => trivial) (fun _ _ _ => trivial) d
theorem owns_noL {ds : List D} (h : noLs ds = true) : ownDs ds = true := own_noL (d := .tup ds) h
section
variable {K : PySem.W.Frag} {B B' : Hp} {M M' : Mp} {H H' H0 : Hp}
/-- a result of a def that keeps all: in the caller's state -/
theorem back_tr (g : Good K B M H) (s : Same H H') {v : V} {d : D} (t : Tr K H mt H' v d) : ownD d = true → Tr K B M H' v d :=
  Tr.rec (motive_1 := fun v d _ => ownD d = true → Tr K B M H' v d) (motive_2 := fun vs ds _ => ownDs ds = true → Trs K B M H' vs ds)
    (fun _ => .non) (fun b _ => .bl b) (fun i _ => .int i) (fun x _ => .str x)
    (fun {a} {vs} {ds} h _ ih o => by
      refine .tup ?_ (ih (by simpa [ownD] using o))
      rcases h with h | h
      · refine .inl ⟨h.1, ?_⟩
        cases e : M a with
        | none => rfl
        | some c =>
          exfalso
          have hc := g.cell _ _ e
          cases c with
          | lst es => obtain ⟨ws, h1, _⟩ := hc; have := s _ _ h1; rw [h.1] at this; cases this
          | dic kvs => obtain ⟨ws, h1, _⟩ := hc; have := s _ _ h1; rw [h.1] at this; cases this
          | ins C fs => obtain ⟨dx, ws, h1, _⟩ := hc; have := s _ _ h1; rw [h.1] at this; cases this
          | tab q => obtain ⟨ws, h1, _⟩ := hc; have := s _ _ h1; rw [h.1] at this; cases this
          | dfz o ws kvs => have := s _ _ hc.1; rw [h.1] at this; cases this
          | lam L => obtain ⟨_, _, _, h1, _⟩ := hc; have := s _ _ h1; rw [h.1] at this; cases this
          | lamd L => obtain ⟨_, _, _, _, _, h1, _⟩ := hc; have := s _ _ h1; rw [h.1] at this; cases this
          | cel d => obtain ⟨_, h1, _⟩ := hc; have := s _ _ h1; rw [h.1] at this; cases this
      · exact .inr h)
    (fun {k} {a} {vs} {ds} h _ ih o => by
      cases k with
      | own => exact .lst (k := .own) ⟨g.free h.2.2, h.2.1, g.base _ h.2.2⟩ (ih (by simpa [ownD] using o))
      | arg => simp [ownD] at o
      | frz => simp [ownD] at o)
    (fun _ _ _ _ _ o => by simp [ownD] at o) (fun v _ => .val v) (fun _ => .nil)
    (fun {v} {d} {vs} {ds} _ _ ih1 ih2 o => by
      have o' : ownD d = true ∧ ownDs ds = true := by simpa [ownDs] using o
      exact .cons (ih1 o'.1) (ih2 o'.2)) t
/-- what holds no list stands whatever cell is new -/
theorem noL_tr {p : Addr} {c : Cell} (hp : ∀ vs, H' p ≠ some (.tup vs)) {v : V} {d : D} (t : Tr K B M H' v d) : noL d = true → Tr K B (updM M p c) H' v d :=
  Tr.rec (motive_1 := fun v d _ => noL d = true → Tr K B (updM M p c) H' v d) (motive_2 := fun vs ds _ => noLs ds = true → Trs K B (updM M p c) H' vs ds)
    (fun _ => .non) (fun b _ => .bl b) (fun i _ => .int i) (fun x _ => .str x)
    (fun {a} {vs} {ds} h _ ih o => by
      refine .tup ?_ (ih (by simpa [noL] using o))
      rcases h with h | h
      · refine .inl ⟨h.1, ?_⟩
        by_cases q : a = p
        · subst q
          exact absurd h.1 (hp _)
        · rw [updM_ne q]; exact h.2
      · exact .inr h)
    (fun {k} {a} {vs} {ds} h _ ih o => by simp [noL] at o)
    (fun _ _ _ _ _ o => by simp [noL] at o) (fun v _ => .val v) (fun _ => .nil)
    (fun {v} {d} {vs} {ds} _ _ ih1 ih2 o => by
      have o' : noL d = true ∧ noLs ds = true := by simpa [noLs] using o
      exact .cons (ih1 o'.1) (ih2 o'.2)) t
theorem same_ext (g : Good K B M H) (s : Same H H') : Ext M H M H' := fun a o m e => ⟨m, s a o e⟩
theorem Good.same (g : Good K B M H) (s : Same H H') : Good K B M H' where
  base := fun a e => g.base _ (s.free e)
  cell := fun a c e => by
    have hc := g.cell _ _ e
    obtain ⟨o, ho⟩ := hc.there
    exact hc.mono (same_ext g s) ((s _ _ ho).trans ho.symm)
end

/-! ### calls -/
section
variable {P : Pr} {M : Mp} {Q : D → Mp → Prop} {ε : DSt} {al : TA} {ta : TE} {S : Sq} {S' : Pq}
theorem callI_core {E : XK} {vs : List V} {ds : List D} {H : Hp} {R : VK} (X : Xq) (t : Trs P.K P.B M H vs ds) (g : Good P.K P.B M H) (h : S ds M Q X) (k : Kv P M H Q R) (l : ELink ⟨P.K, P.B, E, X⟩ M H) : spI P.K S (vs ++ []) H R E := by
  rw [List.append_nil]
  exact ⟨P.B, ds, M, Q, X, t, g, h, k, l⟩
theorem link0 {K B M H} : ELink ⟨K, B, E0, X0⟩ M H := fun _ _ _ _ _ _ x => x.elim
theorem de_callI0 (h : DA P al ε M fun ds M1 => S ds M1 Q X0) : DE P (tCall (spI P.K S) [] E0 al) ε M Q := fun σ H R a k => by
  refine h σ H _ a fun vs ds M1 H1 t1 g1 e1 h1 => ?_
  exact callI_core X0 t1 g1 h1 (k.ext e1) link0
theorem de_callI (h : DA P al ε M fun ds M1 => S ds M1 Q P.X) : DE P (tCall (spI P.K S) [] P.E al) ε M Q := fun σ H R a k => by
  refine h σ H _ a fun vs ds M1 H1 t1 g1 e1 h1 => ?_
  exact callI_core P.X t1 g1 h1 (k.ext e1) (a.link.ext e1)
theorem de_methI0 {C : Addr} {m : Str} (h : DE P ta ε M fun x M1 => ∃ p fs, x = .val (.ref p) ∧ M1 p = some (.ins C fs) ∧ fs.lookup m = none ∧ DA P al ε M1 fun ds M2 => S (.val (.ref p) :: ds) M2 Q X0) :
    DE P (tMeth C m (spI P.K S) [] E0 ta al) ε M Q := fun σ H R a k => by
  refine h σ H _ a fun v d M1 H1 t1 g1 e1 h1 => ?_
  obtain ⟨p, fs, rfl, hp, hl, h1⟩ := h1
  cases tr_val t1
  obtain ⟨dx, ws, h2, h3, h4⟩ := g1.cell _ _ hp
  refine ⟨p, dx, ws, rfl, h2, (Tab.look (f := m) ⟨h3, h4⟩).2 hl, ?_⟩
  refine h1 σ H1 _ (a.ext g1 e1) fun vs ds M2 H2 t2 g2 e2 h5 => ?_
  exact callI_core (vs := .ref p :: vs) X0 (.cons (.val _) t2) g2 h5 (k.ext (e1.trans e2)) link0
theorem de_makeI0 {C : Addr} (h : DA P al ε M fun ds M1 => ∀ p, M1 p = none → P.B p = none → S (.val (.ref p) :: ds) (updM M1 p (.ins C [])) (fun d M2 => d = .non ∧ Q (.val (.ref p)) M2) X0) :
    DE P (tMake C (spI P.K S) [] E0 al) ε M Q := fun σ H R a k => by
  refine h σ H _ a fun vs ds M1 H1 t1 g1 e1 h1 x dx nx ndx ne => ?_
  have q := h1 x (g1.free nx) (g1.base _ nx)
  have e2 : Ext M1 H1 M1 (upd H1 dx (.own x)) := ext_new ndx
  have nx' : upd H1 dx (.own x) x = none := by rw [upd_ne (fun z => ne z.symm)]; exact nx
  have e3 : Ext M1 H1 (updM M1 x (.ins C [])) (upd (upd H1 dx (.own x)) x (.ins C dx [])) := e2.trans (ext_cell nx')
  have g3 : Good P.K P.B (updM M1 x (.ins C [])) (upd (upd H1 dx (.own x)) x (.ins C dx [])) := (g1.new ndx).newCell (c := .ins C []) nx' ⟨dx, [], upd_same, rfl, .nil⟩
  refine callI_core (vs := .ref x :: vs) X0 (.cons (.val _) (t1.ext e3)) g3 q (fun v d M4 H4 t4 g4 e4 h4 => ?_) link0
  obtain ⟨rfl, h4⟩ := h4
  exact ⟨tr_non t4, k _ _ _ _ (.val _) g4 (e1.trans (e3.trans e4)) h4⟩
/-- a def that keeps all that stood -/
theorem callP_core {E : XK} {vs : List V} {ds es : List D} {H : Hp} {R : VK} (X : Value → Option (List (Str × V)) → Prop) (t : Trs P.K P.B M H vs ds) (g : Good P.K P.B M H) (w : Vws M ds es) (Qd : D → Prop) (h : S' es Qd X)
    (k : ∀ (v : V) (d : D) (H' : Hp), Tr P.K H mt H' v d → ownD d = true → Same H H' → Good P.K P.B M H' → Qd d → R v H')
    (l : ∀ cls fs H', Same H H' → X cls fs → match fs with
      | none => E cls none H'
      | some l => ∀ d, H d = none → H' d = some (.xd l) → E cls (some d) H') : spP P.K S' (vs ++ []) H R E := by
  rw [List.append_nil]
  exact ⟨es, Qd, X, vws_trs g w t, h, fun v d H' t o s q => k v d H' t o s (g.same s) q, l⟩
theorem de_callP0 (h : DA P al ε M fun ds M1 => ∃ es, Vws M1 ds es ∧ S' es (fun d => Q d M1) fun _ _ => False) : DE P (tCall (spP P.K S') [] E0 al) ε M Q := fun σ H R a k => by
  refine h σ H _ a fun vs ds M1 H1 t1 g1 e1 h1 => ?_
  obtain ⟨es, w, h1⟩ := h1
  exact callP_core (fun _ _ => False) t1 g1 w _ h1 (fun v d H' t o s g q => k v d M1 H' (back_tr g1 s t o) g (e1.trans (same_ext g1 s)) q) (fun _ _ _ _ x => x.elim)
/-- may raise: where the def that calls lets it out -/
theorem de_callP (h : DA P al ε M fun ds M1 => ∃ es, Vws M1 ds es ∧ S' es (fun d => Q d M1) fun cls fs => P.X cls fs M1) : DE P (tCall (spP P.K S') [] P.E al) ε M Q := fun σ H R a k => by
  refine h σ H _ a fun vs ds M1 H1 t1 g1 e1 h1 => ?_
  obtain ⟨es, w, h1⟩ := h1
  refine callP_core _ t1 g1 w _ h1 (fun v d H' t o s g q => k v d M1 H' (back_tr g1 s t o) g (e1.trans (same_ext g1 s)) q) (fun cls fs H' s x => ?_)
  have q := a.link cls fs M1 H' (g1.same s) (e1.trans (same_ext g1 s)) x
  cases fs with
  | none => exact q
  | some l => exact fun d hd he => q d (g1.base _ hd) (g1.free hd) he
theorem trs_noL {p : Addr} {c : Cell} {H' : Hp} (hp : ∀ vs, H' p ≠ some (.tup vs)) {vs : List V} {ds : List D} (t : Trs P.K P.B M H' vs ds) (n : noLs ds = true) : Trs P.K P.B (updM M p c) H' vs ds := by
  induction ds generalizing vs with
  | nil => cases t; exact .nil
  | cons d ds ih =>
    have n' : noL d = true ∧ noLs ds = true := by simpa [noLs] using n
    cases t with
    | cons h r => exact .cons (noL_tr hp h n'.1) (ih r n'.2)
/-- its answer a new list: as a cell -/
theorem thaw {v : V} {xs : List D} {H H' : Hp} (g : Good P.K P.B M H) (s : Same H H') (t : Tr P.K H mt H' v (.lst .own xs)) (n : noLs xs = true) :
    ∃ p, v = .ref p ∧ M p = none ∧ P.B p = none ∧ Good P.K P.B (updM M p (.lst xs)) H' ∧ Ext M H (updM M p (.lst xs)) H' := by
  cases t with
  | @lst k a vs ds h r =>
    obtain ⟨_, h1, h2⟩ := h
    have hn : ∀ vs, H' a ≠ some (.tup vs) := fun us e => by rw [h1] at e; cases e
    have e1 : Ext M H (updM M a (.lst xs)) H' := fun b o m e => by
      have ne := ne_of_none e h2
      exact ⟨by rw [updM_ne ne]; exact m, s _ _ e⟩
    have tr : Trs P.K P.B (updM M a (.lst xs)) H' vs xs := by
      have t1 : Trs P.K P.B M H' vs xs := by
        have := back_tr g s (v := .ref a) (d := .lst .own xs) (.lst (k := .own) ⟨rfl, h1, h2⟩ r) (by simpa [ownD] using owns_noL n)
        cases this with
        | lst h' r' =>
          have e2 := HO.lst.inj (Option.some.inj (h1.symm.trans h'.2.1))
          rw [e2]
          exact r'
      exact trs_noL hn t1 n
    refine ⟨a, rfl, g.free h2, g.base _ h2, ⟨fun b e => g.base _ (s.free e), fun b c e => ?_⟩, e1⟩
    by_cases q : b = a
    · subst q
      rw [updM_same] at e
      cases e
      exact ⟨vs, h1, tr⟩
    · rw [updM_ne q] at e
      obtain ⟨o, ho⟩ := (g.cell _ _ e).there
      exact (g.cell _ _ e).mono e1 ((s _ _ ho).trans ho.symm)
theorem de_callPC0 (h : DA P al ε M fun ds M1 => ∃ es, Vws M1 ds es ∧ S' es (fun d => ∃ xs, d = .lst .own xs ∧ noLs xs = true ∧ ∀ p, M1 p = none → P.B p = none → Q (.val (.ref p)) (updM M1 p (.lst xs))) fun _ _ => False) : DE P (tCall (spP P.K S') [] E0 al) ε M Q := fun σ H R a k => by
  refine h σ H _ a fun vs ds M1 H1 t1 g1 e1 h1 => ?_
  obtain ⟨es, w, h1⟩ := h1
  refine callP_core (fun _ _ => False) t1 g1 w _ h1 (fun v d H' t o s g q => ?_) (fun _ _ _ _ x => x.elim)
  obtain ⟨xs, rfl, n, q⟩ := q
  obtain ⟨p, rfl, h2, h3, g4, e4⟩ := thaw g1 s t n
  exact k _ _ _ _ (.val _) g4 (e1.trans e4) (q p h2 h3)
end

/-! ### a def of the text keeps its promise -/
def startD (N : List Str) (ds : List D) : DSt := ds.map some ++ List.replicate (N.length - ds.length) none
theorem start_env {K B M H} {N : List Str} {vs : List V} {ds : List D} (t : Trs K B M H vs ds) : EnvR K B M H (L2.start N vs) (startD N ds) := by
  have hl := t.length
  refine ⟨by unfold L2.start startD; simp [hl], fun i d h => ?_⟩
  unfold startD at h
  by_cases hi : i < ds.length
  · rw [List.getElem?_append_left (by simpa using hi), List.getElem?_map] at h
    cases e : ds[i]? with
    | none => rw [e] at h; cases h
    | some d' =>
      rw [e] at h
      cases h
      obtain ⟨v, h1, h2⟩ := t.get e
      refine ⟨v, ?_, h2⟩
      unfold L2.start
      rw [List.getElem?_append_left (by simp [hl]; exact hi), List.getElem?_map, h1]
      rfl
  · rw [List.getElem?_append_right (by simpa using hi), List.getElem?_replicate] at h
    split at h <;> cases h
section
variable {P : Program} {w : World} {K : PySem.W.Frag} {mg : Str → Option Value} {base : Heap}
theorem ok_cx {k : Nat} {f : Addr} {fd : FuncData} {ps : List Str} {sp : Sp} (F : FnOk P w K mg base CX0 k f fd ps sp) : FnOk P w K mg base (L2.CX P w) k f fd ps sp :=
  ⟨F.len, fun A outer s H args us vs Q E hr he hb hv hs => codeAny_mono (F.run A outer s H args us vs Q E hr he hb hv hs) fun r s' q => by
    cases r with
    | error e => exact (show False from q).elim
    | ok fl => cases fl <;> exact q⟩
variable {x qual : Str} {st : Stmt} {f : Addr} {fd : FuncData} {N ps : List Str} {k : Nat} {S : Sq} {S' : Pq}
theorem len_of {K B M H} {vs : List V} {ds : List D} {n : Nat} (t : Trs K B M H vs ds) (h : ds.length = n) : vs.length = n := t.length.trans h
theorem runI {B : Hp} {E : XK} {t : TS} {vs : List V} {H : Hp} {Q : VK} (h : spI K S vs H Q E) (hd : ∀ B ds M Qd Xd, S ds M Qd Xd → DS ⟨K, B, E, Xd⟩ t { nx := fun _ M' => Qd .non M', rt := Qd } (startD N ds) M) :
    t { nx := fun _ H' => Q .non H', rt := Q } (L2.start N vs) H := by
  obtain ⟨B, ds, M, Qd, Xd, t1, g, hs, kq, l⟩ := h
  refine hd B ds M Qd Xd hs (L2.start N vs) H _ ⟨start_env t1, g, l⟩ ⟨fun σ ε M' H' _ g' e q => kq _ _ M' H' .non g' e q, kq, fun _ _ _ _ _ _ _ q => q.elim, fun _ _ _ _ _ _ _ q => q.elim⟩
theorem runP {E : XK} {t : TS} {vs : List V} {H : Hp} {Q : VK} (h : spP K S' vs H Q E) (hd : ∀ B ds Qd Xd, S' ds Qd Xd → DS ⟨K, B, E, fun cls fs _ => Xd cls fs⟩ t { nx := fun _ _ => Qd .non, rt := fun d M' => ∃ d', Fz M' d d' ∧ ownD d' = true ∧ Qd d' } (startD N ds) mt) :
    t { nx := fun _ H' => Q .non H', rt := Q } (L2.start N vs) H := by
  obtain ⟨ds, Qd, Xd, t1, hs, kq, kx⟩ := h
  have g0 : Good K H mt H := ⟨fun _ h => h, fun _ _ h => by cases h⟩
  have sm : ∀ {M' H'}, Ext mt H M' H' → Same H H' := fun e b o h => (e b o rfl h).2
  refine hd H ds Qd Xd hs (L2.start N vs) H _ ⟨start_env t1, g0, fun cls fs M' H' g' e x => ?_⟩
    ⟨fun σ ε M' H' _ g' e q => kq _ _ H' .non rfl (sm e) q, fun v d M' H' t' g' e q => ?_, fun _ _ _ _ _ _ _ q => q.elim, fun _ _ _ _ _ _ _ q => q.elim⟩
  · have q := kx cls fs H' (sm e) x
    cases fs with
    | none => exact q
    | some l => exact fun d hd _ he => q d hd he
  · obtain ⟨d', fz, o, q⟩ := q
    refine kq v d' H' (fz_tr g' (fun a c hc => ?_) fz v t') o (sm e) q
    show H a = none
    cases eh : H a with
    | none => rfl
    | some o' =>
      have := (e a o' rfl eh).1
      rw [hc] at this
      cases this
theorem fnI (F : Fun K x qual st f fd) (sc : FnScope N ps (defScope st)) (hl : ∀ ds M Q X, S ds M Q X → ds.length = ps.length)
    (hb : ∀ (cdv : Value) (A : Around) (outer : List Env) (s : Shared) (H : Hp) (E : XK), Room k (A.deeper (envOfC qual (defScope st) s.heap.objs.size f cdv)) →
      ∃ t, PSs (cxOf CX0 P w K mg base N qual (defScope st) f cdv A outer s H E).nox (defBody st) t ∧ ∀ B ds M Qd Xd, S ds M Qd Xd → DS ⟨K, B, E, Xd⟩ t { nx := fun _ M' => Qd .non M', rt := Qd } (startD N ds) M) :
    FnOk P w K mg base (L2.CX P w) (k + 1) f fd ps (spI K S) := by
  refine ok_cx (F.ok sc (fun vs H Q E h => ?_) fun cdv A outer s H vs Q E hr h => ?_)
  · obtain ⟨B, ds, M, Qd, Xd, t1, g, hs, _⟩ := h
    exact len_of t1 (hl _ _ _ _ hs)
  · obtain ⟨t, h1, h2⟩ := hb cdv A outer s H E hr
    exact ⟨t, h1, runI (B := H) h h2⟩
theorem fnP (F : Fun K x qual st f fd) (sc : FnScope N ps (defScope st)) (hl : ∀ ds Q X, S' ds Q X → ds.length = ps.length)
    (hb : ∀ (cdv : Value) (A : Around) (outer : List Env) (s : Shared) (H : Hp) (E : XK), Room k (A.deeper (envOfC qual (defScope st) s.heap.objs.size f cdv)) →
      ∃ t, PSs (cxOf CX0 P w K mg base N qual (defScope st) f cdv A outer s H E).nox (defBody st) t ∧
        ∀ B ds Qd Xd, S' ds Qd Xd → DS ⟨K, B, E, fun cls fs _ => Xd cls fs⟩ t { nx := fun _ _ => Qd .non, rt := fun d M' => ∃ d', Fz M' d d' ∧ ownD d' = true ∧ Qd d' } (startD N ds) mt) :
    FnOk P w K mg base (L2.CX P w) (k + 1) f fd ps (spP K S') := by
  refine ok_cx (F.ok sc (fun vs H Q E h => ?_) fun cdv A outer s H vs Q E hr h => ?_)
  · obtain ⟨ds, Qd, Xd, t1, hs, _⟩ := h
    exact len_of t1 (hl _ _ _ hs)
  · obtain ⟨t, h1, h2⟩ := hb cdv A outer s H E hr
    exact ⟨t, h1, runP h h2⟩
theorem fnIX (F : Fun K x qual st f fd) (sc : FnScope N ps (defScope st)) (hl : ∀ ds M Q X, S ds M Q X → ds.length = ps.length)
    (hb : ∀ (cdv : Value) (A : Around) (outer : List Env) (s : Shared) (H : Hp) (E : XK), Room k (A.deeper (envOfC qual (defScope st) s.heap.objs.size f cdv)) →
      ∃ t, PSs (cxOf (L2.CX P w) P w K mg base N qual (defScope st) f cdv A outer s H E) (defBody st) t ∧ ∀ B ds M Qd Xd, S ds M Qd Xd → DS ⟨K, B, E, Xd⟩ t { nx := fun _ M' => Qd .non M', rt := Qd } (startD N ds) M) :
    FnOk P w K mg base (L2.CX P w) (k + 1) f fd ps (spI K S) := by
  refine F.okX sc (fun vs H Q E h => ?_) fun cdv A outer s H vs Q E hr h => ?_
  · obtain ⟨B, ds, M, Qd, Xd, t1, g, hs, _⟩ := h
    exact len_of t1 (hl _ _ _ _ hs)
  · obtain ⟨t, h1, h2⟩ := hb cdv A outer s H E hr
    exact ⟨t, h1, runI (B := H) h h2⟩
theorem fnPX (F : Fun K x qual st f fd) (sc : FnScope N ps (defScope st)) (hl : ∀ ds Q X, S' ds Q X → ds.length = ps.length)
    (hb : ∀ (cdv : Value) (A : Around) (outer : List Env) (s : Shared) (H : Hp) (E : XK), Room k (A.deeper (envOfC qual (defScope st) s.heap.objs.size f cdv)) →
      ∃ t, PSs (cxOf (L2.CX P w) P w K mg base N qual (defScope st) f cdv A outer s H E) (defBody st) t ∧
        ∀ B ds Qd Xd, S' ds Qd Xd → DS ⟨K, B, E, fun cls fs _ => Xd cls fs⟩ t { nx := fun _ _ => Qd .non, rt := fun d M' => ∃ d', Fz M' d d' ∧ ownD d' = true ∧ Qd d' } (startD N ds) mt) :
    FnOk P w K mg base (L2.CX P w) (k + 1) f fd ps (spP K S') := by
  refine F.okX sc (fun vs H Q E h => ?_) fun cdv A outer s H vs Q E hr h => ?_
  · obtain ⟨ds, Qd, Xd, t1, hs, _⟩ := h
    exact len_of t1 (hl _ _ _ hs)
  · obtain ⟨t, h1, h2⟩ := hb cdv A outer s H E hr
    exact ⟨t, h1, runP h h2⟩
end
end DL

namespace DL
open PySem L2 PyProof.Rows PySem.Spec

/-! ### what is walked -/
/-- a list, a tuple, a text's signs -/
def iSeq (K : PySem.W.Frag) (tl : TE) : TI := fun σ H R => tl σ H fun x H1 => (∃ a, x = .ref a ∧ (∃ xs, SqL K H1 a xs) ∧ R (Itl K a) H1) ∨ ((∃ a, x = .ref a ∧ (∃ xs, SqT K H1 a xs) ∧ R (Itt K a) H1) ∨ ∃ z, x = .str z ∧ R (Its z) H1)
theorem pi_seq {X : Cx} {tg l : Expr} {tl : TE} (hl : PE X l tl) : PI X tg l (iSeq X.K tl) := by
  refine ⟨fun pins s σ H R I h => ?_⟩
  refine thn (hl.run pins s σ H _ I h) fun v s1 ⟨x, H1, I1, r1, q1⟩ => ?_
  rcases q1 with ⟨a, e, ⟨xs, hq⟩, q⟩ | ⟨a, e, ⟨xs, hq⟩, q⟩ | ⟨y, e, q⟩
  · subst e
    cases r1
    obtain ⟨its, rv, p, hz⟩ := I1.list hq
    refine wpAny_pyIter_list p.isList ?_
    refine ⟨s1.heap.objs.size, [s1.heap.objs.size], _, _, H1, rfl, I1.kept (t' := s1.toks) fun b o e => Heap.get?_push_of_some _ e, turn_list a _, ⟨_, Heap.get?_push_size _ rfl, rfl, rfl⟩, fun b hb => ?_, q⟩
    have e : b = s1.heap.objs.size := by simpa using hb
    subst e
    exact I1.fpOk (Nat.le_refl _) (I1.hok.fresh (Nat.le_refl _))
  · subst e
    cases r1
    obtain ⟨its, rv, p, hz⟩ := I1.tuple hq
    refine wpAny_pyIter_tuple (show s1.heap.IsTuple a its.toArray from p) ?_
    refine ⟨s1.heap.objs.size, [s1.heap.objs.size], _, _, H1, rfl, I1.kept (t' := s1.toks) fun b o e => Heap.get?_push_of_some _ e, turn_tuple a _, ⟨_, Heap.get?_push_size _ rfl, rfl, rfl⟩, fun b hb => ?_, q⟩
    have e : b = s1.heap.objs.size := by simpa using hb
    subst e
    exact I1.fpOk (Nat.le_refl _) (I1.hok.fresh (Nat.le_refl _))
  · subst e
    obtain ⟨t, rfl⟩ := r1
    cases ha : y.cps.all (· < 128)
    · exact wpAny_pyIter_wide ha (pi_one (tk := s1.toks) I1 _ (turn_str _ y t "str_iterator" (.inr rfl)) ⟨_, Heap.get?_push_size _ rfl, rfl, rfl⟩ q)
    · exact wpAny_pyIter_ascii ha (pi_one (tk := s1.toks) I1 _ (turn_str _ y t "str_ascii_iterator" (.inl rfl)) ⟨_, Heap.get?_push_size _ rfl, rfl, rfl⟩ q)

/-- an iterator gives the items xs in turn, while Ok holds of the cells -/
structure ItOk (P : Pr) (J : It) (xs : List D) (Ok : Mp → Prop) (M1 : Mp) (H1 : Hp) : Prop where
  go : ∀ (i : Nat) (M : Mp) (H : Hp), Good P.K P.B M H → Ext M1 H1 M H → Ok M → i < xs.length → J.go i H
  yld : ∀ (i : Nat) (M : Mp) (H : Hp), Good P.K P.B M H → Ext M1 H1 M H → Ok M → ∀ (x : V) (H' : Hp), J.yld i H x H' → i < xs.length → ∃ d, xs[i]? = some d ∧ Tr P.K P.B M H' x d ∧ Good P.K P.B M H' ∧ Ext M H M H'
  stop : ∀ (M : Mp) (H : Hp), Good P.K P.B M H → Ext M1 H1 M H → Ok M → J.stop xs.length H
def DI (P : Pr) (wi : TI) (ε : DSt) (M : Mp) (Q : List D → (Mp → Prop) → Mp → Prop) : Prop := ∀ (σ : L2.St) (H : Hp) (R : It → Hp → Prop), At P ε M σ H →
  (∀ (J : It) (xs : List D) (Ok : Mp → Prop) (M' : Mp) (H' : Hp), Good P.K P.B M' H' → Ext M H M' H' → ItOk P J xs Ok M' H' → Q xs Ok M' → R J H') → wi σ H R
section
variable {P : Pr} {M : Mp} {ε : DSt} {Q : D → Mp → Prop} {te : TE} {al : TA} {QI : List D → (Mp → Prop) → Mp → Prop}
theorem itok_list {a : Addr} {x : D} {xs : List D} {H : Hp} (t : Tr P.K P.B M H (.ref a) x) (hx : ∃ k, x = .lst k xs) : ItOk P (Itl P.K a) xs (fun _ => True) M H := by
  have key : ∀ M' H', Ext M H M' H' → ∃ vs, SqL P.K H' a vs ∧ Trs P.K P.B M' H' vs xs := fun M' H' e => by
    obtain ⟨k, rfl⟩ := hx
    cases t.ext e with
    | lst h r => exact ⟨_, h.sq, r⟩
  refine ⟨fun i M' H' g e _ hi => ?_, fun i M' H' g e _ y H'' h hi => ?_, fun M' H' g e _ => ?_⟩
  · obtain ⟨vs, h1, r⟩ := key _ _ e
    exact ⟨vs, vs[i]'(by rw [r.length]; exact hi), h1, List.getElem?_eq_getElem _⟩
  · obtain ⟨rfl, h⟩ := h
    obtain ⟨vs, h1, r⟩ := key _ _ e
    obtain ⟨d, h2, h3⟩ := r.getV (h vs h1)
    exact ⟨d, h2, h3, g, Ext.refl _ _⟩
  · obtain ⟨vs, h1, r⟩ := key _ _ e
    exact ⟨vs, h1, by rw [r.length]; exact Nat.le_refl _⟩
theorem itok_cell {a : Addr} {xs : List D} {H : Hp} : ItOk P (Itl P.K a) xs (fun M => M a = some (.lst xs)) M H := by
  have key : ∀ M' H', Good P.K P.B M' H' → M' a = some (.lst xs) → ∃ vs, SqL P.K H' a vs ∧ Trs P.K P.B M' H' vs xs := fun M' H' g e => by
    obtain ⟨vs, h1, r⟩ := g.cell _ _ e
    exact ⟨vs, .inl (.inl h1), r⟩
  refine ⟨fun i M' H' g e o hi => ?_, fun i M' H' g e o y H'' h hi => ?_, fun M' H' g e o => ?_⟩
  · obtain ⟨vs, h1, r⟩ := key _ _ g o
    exact ⟨vs, vs[i]'(by rw [r.length]; exact hi), h1, List.getElem?_eq_getElem _⟩
  · obtain ⟨rfl, h⟩ := h
    obtain ⟨vs, h1, r⟩ := key _ _ g o
    obtain ⟨d, h2, h3⟩ := r.getV (h vs h1)
    exact ⟨d, h2, h3, g, Ext.refl _ _⟩
  · obtain ⟨vs, h1, r⟩ := key _ _ g o
    exact ⟨vs, h1, by rw [r.length]; exact Nat.le_refl _⟩
theorem itok_tup {a : Addr} {xs : List D} {H : Hp} (t : Tr P.K P.B M H (.ref a) (.tup xs)) : ItOk P (Itt P.K a) xs (fun _ => True) M H := by
  have key : ∀ M' H', Ext M H M' H' → ∃ vs, SqT P.K H' a vs ∧ Trs P.K P.B M' H' vs xs := fun M' H' e => by
    obtain ⟨b, vs, e1, h1, r⟩ := tup_at (t.ext e)
    cases e1
    exact ⟨vs, h1, r⟩
  refine ⟨fun i M' H' g e _ hi => ?_, fun i M' H' g e _ y H'' h hi => ?_, fun M' H' g e _ => ?_⟩
  · obtain ⟨vs, h1, r⟩ := key _ _ e
    exact ⟨vs, vs[i]'(by rw [r.length]; exact hi), h1, List.getElem?_eq_getElem _⟩
  · obtain ⟨rfl, h⟩ := h
    obtain ⟨vs, h1, r⟩ := key _ _ e
    obtain ⟨d, h2, h3⟩ := r.getV (h vs h1)
    exact ⟨d, h2, h3, g, Ext.refl _ _⟩
  · obtain ⟨vs, h1, r⟩ := key _ _ e
    exact ⟨vs, h1, by rw [r.length]; exact Nat.le_refl _⟩
/-- the signs of a text -/
def signs (z : Str) : List D := z.cps.toList.map fun c => .str ⟨#[c]⟩
theorem itok_str {z : Str} {H : Hp} : ItOk P (Its z) (signs z) (fun _ => True) M H := by
  have hl : (signs z).length = z.cps.size := by unfold signs; rw [List.length_map, Array.length_toList]
  refine ⟨fun i M' H' g e _ hi => ?_, fun i M' H' g e _ y H'' h hi => ?_, fun M' H' g e _ => ?_⟩
  · rw [hl] at hi; exact hi
  · obtain ⟨rfl, c, h1, rfl⟩ := h
    refine ⟨.str ⟨#[c]⟩, ?_, .str _, g, Ext.refl _ _⟩
    unfold signs
    rw [List.getElem?_map, Array.getElem?_toList, h1]
    rfl
  · rw [hl]; exact Nat.le_refl _
inductive Src : D → List D → (M : Mp) → (Mp → Prop) → Prop
  | lst (k : LK) (xs : List D) (M : Mp) : Src (.lst k xs) xs M fun _ => True
  | cell {a : Addr} {xs : List D} {M : Mp} (h : M a = some (.lst xs)) : Src (.val (.ref a)) xs M fun M => M a = some (.lst xs)
  | tup (xs : List D) (M : Mp) : Src (.tup xs) xs M fun _ => True
  | str (z : Str) (M : Mp) : Src (.str z) (signs z) M fun _ => True
theorem di_seq (h : DE P te ε M fun x M1 => ∃ xs Ok, Src x xs M1 Ok ∧ QI xs Ok M1) : DI P (iSeq P.K te) ε M QI := fun σ H R a k => by
  refine h σ H _ a fun v d M1 H1 t1 g1 e1 h1 => ?_
  obtain ⟨xs, Ok, s, q⟩ := h1
  cases s with
  | lst kk xs =>
    have t1' := t1
    cases t1 with
    | lst h r =>
      exact .inl ⟨_, rfl, ⟨_, h.sq⟩, k _ xs _ M1 H1 g1 e1 (itok_list t1' ⟨_, rfl⟩) q⟩
  | cell hc =>
    cases tr_val t1
    obtain ⟨vs, h1, r⟩ := g1.cell _ _ hc
    exact .inl ⟨_, rfl, ⟨vs, .inl (.inl h1)⟩, k _ xs _ M1 H1 g1 e1 itok_cell q⟩
  | tup =>
    have t1' := t1
    obtain ⟨b, vs, rfl, h1, r⟩ := tup_at t1
    exact .inr (.inl ⟨b, rfl, ⟨vs, h1⟩, k _ xs _ M1 H1 g1 e1 (itok_tup t1') q⟩)
  | str z =>
    cases tr_str t1
    exact .inr (.inr ⟨z, rfl, k _ _ _ M1 H1 g1 e1 itok_str q⟩)
def intsD (lo : Int) (n : Nat) : List D := (List.range n).map fun i => .int (lo + (i : Nat))
theorem intsD_len {lo : Int} {n : Nat} : (intsD lo n).length = n := by unfold intsD; rw [List.length_map, List.length_range]
theorem itok_rng {lo : Int} {n : Nat} {H : Hp} : ItOk P (Itr lo n) (intsD lo n) (fun _ => True) M H := by
  refine ⟨fun i M' H' g e _ hi => ?_, fun i M' H' g e _ y H'' h hi => ?_, fun M' H' g e _ => ?_⟩
  · rw [intsD_len] at hi; exact hi
  · obtain ⟨rfl, rfl⟩ := h
    rw [intsD_len] at hi
    refine ⟨.int (lo + i), ?_, .int _, g, Ext.refl _ _⟩
    unfold intsD
    rw [List.getElem?_map, List.getElem?_range hi]
    rfl
  · rw [intsD_len]; exact Nat.le_refl _
theorem di_rng1 (h : DA P al ε M fun ds M1 => ∃ j : Int, ds = [.int j] ∧ -(2 ^ 62) ≤ j ∧ j < 2 ^ 62 ∧ QI (intsD 0 j.toNat) (fun _ => True) M1) : DI P (iRng1 al) ε M QI := fun σ H R a k => by
  refine h σ H _ a fun vs ds M1 H1 t1 g1 e1 h1 => ?_
  obtain ⟨j, rfl, h2, h3, q⟩ := h1
  obtain ⟨v, rfl, r⟩ := trs1 t1
  cases tr_int r
  exact ⟨j, rfl, h2, h3, k _ _ _ M1 H1 g1 e1 itok_rng q⟩
/-- enumerate: a new tuple each -/
def pairsFrom (xs : List D) : List D := (List.range xs.length).map fun i => .tup [.int (i : Nat), xs.getD i .non]
theorem pairsFrom_len {xs : List D} : (pairsFrom xs).length = xs.length := by unfold pairsFrom; rw [List.length_map, List.length_range]
end

/-! ### loops -/
section
variable {P : Pr} {M : Mp} {ε : DSt} {Q : D → Mp → Prop} {wi : TI} {g : TG} {tb : TS} {G : DEnds} {tc : TT}
theorem ds_for (h : DI P wi ε M fun xs Ok M1 => ∃ I : Nat → DSt → Mp → Prop, I 0 ε M1 ∧ (∀ i ε' M', I i ε' M' → Ok M') ∧
      (∀ i d ε' M', xs[i]? = some d → I i ε' M' → DG P g d ε' M' fun ε2 M2 => DS P tb { G with nx := I (i + 1), ct := I (i + 1), bk := G.nx } ε2 M2) ∧ ∀ ε' M', I xs.length ε' M' → G.nx ε' M') : DS P (tFor wi g tb) G ε M := fun σ H E a l => by
  refine h σ H _ a fun J xs Ok M1 H1 g1 e1 it q => ?_
  obtain ⟨I, i0, iok, step, fin⟩ := q
  have a1 := a.ext g1 e1
  refine ⟨fun i m σ' H' => m = xs.length - i ∧ i ≤ xs.length ∧ ∃ ε' M', EnvR P.K P.B M' H' σ' ε' ∧ Good P.K P.B M' H' ∧ Ext M1 H1 M' H' ∧ I i ε' M', ⟨xs.length, by simp, Nat.zero_le _, ε, M1, a1.env, g1, Ext.refl _ _, i0⟩, ?_⟩
  rintro i m σ' H' ⟨rfl, hi, ε', M', r', g', e', hI⟩
  by_cases hlt : i < xs.length
  · refine .inr ⟨it.go i M' H' g' e' (iok _ _ _ hI) hlt, fun σ2 H2 => ∃ ε2 M2, EnvR P.K P.B M2 H2 σ2 ε2 ∧ Good P.K P.B M2 H2 ∧ Ext M1 H1 M2 H2 ∧ I (i + 1) ε2 M2, fun σ2 H2 ⟨ε2, M2, r2, g2, e2, h2⟩ => ⟨xs.length - (i + 1), by omega, rfl, hlt, ε2, M2, r2, g2, e2, h2⟩, fun x H2 y => ?_⟩
    obtain ⟨d, hd, td, g2, e2⟩ := it.yld i M' H' g' e' (iok _ _ _ hI) x H2 y hlt
    have e12 := e'.trans e2
    refine step i d ε' M' hd hI x σ' H2 _ td ⟨r'.ext e2, g2, a1.link.ext e12⟩ fun σ3 ε3 M3 H3 r3 g3 e3 h3 => ?_
    have e13 := e12.trans e3
    refine h3 σ3 H3 _ ⟨r3, g3, a1.link.ext e13⟩ ⟨fun σ4 ε4 M4 H4 r4 g4 e4 q4 => ⟨ε4, M4, r4, g4, e13.trans e4, q4⟩, (l.rt.ext e1).ext e13, (l.nx.ext e1).ext e13, fun σ4 ε4 M4 H4 r4 g4 e4 q4 => ⟨ε4, M4, r4, g4, e13.trans e4, q4⟩⟩
  · have e : i = xs.length := by omega
    subst e
    exact .inl ⟨it.stop M' H' g' e' (iok _ _ _ hI), l.nx σ' ε' M' H' r' g' (e1.trans e') (fin _ _ hI)⟩
theorem ds_while (I : Nat → DSt → Mp → Prop) (h0 : ∃ m, I m ε M)
    (step : ∀ m ε' M', I m ε' M' → DT P tc ε' M' fun b M1 => if b = true then DS P tb { G with nx := fun ε2 M2 => ∃ m', m' < m ∧ I m' ε2 M2, ct := fun ε2 M2 => ∃ m', m' < m ∧ I m' ε2 M2, bk := G.nx } ε' M1 else G.nx ε' M1) : DS P (tWhile tc tb) G ε M := fun σ H E a l => by
  refine ⟨fun m σ' H' => ∃ ε' M', EnvR P.K P.B M' H' σ' ε' ∧ Good P.K P.B M' H' ∧ Ext M H M' H' ∧ I m ε' M', ?_, ?_⟩
  · obtain ⟨m, h0⟩ := h0
    exact ⟨m, ε, M, a.env, a.good, Ext.refl _ _, h0⟩
  · rintro m σ' H' ⟨ε', M', r', g', e', hI⟩
    refine step m ε' M' hI σ' H' _ ⟨r', g', a.link.ext e'⟩ fun b M1 H1 g1 e1 h1 => ?_
    have e1' := e'.trans e1
    cases b with
    | false =>
      rw [if_neg Bool.false_ne_true] at h1 ⊢
      exact l.nx σ' ε' M1 H1 (r'.ext e1) g1 e1' h1
    | true =>
      rw [if_pos rfl] at h1 ⊢
      refine ⟨fun σ2 H2 => ∃ m' ε2 M2, m' < m ∧ EnvR P.K P.B M2 H2 σ2 ε2 ∧ Good P.K P.B M2 H2 ∧ Ext M H M2 H2 ∧ I m' ε2 M2, fun σ2 H2 ⟨m', ε2, M2, hm, r2, g2, e2, h2⟩ => ⟨m', hm, ε2, M2, r2, g2, e2, h2⟩, ?_⟩
      refine h1 σ' H1 _ ⟨r'.ext e1, g1, a.link.ext e1'⟩ ⟨fun σ4 ε4 M4 H4 r4 g4 e4 q4 => ?_, l.rt.ext e1', l.nx.ext e1', fun σ4 ε4 M4 H4 r4 g4 e4 q4 => ?_⟩
      · obtain ⟨m', hm, q4⟩ := q4
        exact ⟨m', ε4, M4, hm, r4, g4, e1'.trans e4, q4⟩
      · obtain ⟨m', hm, q4⟩ := q4
        exact ⟨m', ε4, M4, hm, r4, g4, e1'.trans e4, q4⟩
/-! ### comprehensions -/
def Wip (g : TG) (vs : List Nat) : Prop := ∀ (v : V) (σ : L2.St) (H : Hp) (R : L2.St → Hp → Prop), g v σ H R → g v σ H fun σ2 H2 => R σ2 H2 ∧ L2.wipe σ2 vs = L2.wipe σ vs
def Wips (g : TGs) (vs : List Nat) : Prop := ∀ (v : List V) (σ : L2.St) (H : Hp) (R : L2.St → Hp → Prop), g v σ H R → g v σ H fun σ2 H2 => R σ2 H2 ∧ L2.wipe σ2 vs = L2.wipe σ vs
theorem wipe_set_mem {σ : L2.St} {i : Nat} {o : Option V} : ∀ {vs : List Nat}, i ∈ vs → L2.wipe (σ.set i o) vs = L2.wipe σ vs
  | v :: vs, h => by
    have comm : ∀ (σ : L2.St) (vs : List Nat), i ∉ vs → L2.wipe (σ.set i o) vs = (L2.wipe σ vs).set i o := fun σ vs => by
      induction vs with
      | nil => intro _; rfl
      | cons w ws ih =>
        intro hn
        rw [List.mem_cons, not_or] at hn
        show (L2.wipe (σ.set i o) ws).set w none = ((L2.wipe σ ws).set w none).set i o
        rw [ih hn.2, List.set_comm _ _ hn.1]
    show (L2.wipe (σ.set i o) vs).set v none = (L2.wipe σ vs).set v none
    by_cases hm : i ∈ vs
    · rw [wipe_set_mem hm]
    · have e : i = v := by
        rcases List.mem_cons.mp h with e | e
        · exact e
        · exact absurd e hm
      rw [comm σ vs hm, e, List.set_set]
theorem wipe_wipe (σ : L2.St) : ∀ vs : List Nat, L2.wipe (L2.wipe σ vs) vs = L2.wipe σ vs := fun vs => by
  have key : ∀ (ws : List Nat) (σ : L2.St), (∀ w ∈ ws, w ∈ vs) → L2.wipe (L2.wipe σ ws) vs = L2.wipe σ vs := fun ws => by
    induction ws with
    | nil => intro σ _; rfl
    | cons w ws ih =>
      intro σ h
      show L2.wipe ((L2.wipe σ ws).set w none) vs = L2.wipe σ vs
      rw [wipe_set_mem (h w List.mem_cons_self)]
      exact ih σ fun x hx => h x (List.mem_cons_of_mem _ hx)
  exact key vs σ fun _ h => h
theorem wip_name {i : Nat} {vs : List Nat} (h : i ∈ vs) : Wip (gName i) vs := fun v σ H R q => ⟨q, wipe_set_mem h⟩
theorem wips_nil {vs : List Nat} : Wips gNil vs := fun v σ H R q => ⟨q.1, q.2, rfl⟩
theorem wips_cons {g : TG} {gs : TGs} {vs : List Nat} (mono : ∀ v σ H R R', (∀ σ H, R σ H → R' σ H) → g v σ H R → g v σ H R') (h1 : Wip g vs) (h2 : Wips gs vs) : Wips (gCons g gs) vs := fun v σ H R q => by
  obtain ⟨x, r, rfl, q⟩ := q
  refine ⟨x, r, rfl, ?_⟩
  refine mono _ _ _ _ _ (fun σ1 H1 z => ?_) (h1 _ _ _ _ q)
  have q2 := h2 _ _ _ _ z.1
  rw [z.2] at q2
  exact q2
theorem mono_name {i : Nat} : ∀ v σ H (R R' : L2.St → Hp → Prop), (∀ σ H, R σ H → R' σ H) → gName i v σ H R → gName i v σ H R' := fun v σ H R R' h q => h _ _ q
theorem wip_tup {K : PySem.W.Frag} {n : Nat} {gs : TGs} {vs : List Nat} (h : Wips gs vs) : Wip (gTup K n gs) vs := fun v σ H R q => by
  obtain ⟨a, xs, e, hs, hn, q⟩ := q
  exact ⟨a, xs, e, hs, hn, h _ _ _ _ q⟩
abbrev Pr.quiet (P : Pr) : Pr := ⟨P.K, P.B, E0, X0⟩
theorem mono_and {g : TG} {vs : List Nat} {x : V} {σ : L2.St} {H : Hp} {R : L2.St → Hp → Prop} {τ : L2.St} (q : g x σ H fun σ2 H2 => R σ2 H2 ∧ L2.wipe σ2 vs = τ) : g x σ H fun σ2 H2 => L2.wipe σ2 vs = τ ∧ R σ2 H2 := by
  have e : (fun σ2 H2 => R σ2 H2 ∧ L2.wipe σ2 vs = τ) = fun σ2 H2 => L2.wipe σ2 vs = τ ∧ R σ2 H2 := by
    funext σ2 H2
    exact propext And.comm
  rw [e] at q
  exact q
theorem de_lc {tt : TT} {te : TE} {vs : List Nat} (hw : Wip g vs) (h : DI P wi ε M fun xs Ok M1 => ∀ p, M1 p = none → P.B p = none → ∃ I : Nat → List D → Mp → Prop, I 0 [] (updM M1 p (.lst [])) ∧
      (∀ i acc M', I i acc M' → Ok M' ∧ M' p = some (.lst acc) ∧ acc.length < 100000) ∧
      (∀ i d acc M', xs[i]? = some d → I i acc M' → DG P.quiet g d (wipeD ε vs) M' fun ε2 M2 => DT P.quiet tt ε2 M2 fun b M3 =>
        if b = true then DE P.quiet te ε2 M3 fun e M4 => M4 p = some (.lst acc) ∧ acc.length < 100000 ∧ I (i + 1) (acc ++ [e]) (updM M4 p (.lst (acc ++ [e]))) else I (i + 1) acc M3) ∧
      ∀ acc M', I xs.length acc M' → Q (.val (.ref p)) M') : DE P (tLc wi g tt te vs) ε M Q := fun σ H R a k => by
  refine h σ H _ a fun J xs Ok M1 H1 g1 e1 it q p hp => ?_
  obtain ⟨I, i0, iok, step, fin⟩ := q p (g1.free hp) (g1.base _ hp)
  have a1 := a.ext g1 e1
  have ec : Ext M1 H1 (updM M1 p (.lst [])) (upd H1 p (.lst [])) := ext_cell hp
  refine ⟨fun i m H' => m = xs.length - i ∧ i ≤ xs.length ∧ ∃ acc M', Good P.K P.B M' H' ∧ Ext M1 H1 M' H' ∧ I i acc M', ⟨xs.length, by simp, Nat.zero_le _, [], _, g1.newCell (c := .lst []) hp ⟨[], upd_same, .nil⟩, ec, i0⟩, ?_⟩
  rintro i m H' ⟨rfl, hi, acc, M', g', e', hI⟩
  have ok := iok _ _ _ hI
  by_cases hlt : i < xs.length
  · refine .inr ⟨it.go i M' H' g' e' ok.1 hlt, fun H2 => ∃ acc2 M2, Good P.K P.B M2 H2 ∧ Ext M1 H1 M2 H2 ∧ I (i + 1) acc2 M2, fun H2 ⟨acc2, M2, g2, e2, h2⟩ => ⟨xs.length - (i + 1), by omega, rfl, hlt, acc2, M2, g2, e2, h2⟩, fun x H2 y => ?_⟩
    obtain ⟨d, hd, td, g2, e2⟩ := it.yld i M' H' g' e' ok.1 x H2 y hlt
    have e12 := e'.trans e2
    have a2 : At P.quiet (wipeD ε vs) M' (L2.wipe σ vs) H2 := ⟨(a1.env.ext e12).wipe vs, g2, link0⟩
    have q1 := step i d acc M' hd hI x (L2.wipe σ vs) H2 (fun σ3 H3 => tt σ3 H3 fun b H4 => if b = true then te σ3 H4 fun y H5 => ∃ acc, H5 p = some (.lst acc) ∧ acc.length < sizeLine ∧ (∃ acc2 M2, Good P.K P.B M2 (upd H5 p (.lst (acc ++ [y]))) ∧ Ext M1 H1 M2 (upd H5 p (.lst (acc ++ [y]))) ∧ I (i + 1) acc2 M2)
      else ∃ acc2 M2, Good P.K P.B M2 H4 ∧ Ext M1 H1 M2 H4 ∧ I (i + 1) acc2 M2) td a2 fun σ3 ε3 M3 H3 r3 g3 e3 h3 => ?_
    · have q2 := hw _ _ _ _ q1
      rw [wipe_wipe] at q2
      exact mono_and q2
    · have e13 := e12.trans e3
      refine h3 σ3 H3 _ ⟨r3, g3, link0⟩ fun b M4 H4 g4 e4 h4 => ?_
      have e14 := e13.trans e4
      cases b with
      | false =>
        rw [if_neg Bool.false_ne_true] at h4 ⊢
        exact ⟨acc, M4, g4, e14, h4⟩
      | true =>
        rw [if_pos rfl] at h4 ⊢
        refine h4 σ3 H4 _ ⟨r3.ext e4, g4, link0⟩ fun y' d' M5 H5 t5 g5 e5 h5 => ?_
        obtain ⟨h6, h7, h8⟩ := h5
        obtain ⟨ws, h9, r9⟩ := g5.cell _ _ h6
        refine ⟨ws, h9, by rw [r9.length]; exact Nat.lt_of_lt_of_le h7 (by decide), acc ++ [d'], _, g5.set (c' := .lst (acc ++ [d'])) h6 ⟨_, upd_same, (r9.append (.one t5)).ext (ext_set h6)⟩, ?_, h8⟩
        exact (e14.trans e5).trans (ext_set h6)
  · have e : i = xs.length := by omega
    subst e
    exact .inl ⟨it.stop M' H' g' e' ok.1, k _ _ M' H' (.val _) g' (e1.trans e') (fin _ _ hI)⟩

/-- a comprehension that changes nothing: the items that pass, mapped; the items are told by a list of any type -/
theorem de_mapA {α : Type} {tt : TT} {te : TE} {vs : List Nat} (e : α → D) (p : α → Bool) (f : α → D) (hw : Wip g vs) (h : DI P wi ε M fun xs Ok M1 => ∃ l : List α, xs = l.map e ∧ xs.length < 100000 ∧ (∀ M', (∀ a c, M1 a = some c → M' a = some c) → Ok M') ∧
      (∀ d, d ∈ l → ∀ M', (∀ a c, M1 a = some c → M' a = some c) → DG P.quiet g (e d) (wipeD ε vs) M' fun ε2 M2 => M2 = M' ∧ DT P.quiet tt ε2 M' fun b M3 => M3 = M' ∧ b = p d ∧ (p d = true → DE P.quiet te ε2 M' fun y M4 => M4 = M' ∧ y = f d)) ∧
      Q (.lst .own ((l.filter p).map f)) M1) : DE P (tLc wi g tt te vs) ε M Q := fun σ H R a k => by
  have key : DE P (tLc wi g tt te vs) ε M fun d M' => ∃ (q : Addr) (l : List α) (M1 : Mp), d = .val (.ref q) ∧ M1 q = none ∧ P.B q = none ∧ M' = updM M1 q (.lst ((l.filter p).map f)) ∧ Q (.lst .own ((l.filter p).map f)) M1 := by
    refine de_lc hw fun σ H R a k => h σ H R a fun J xs Ok M1 H1 g1 e1 it q => k J xs Ok M1 H1 g1 e1 it fun r hr hb => ?_
    obtain ⟨l, hxl, hx, hok, step, fin⟩ := q
    have hll : xs.length = l.length := by rw [hxl, List.length_map]
    have sub : ∀ acc, ∀ a c, M1 a = some c → updM M1 r (.lst acc) a = some c := fun acc a c e => by
      rw [updM_ne (fun z => by rw [z, hr] at e; cases e)]
      exact e
    have short : ∀ i, (((l.take i).filter p).map f).length < 100000 := fun i => by
      rw [List.length_map]
      refine Nat.lt_of_le_of_lt (List.length_filter_le _ _) ?_
      rw [List.length_take]
      omega
    refine ⟨fun i acc M' => i ≤ xs.length ∧ acc = ((l.take i).filter p).map f ∧ M' = updM M1 r (.lst acc), ⟨Nat.zero_le _, rfl, rfl⟩, ?_, ?_, ?_⟩
    · rintro i acc M' ⟨hi, rfl, rfl⟩
      exact ⟨hok _ (sub _), updM_same, short i⟩
    · rintro i d acc M' hd ⟨hi, rfl, rfl⟩
      rw [hxl, List.getElem?_map] at hd
      obtain ⟨z, hz, rfl⟩ : ∃ z, l[i]? = some z ∧ e z = d := by
        cases q : l[i]? with
        | none => rw [q] at hd; cases hd
        | some z => rw [q] at hd; exact ⟨z, rfl, Option.some.inj hd⟩
      have hlt : i < xs.length := by
        rw [hll]
        exact (List.getElem?_eq_some_iff.mp hz).1
      have et : l.take (i + 1) = l.take i ++ [z] := by
        rw [List.take_add_one, hz]
        rfl
      have st := step z (List.mem_of_getElem? hz) (updM M1 r (.lst (((l.take i).filter p).map f))) (sub _)
      intro v σ1 H1' R1 t1 a1 k1
      refine st v σ1 H1' R1 t1 a1 fun σ2 ε2 M2 H2 r2 g2 e2 h2 => ?_
      obtain ⟨rfl, h2⟩ := h2
      refine k1 σ2 ε2 _ H2 r2 g2 e2 fun σ3 H3 R3 a3 k3 => h2 σ3 H3 R3 a3 fun b M3 H4 g4 e4 h4 => ?_
      obtain ⟨rfl, rfl, h4⟩ := h4
      refine k3 _ _ H4 g4 e4 ?_
      cases hp : p z with
      | false =>
        rw [if_neg Bool.false_ne_true]
        refine ⟨hlt, ?_, ?_⟩
        · rw [et, List.filter_append]; simp [hp]
        · rfl
      | true =>
        rw [if_pos rfl]
        intro σ5 H5 R5 a5 k5
        refine h4 hp σ5 H5 R5 a5 fun v6 d6 M6 H6 t6 g6 e6 h6 => ?_
        obtain ⟨rfl, rfl⟩ := h6
        refine k5 v6 _ _ H6 t6 g6 e6 ⟨updM_same, short i, hlt, ?_, ?_⟩
        · rw [et, List.filter_append]; simp [hp]
        · rw [updM_updM]
    · rintro acc M' ⟨hi, rfl, rfl⟩
      rw [hll, List.take_length]
      exact ⟨r, l, M1, rfl, hr, hb, rfl, fin⟩
  refine key σ H R a fun v d M' H' t g' e' q => ?_
  obtain ⟨r, l, M1, rfl, hr, hb, rfl, q⟩ := q
  cases tr_val t
  obtain ⟨ws, h1, r1⟩ := g'.cell _ _ updM_same
  have ed : Ext (updM M1 r (.lst ((l.filter p).map f))) H' M1 H' := fun b o m eo => by
    by_cases z : b = r
    · rw [z]; exact ⟨hr, z ▸ eo⟩
    · rw [updM_ne z] at m; exact ⟨m, eo⟩
  have gd : Good P.K P.B M1 H' := ⟨g'.base, fun b c hc => by
    have ne : b ≠ r := fun z => by rw [z, hr] at hc; cases hc
    have hc' := g'.cell b c (by rw [updM_ne ne]; exact hc)
    exact hc'.mono ed rfl⟩
  exact k (.ref r) (.lst .own ((l.filter p).map f)) M1 H' (.lst (k := .own) ⟨hr, h1, hb⟩ (r1.ext ed)) gd (e'.trans ed) q
theorem de_map {tt : TT} {te : TE} {vs : List Nat} (p : D → Bool) (f : D → D) (hw : Wip g vs) (h : DI P wi ε M fun xs Ok M1 => xs.length < 100000 ∧ (∀ M', (∀ a c, M1 a = some c → M' a = some c) → Ok M') ∧
      (∀ d, d ∈ xs → ∀ M', (∀ a c, M1 a = some c → M' a = some c) → DG P.quiet g d (wipeD ε vs) M' fun ε2 M2 => M2 = M' ∧ DT P.quiet tt ε2 M' fun b M3 => M3 = M' ∧ b = p d ∧ (p d = true → DE P.quiet te ε2 M' fun e M4 => M4 = M' ∧ e = f d)) ∧
      Q (.lst .own ((xs.filter p).map f)) M1) : DE P (tLc wi g tt te vs) ε M Q :=
  de_mapA id p f hw fun σ H R a k => h σ H R a fun J xs Ok M1 H1 g1 e1 it q => k J xs Ok M1 H1 g1 e1 it ⟨xs, (List.map_id xs).symm, q⟩
/-- a cell that is changed no more -/
theorem ds_freeze {t : TS} {i : Nat} {p : Addr} {ds : List D} (hi : ε[i]? = some (some (.val (.ref p)))) (hp : M p = some (.lst ds)) (hb : P.B p = none) (h : DS P t G (ε.set i (some (.lst .own ds))) (delM M p)) : DS P t G ε M := fun σ H E a l => by
  obtain ⟨ws, h1, r1⟩ := a.good.cell _ _ hp
  have ed : Ext M H (delM M p) H := fun b o m eo => ⟨by unfold delM; split <;> first | rfl | exact m, eo⟩
  have gd : Good P.K P.B (delM M p) H := ⟨a.good.base, fun b c hc => by
    have ne : b ≠ p := fun z => by unfold delM at hc; rw [if_pos z] at hc; cases hc
    have hc' := a.good.cell b c (by unfold delM at hc; rw [if_neg ne] at hc; exact hc)
    exact hc'.mono ed rfl⟩
  obtain ⟨v, hv, tv⟩ := a.env.2 _ _ hi
  cases tr_val tv
  have es := (a.env.ext ed).set (i := i) (v := .ref p) (d := .lst .own ds) (.lst (k := .own) ⟨if_pos rfl, h1, hb⟩ (r1.ext ed))
  have eσ : σ.set i (some (.ref p)) = σ := by
    apply List.ext_getElem?
    intro j
    by_cases q : i = j
    · subst q
      have hl : i < σ.length := (List.getElem?_eq_some_iff.mp hv).1
      rw [List.getElem?_set_self hl, hv]
    · rw [List.getElem?_set_ne q]
  rw [eσ] at es
  exact h σ H E ⟨es, gd, a.link.ext ed⟩ (l.ext ed)
end
end DL

namespace DL
open PySem L2 PyProof.Rows PySem.Spec

/-! ### defs that are called -/
structure Cd (P : Program) (w : World) (K : PySem.W.Frag) (mg : Str → Option Value) (base : Heap) (x : Str) (k : Nat) (ps : List Str) (sp : Sp) : Prop where
  ex : ∃ (f : Addr) (fd : FuncData), FnOk P w K mg base (L2.CX P w) k f fd ps sp ∧ mg x = some (.ref f) ∧ PySem.W.keepIn K (.ref f) = true ∧ Binds K fd ps []
structure Md (P : Program) (w : World) (K : PySem.W.Frag) (mg : Str → Option Value) (base : Heap) (C : Addr) (m : Str) (k : Nat) (ps : List Str) (sp : Sp) : Prop where
  ex : ∃ (f : Addr) (fd : FuncData), FnOk P w K mg base (L2.CX P w) k f fd ps sp ∧ Meth K C m f ∧ Binds K fd ps []
  cl : Cls K C
structure Kd (P : Program) (w : World) (K : PySem.W.Frag) (mg : Str → Option Value) (base : Heap) (x : Str) (C : Addr) (k : Nat) (ps : List Str) (sp : Sp) : Prop where
  ex : ∃ (f : Addr) (fd : FuncData), FnOk P w K mg base (L2.CX P w) k f fd ps sp ∧ Mk K C f ∧ mg x = some (.ref C) ∧ Binds K fd ps []
section
variable {X : Cx} {x m : Str} {k : Nat} {ps : List Str} {sp : Sp} {E : XK} {e o : Expr} {es : List Expr} {ta : TE} {t : TA} {p pos apos : Pos} {C : Addr}
theorem pe_cd (D : Cd X.prog X.w X.K X.mg X.base x k ps sp) (hr : Room k X.A) (hg : Gl X x) (hx : Passes (L2.CX X.prog X.w) X E) (ha : PA X (e :: es) t) (hdb : (x == ("__debug__" : Str)) = false := by decide)
    (he : starEach (e :: es) X.env = (false, eval e X.env) :: starEach es X.env := by rfl) (hpl : (backTo pos (starEach es X.env)).any (·.1) = false := by rfl) : PE X (.Call (.Name x p) (e :: es) [] pos) (tCall sp [] E t) := by
  obtain ⟨f, fd, F, hm, hk, hb⟩ := D.ex
  exact pe_call F hr hg hm hk hb .nil hx ha hdb he hpl
theorem pe_cd0 (D : Cd X.prog X.w X.K X.mg X.base x k ps sp) (hr : Room k X.A) (hg : Gl X x) (hx : Passes (L2.CX X.prog X.w) X E) (hdb : (x == ("__debug__" : Str)) = false := by decide) : PE X (.Call (.Name x p) [] [] pos) (tCall sp [] E tNil) := by
  obtain ⟨f, fd, F, hm, hk, hb⟩ := D.ex
  exact pe_call0 F hr hg hm hk hb .nil hx hdb
theorem pe_mcd {pl : Sem Bool} (ho : PE X o ta) (D : Md X.prog X.w X.K X.mg X.base C m k ps sp) (hr : Room k X.A) (hx : Passes (L2.CX X.prog X.w) X E) (ha : PA X (e :: es) t)
    (hst : starEach (e :: es) X.env = (false, eval e X.env) :: starEach es X.env := by rfl) (hpl : (backTo pos (starEach es X.env)).any (·.1) = false := by rfl)
    (ht : eval (.Call (.Attribute o m apos) (e :: es) [] pos) X.env = (do
      let ov ← eval o X.env
      standAt apos.atName
      let (f, first) ← holding [ov] (getMethod ov m pl)
      callWith pos f first (backTo pos (starEach (e :: es) X.env)) (backToKw pos (keywordEach [] X.env))) := by rfl) : PE X (.Call (.Attribute o m apos) (e :: es) [] pos) (tMeth C m sp [] E ta t) := by
  obtain ⟨f, fd, F, hm, hb⟩ := D.ex
  exact pe_meth ho D.cl hm F hr hb .nil hx ha hst hpl ht
theorem pe_mcd0 {pl : Sem Bool} (ho : PE X o ta) (D : Md X.prog X.w X.K X.mg X.base C m k ps sp) (hr : Room k X.A) (hx : Passes (L2.CX X.prog X.w) X E)
    (ht : eval (.Call (.Attribute o m apos) [] [] pos) X.env = (do
      let ov ← eval o X.env
      standAt apos.atName
      let (f, first) ← holding [ov] (getMethod ov m pl)
      callWith pos f first (backTo pos (starEach [] X.env)) (backToKw pos (keywordEach [] X.env))) := by rfl) : PE X (.Call (.Attribute o m apos) [] [] pos) (tMeth C m sp [] E ta tNil) := by
  obtain ⟨f, fd, F, hm, hb⟩ := D.ex
  exact pe_meth0 ho D.cl hm F hr hb .nil hx ht
theorem pe_mk (D : Kd X.prog X.w X.K X.mg X.base x C k ps sp) (hr : Room (k + 1) X.A) (hg : Gl X x) (hx : Passes (L2.CX X.prog X.w) X E) (ha : PA X (e :: es) t) (hdb : (x == ("__debug__" : Str)) = false := by decide)
    (he : starEach (e :: es) X.env = (false, eval e X.env) :: starEach es X.env := by rfl) (hpl : (backTo pos (starEach es X.env)).any (·.1) = false := by rfl) : PE X (.Call (.Name x p) (e :: es) [] pos) (tMake C sp [] E t) := by
  obtain ⟨f, fd, F, M, hm, hb⟩ := D.ex
  exact pe_make M F hr hg hm hb .nil hx ha hdb he hpl
theorem pe_mk0 (D : Kd X.prog X.w X.K X.mg X.base x C k ps sp) (hr : Room (k + 1) X.A) (hg : Gl X x) (hx : Passes (L2.CX X.prog X.w) X E) (hdb : (x == ("__debug__" : Str)) = false := by decide) : PE X (.Call (.Name x p) [] [] pos) (tMake C sp [] E tNil) := by
  obtain ⟨f, fd, F, M, hm, hb⟩ := D.ex
  exact pe_make0 M F hr hg hm hb .nil hx hdb
end

/-! ### a written dict, asked with a default -/
def tKGet2 (es : Array DictEntry) (ty tx : TE) : TE := fun σ H Q => ty σ H fun y H1 => tx σ H1 fun z H2 => ∃ (w : Str) (v : V), y = .str w ∧ (match findBy Value.isStrOf es w with
  | some u => RelV v u
  | none => v = z) ∧ Q v H2
theorem pe_kget2 {X : Cx} {x : Str} {d : Addr} {es : Array DictEntry} {n : Nat} {e f : Expr} {ty tx : TE} {p apos cpos : Pos} (D : KDict X.K X.w d es n) (hg : Gl X x) (hm : X.mg x = some (.ref d)) (he : PE X e ty) (hf : PE X f tx)
    (m : M2 X (.Name x p) "get" apos e f cpos) (hdb : (x == ("__debug__" : Str)) = false := by decide) : PE X (.Call (.Attribute (.Name x p) "get" apos) [e, f] [] cpos) (tKGet2 es ty tx) := by
  refine ⟨fun pins s σ H Q I h => ?_⟩
  refine wpAny_Call_method m.base m.few m.line PySem.F.plainAttrs_dict PySem.F.slot_dict_get PySem.F.type_dict_get (ld_glob I hg hm ?_ hdb)
  refine ⟨kd_type D I, fun b q => ?_, ?_⟩
  · cases q
    exact ⟨_, I.kIn _ _ D.at_, rfl⟩
  rw [m.trees]
  refine Calls.callWith_builtin rfl (Calls.evalArgs_plain (Calls.spliced_cons (thn (he.run pins s σ H _ I h) fun iv s2 ⟨y, H2, I2, ry, q2⟩ =>
    Calls.spliced_cons (thn (hf.run pins s2 σ H2 _ I2 q2) fun fv s3 ⟨z, H3, I3, rz, w, v, ey, hv, q3⟩ => Calls.spliced_nil ?_))))
  subst ey
  obtain ⟨t, rfl⟩ := ry
  refine call_meetsIn PySem.F.slot_dict_get (kd_type D I3) PySem.F.entry_dict_get (PySem.F.args_dict_get_3 _ _ _) (meets_dict_get_default (PySem.strKind X.prog X.w) d (PySem.strKind_is X.prog X.w w t) D.low fv) ⟨_, PySem.W.mapOf_K (prog := X.prog) I3.kIn D.at_ D.lit, ?_⟩
  refine ⟨v, H3, I3.tok _, ?_, q3⟩
  cases hb : findBy Value.isStrOf es w with
  | none => rw [hb] at hv; rw [hv]; exact rz
  | some u => rw [hb] at hv; exact hv
/-- what the table holds of ints -/
def KF (es : Array DictEntry) (w : Str) (o : Option Int) : Prop := match o with
  | some i => ∃ t, findBy Value.isStrOf es w = some (.int i t)
  | none => findBy Value.isStrOf es w = none
theorem de_kget2 {P : Pr} {M : Mp} {ε : DSt} {Q : D → Mp → Prop} {es : Array DictEntry} {ty tx : TE} {fn : Str → Option Int} (hf : ∀ w, KF es w (fn w))
    (h : DE P ty ε M fun y M1 => DE P tx ε M1 fun z M2 => ∃ w, y = .str w ∧ Q (match fn w with
      | some i => .int i
      | none => z) M2) : DE P (tKGet2 es ty tx) ε M Q := fun σ H R a k => by
  refine h σ H _ a fun v d M1 H1 t1 g1 e1 h1 => ?_
  refine h1 σ H1 _ (a.ext g1 e1) fun u e M2 H2 t2 g2 e2 h2 => ?_
  obtain ⟨w, rfl, q⟩ := h2
  cases tr_str t1
  have f := hf w
  have kk := k.ext (e1.trans e2)
  cases ho : fn w with
  | none =>
    rw [ho] at f q
    refine ⟨w, u, rfl, ?_, kk.here t2 g2 q⟩
    rw [show findBy Value.isStrOf es w = none from f]
  | some i =>
    rw [ho] at f q
    obtain ⟨t, f⟩ := f
    refine ⟨w, .int i, rfl, ?_, kk.here (.int i) g2 q⟩
    rw [f]
    exact ⟨t, rfl⟩
end DL

namespace DL
open PySem L2 PyProof.Rows PySem.Spec
/-! ### a def of the text, as the top has left it -/
structure Dn (K : PySem.W.Frag) (mg : Str → Option Value) (x : Str) (st : Stmt) (ps : List Str) : Prop where
  ex : ∃ (f : Addr) (fd : FuncData), Fun K x x st f fd ∧ mg x = some (.ref f) ∧ Binds K fd ps []
/-- a method -/
structure Mn (K : PySem.W.Frag) (C : Addr) (m q : Str) (st : Stmt) (ps : List Str) : Prop where
  ex : ∃ (f : Addr) (fd : FuncData), Fun K m q st f fd ∧ Meth K C m f ∧ Binds K fd ps []
section
variable {P : Program} {w : World} {K : PySem.W.Frag} {mg : Str → Option Value} {base : Heap} {x m q : Str} {st : Stmt} {ps : List Str} {k : Nat} {sp : Sp} {C : Addr}
theorem cd_of (d : Dn K mg x st ps) (h : ∀ f fd, Fun K x x st f fd → FnOk P w K mg base (L2.CX P w) k f fd ps sp) : Cd P w K mg base x k ps sp := by
  obtain ⟨f, fd, F, hm, hb⟩ := d.ex
  exact ⟨f, fd, h f fd F, hm, F.kp, hb⟩
theorem md_of (d : Mn K C m q st ps) (cl : Cls K C) (h : ∀ f fd, Fun K m q st f fd → FnOk P w K mg base (L2.CX P w) k f fd ps sp) : Md P w K mg base C m k ps sp := by
  obtain ⟨f, fd, F, hm, hb⟩ := d.ex
  exact ⟨⟨f, fd, h f fd F, hm, hb⟩, cl⟩
theorem Cd.mono {j : Nat} (d : Cd P w K mg base x j ps sp) (h : j ≤ k) : Cd P w K mg base x k ps sp := by
  obtain ⟨f, fd, F, r⟩ := d.ex
  exact ⟨f, fd, F.mono h, r⟩
theorem Cd.imp {sp' : Sp} (d : Cd P w K mg base x k ps sp) (h : ∀ vs H Q E, sp' vs H Q E → sp vs H Q E) : Cd P w K mg base x k ps sp' := by
  obtain ⟨f, fd, F, r⟩ := d.ex
  exact ⟨f, fd, F.imp h, r⟩
theorem Md.mono {j : Nat} (d : Md P w K mg base C m j ps sp) (h : j ≤ k) : Md P w K mg base C m k ps sp := by
  obtain ⟨f, fd, F, r⟩ := d.ex
  exact ⟨⟨f, fd, F.mono h, r⟩, d.cl⟩
/-- constants of the module -/
theorem pe_gint {X : Cx} {x : Str} {i : Int} {pos : Pos} (hg : Gl X x) (hm : ∃ t, X.mg x = some (.int i t)) (hd : (x == ("__debug__" : Str)) = false := by decide) : PE X (.Name x pos) (tC (.int i)) := by
  obtain ⟨t, hm⟩ := hm
  exact pe_glob hg hm ⟨t, rfl⟩ hd
theorem pe_gstr {X : Cx} {x : Str} {i : Str} {pos : Pos} (hg : Gl X x) (hm : ∃ t, X.mg x = some (.str i t)) (hd : (x == ("__debug__" : Str)) = false := by decide) : PE X (.Name x pos) (tC (.str i)) := by
  obtain ⟨t, hm⟩ := hm
  exact pe_glob hg hm ⟨t, rfl⟩ hd
end
theorem at0 {α : Type} {x : α} {r : List α} : atI (x :: r) 0 = some x := atI_nat (j := 0) rfl
theorem at1 {α : Type} {x y : α} {r : List α} : atI (x :: y :: r) 1 = some y := atI_nat (j := 1) rfl
theorem at2 {α : Type} {x y z : α} {r : List α} : atI (x :: y :: z :: r) 2 = some z := atI_nat (j := 2) rfl
theorem at3 {α : Type} {x y z u : α} {r : List α} : atI (x :: y :: z :: u :: r) 3 = some u := atI_nat (j := 3) rfl
theorem kit_NoneType_int : kitB "NoneType" "int" = some false := by decide +kernel
theorem kit_NoneType_bool : kitB "NoneType" "bool" = some false := by decide +kernel
theorem kit_NoneType_str : kitB "NoneType" "str" = some false := by decide +kernel
theorem kit_NoneType_tuple : kitB "NoneType" "tuple" = some false := by decide +kernel
theorem kit_NoneType_list : kitB "NoneType" "list" = some false := by decide +kernel
theorem kit_bool_int : kitB "bool" "int" = some true := by decide +kernel
theorem kit_bool_bool : kitB "bool" "bool" = some true := by decide +kernel
theorem kit_bool_str : kitB "bool" "str" = some false := by decide +kernel
theorem kit_bool_tuple : kitB "bool" "tuple" = some false := by decide +kernel
theorem kit_bool_list : kitB "bool" "list" = some false := by decide +kernel
theorem kit_int_int : kitB "int" "int" = some true := by decide +kernel
theorem kit_int_bool : kitB "int" "bool" = some false := by decide +kernel
theorem kit_int_str : kitB "int" "str" = some false := by decide +kernel
theorem kit_int_tuple : kitB "int" "tuple" = some false := by decide +kernel
theorem kit_int_list : kitB "int" "list" = some false := by decide +kernel
theorem kit_str_int : kitB "str" "int" = some false := by decide +kernel
theorem kit_str_bool : kitB "str" "bool" = some false := by decide +kernel
theorem kit_str_str : kitB "str" "str" = some true := by decide +kernel
theorem kit_str_tuple : kitB "str" "tuple" = some false := by decide +kernel
theorem kit_str_list : kitB "str" "list" = some false := by decide +kernel
theorem kit_tuple_int : kitB "tuple" "int" = some false := by decide +kernel
theorem kit_tuple_bool : kitB "tuple" "bool" = some false := by decide +kernel
theorem kit_tuple_str : kitB "tuple" "str" = some false := by decide +kernel
theorem kit_tuple_tuple : kitB "tuple" "tuple" = some true := by decide +kernel
theorem kit_tuple_list : kitB "tuple" "list" = some false := by decide +kernel
theorem kit_list_int : kitB "list" "int" = some false := by decide +kernel
theorem kit_list_bool : kitB "list" "bool" = some false := by decide +kernel
theorem kit_list_str : kitB "list" "str" = some false := by decide +kernel
theorem kit_list_tuple : kitB "list" "tuple" = some false := by decide +kernel
theorem kit_list_list : kitB "list" "list" = some true := by decide +kernel
theorem kit_dict_int : kitB "dict" "int" = some false := by decide +kernel
theorem kit_dict_bool : kitB "dict" "bool" = some false := by decide +kernel
theorem kit_dict_str : kitB "dict" "str" = some false := by decide +kernel
theorem kit_dict_tuple : kitB "dict" "tuple" = some false := by decide +kernel
theorem kit_dict_list : kitB "dict" "list" = some false := by decide +kernel
theorem ite_t {b : Bool} {A B : Prop} (h : b = true) (q : A) : if b = true then A else B := by rw [if_pos h]; exact q
theorem ite_f {b : Bool} {A B : Prop} (h : b = false) (q : B) : if b = true then A else B := by rw [if_neg (by rw [h]; exact Bool.false_ne_true)]; exact q
theorem ite_2 {b : Bool} {A B : Prop} (h1 : b = true → A) (h2 : b = false → B) : if b = true then A else B := by
  cases b with
  | true => exact ite_t rfl (h1 rfl)
  | false => exact ite_f rfl (h2 rfl)
/-- a written tuple of the module, of flat things -/
theorem de_kflat {P : Pr} {M : Mp} {ε : DSt} {Q : D → Mp → Prop} {a : Addr} {vs : List V} {ds : List D} (h : KTup P.K a vs) (e : ds.map flatOf = vs) (f : ds.all flatD = true) (q : Q (.tup ds) M) : DE P (tC (.ref a)) ε M Q := by
  refine de_ktup (ds := ds) h (fun M H => ?_) q
  subst e
  clear h q
  induction ds with
  | nil => exact .nil
  | cons d ds ih =>
    rw [List.all_cons, Bool.and_eq_true] at f
    refine .cons ?_ (ih f.2)
    have f1 := f.1
    cases d <;> first | exact .non | exact .bl _ | exact .int _ | exact .str _ | (exact absurd f1 Bool.false_ne_true)
end DL

namespace DL
open PySem L2 PyProof.Rows PySem.Spec
/-! ### the rules with the written part by name (within a comprehension's block its context isn't to be seen) -/
section
variable {X : Cx} (K : PySem.W.Frag)
theorem op_add4k (h : X.K = K := by rfl) : OpR X (binaryOp .Add) (rAdd4 K) := by subst h; exact op_add4
theorem op_eq3k {k : Nat} (hr : Room k X.A) (h : X.K = K := by rfl) : OpR X (compareOp .Eq) (rEq3 K) := by subst h; exact op_eq3 hr
theorem op_ne3k {k : Nat} (hr : Room k X.A) (h : X.K = K := by rfl) : OpR X (compareOp .NotEq) (rNe3 K) := by subst h; exact op_ne3 hr
theorem op_in2k (h : X.K = K := by rfl) : OpR X (compareOp .In) (rIn2 K) := by subst h; exact op_in2
theorem op_notIn2k (h : X.K = K := by rfl) : OpR X (compareOp .NotIn) (rNotIn2 K) := by subst h; exact op_notIn2
theorem ix_seqk (h : X.K = K := by rfl) : IxR X (rIx K) := by subst h; exact ix_seq
theorem sl_3k (h : X.K = K := by rfl) : SlR X (rSl3 K) := by subst h; exact sl_3
theorem call_isi3k (h : X.K = K := by rfl) : CallR X (.builtin "isinstance") (rIsi3 K) := by subst h; exact call_isi3
theorem call_lenk (h : X.K = K := by rfl) : CallR X (.builtin "len") (rLen K) := by subst h; exact call_len
theorem call_listk (h : X.K = K := by rfl) : CallR X (.type "list") (rListOf K) := by subst h; exact call_list_of
theorem call_tuplek (h : X.K = K := by rfl) : CallR X (.type "tuple") (rTupleOf K) := by subst h; exact call_tuple_of
variable {e o tg : Expr} {es : List Expr} {te to : TE} {t : TA} {pos apos : Pos} {f name : Str} {T id : String} {r : V → List V → Hp → VK → Prop}
theorem pi_seqk (hl : PE X e te) (h : X.K = K := by rfl) : PI X tg e (iSeq K te) := by subst h; exact pi_seq hl
theorem pe_fldk (he : PE X e te) (hb : attributeBase e f X.env (eval e X.env) = eval e X.env) (h : X.K = K := by rfl) : PE X (.Attribute e f pos) (tFld K te f) := by subst h; exact pe_fld he hb
theorem pe_bm0k (pa : PlainAttrs T) (slot : Slot T name id) (hty : typeOf (.builtin id) = pure (.type "method_descriptor")) (hm : MtR X id r) (ho : PE X o to)
    (hbase : attributeBase o name X.env (eval o X.env) = eval o X.env := by rfl) (hline : (apos.endLine == pos.line) = true := by rfl) (h : X.K = K := by rfl) : PE X (.Call (.Attribute o name apos) [] [] pos) (tBM0 K T r to) := by
  subst h; exact pe_bm0 pa slot hty hm ho hbase hline
theorem pe_bmk (pa : PlainAttrs T) (slot : Slot T name id) (hty : typeOf (.builtin id) = pure (.type "method_descriptor")) (hm : MtR X id r) (ho : PE X o to) (ha : PA X (e :: es) t)
    (hbase : attributeBase o name X.env (eval o X.env) = eval o X.env := by rfl)
    (hfew : ((backTo pos (starEach (e :: es) X.env)).all (fun x => !x.1) && (backToKw pos (keywordEach [] X.env)).all (fun x => x.1.isSome)
      && decide ((e :: es).length + ([] : List Keyword).length + (if ([] : List Keyword).isEmpty then 0 else 1) < 30)) = true := by rfl)
    (hline : (apos.endLine == pos.line) = true := by rfl) (hs : starEach (e :: es) X.env = (false, eval e X.env) :: starEach es X.env := by rfl) (hplain : (backTo pos (starEach es X.env)).any (·.1) = false := by rfl) (h : X.K = K := by rfl) :
    PE X (.Call (.Attribute o name apos) (e :: es) [] pos) (tBM K T r to t) := by
  subst h; exact pe_bm pa slot hty hm ho ha hbase hfew hline hs hplain
theorem pg_tupk {es : List Expr} {k : Nat} {t : TGs} {n : Nat} (hc : X.calm = true) (hg : PGs X es t) (hn : (assignEach es X.env).length = n := by rfl) (hst : (assignEach es X.env).findIdx? (·.1) = none := by rfl) (h : X.K = K := by rfl) : PG X (.Tuple es k pos) (gTup K n t) := by
  subst h; exact pg_tup hc hg hn hst
end
end DL

namespace DL
open PySem L2 PyProof.Rows PySem.Spec
/-- nothing is asked of a def -/
theorem fn_noneP {P : Program} {w : World} {K : PySem.W.Frag} {mg : Str → Option Value} {base : Heap} {CX : CXT} {k : Nat} {f : Addr} {fd : FuncData} {ps : List Str} {S : Pq} (h : ∀ ds Q X, ¬ S ds Q X) : FnOk P w K mg base CX k f fd ps (spP K S) := by
  have no : ∀ vs H Q E, ¬ spP K S vs H Q E := fun vs H Q E ⟨ds, Qd, Xd, _, hs, _⟩ => h _ _ _ hs
  exact ⟨fun vs H Q E h => absurd h (no vs H Q E), fun A outer s H args us vs Q E _ _ _ _ h => absurd h (no vs H Q E)⟩
theorem fn_noneI {P : Program} {w : World} {K : PySem.W.Frag} {mg : Str → Option Value} {base : Heap} {CX : CXT} {k : Nat} {f : Addr} {fd : FuncData} {ps : List Str} {S : Sq} (h : ∀ ds M Q X, ¬ S ds M Q X) : FnOk P w K mg base CX k f fd ps (spI K S) := by
  have no : ∀ vs H Q E, ¬ spI K S vs H Q E := fun vs H Q E ⟨B, ds, M, Qd, Xd, _, _, hs, _⟩ => h _ _ _ _ hs
  exact ⟨fun vs H Q E h => absurd h (no vs H Q E), fun A outer s H args us vs Q E _ _ _ _ h => absurd h (no vs H Q E)⟩
end DL

/-! The program's own data: sums, and what is asked of any tuple. -/
namespace DL
open PySem L2

inductive Wd where
  | add | less | times
  deriving DecidableEq
def Wd.word : Wd → Str
  | .add => "add"
  | .less => "less"
  | .times => "times"
inductive Sm where
  | num (n : Int) | nam (c : Nat) | bin (o : Wd) (a b : Sm) | say (a : Sm) | ask
  deriving DecidableEq
def enc : Sm → D
  | .num n => .tup [.str "num", .int n]
  | .nam c => .tup [.str "name", .str ⟨#[c]⟩]
  | .bin o a b => .tup [.str o.word, enc a, enc b]
  | .say a => .tup [.str "say", enc a]
  | .ask => .tup [.str "ask"]
def Sm.ok : Sm → Prop
  | .num n => 0 ≤ n ∧ n < 1000
  | .nam c => 97 ≤ c ∧ c < 103
  | .bin _ a b => a.ok ∧ b.ok
  | .say a => a.ok
  | .ask => True
def Sm.sz : Sm → Nat
  | .num _ => 1
  | .nam _ => 1
  | .bin _ a b => 1 + a.sz + b.sz
  | .say a => 1 + a.sz
  | .ask => 1
def Sm.dp : Sm → Nat
  | .num _ => 1
  | .nam _ => 1
  | .bin _ a b => 1 + max a.dp b.dp
  | .say a => 1 + a.dp
  | .ask => 1
def Sm.kids : Sm → List Sm
  | .bin _ a b => [a, b]
  | .say a => [a]
  | _ => []
def Sm.eff : Sm → Bool
  | .bin _ a b => a.eff || b.eff
  | .say _ => true
  | .ask => true
  | _ => false
theorem Sm.dp_pos (s : Sm) : 1 ≤ s.dp := by cases s <;> simp only [Sm.dp] <;> omega
theorem Sm.sz_pos (s : Sm) : 1 ≤ s.sz := by cases s <;> simp only [Sm.sz] <;> omega
theorem enc_noL : ∀ s : Sm, noL (enc s) = true
  | .num n => rfl
  | .nam c => rfl
  | .bin o a b => by simp [enc, noL, noLs, enc_noL a, enc_noL b]
  | .say a => by simp [enc, noL, noLs, enc_noL a]
  | .ask => rfl
theorem enc_tup (s : Sm) : ∃ ds, enc s = .tup ds := by cases s <;> exact ⟨_, rfl⟩

/-! any tuple -/
def sizeOf' (w : Str) : Option Int :=
  if w = "num" then some 2 else if w = "name" then some 2 else if w = "add" then some 3 else if w = "less" then some 3 else if w = "times" then some 3 else if w = "say" then some 2 else if w = "ask" then some 1 else none
def numD : D → Bool
  | .int i => decide (0 ≤ i) && decide (i < 1000)
  | _ => false
def letD : D → Bool
  | .str x => match x.cps.toList with
    | [c] => decide (c ∈ ("abcdef" : Str).cps.toList)
    | _ => false
  | _ => false
def wholeD : D → Bool
  | .tup ds => match ds with
    | .str w :: r => if (match sizeOf' w with
        | some i => i
        | none => 0) = ((r.length + 1 : Nat) : Int) then (if w = "num" then numD (r.getD 0 .non) else if w = "name" then letD (r.getD 0 .non) else true) else false
    | _ => false
  | _ => false
def kidsD : D → List D
  | .tup (.str w :: r) => if w = "add" ∨ w = "less" ∨ w = "times" ∨ w = "say" then r else []
  | _ => []
end DL

namespace DL
open PySem L2
mutual
/-- plain data: no list, no dict, nothing else; short texts and tuples -/
def wfD : D → Bool
  | .non => true
  | .bl _ => true
  | .int _ => true
  | .str x => decide (x.length ≤ 1000)
  | .tup ds => wfDs ds && decide (ds.length ≤ 100)
  | .lst _ _ => false
  | .dic _ => false
  | .val _ => false
def wfDs : List D → Bool
  | [] => true
  | d :: ds => wfD d && wfDs ds
end
theorem wf_ty {d : D} (h : wfD d = true) : ∃ t, tyD d = some t := by
  cases d <;> first | exact ⟨_, rfl⟩ | (simp [wfD] at h)
theorem wf_noL : ∀ {d : D}, wfD d = true → noL d = true :=
  fun {d} => D.rec (motive_1 := fun d => wfD d = true → noL d = true) (motive_2 := fun ds => wfDs ds = true → noLs ds = true) (motive_3 := fun _ => True) (motive_4 := fun _ => True)
    (fun _ => rfl) (fun _ _ => rfl) (fun _ _ => rfl) (fun _ _ => rfl) (fun ds ih h => by
      have h' : wfDs ds = true ∧ ds.length ≤ 100 := by simpa [wfD] using h
      simpa [noL] using ih h'.1)
    (fun _ _ _ h => by simp [wfD] at h) (fun _ _ h => by simp [wfD] at h) (fun _ h => rfl)
    (fun _ => rfl) (fun d ds ih1 ih2 h => by
      have h' : wfD d = true ∧ wfDs ds = true := by simpa [wfDs] using h
      simp [noLs, ih1 h'.1, ih2 h'.2]) trivial (fun _ _ _ _ => trivial) (fun _ _ _ => trivial) d
theorem wfs_noLs {ds : List D} (h : wfDs ds = true) : noLs ds = true := by
  induction ds with
  | nil => rfl
  | cons d ds ih =>
    have h' : wfD d = true ∧ wfDs ds = true := by simpa [wfDs] using h
    simp [noLs, wf_noL h'.1, ih h'.2]
theorem wf_cons {d : D} {ds : List D} (h : wfDs (d :: ds) = true) : wfD d = true ∧ wfDs ds = true := by simpa [wfDs] using h
theorem wf_tup {ds : List D} (h : wfD (.tup ds) = true) : wfDs ds = true ∧ ds.length ≤ 100 := by simpa [wfD] using h
theorem wfs_mem {ds : List D} (h : wfDs ds = true) {d : D} (m : d ∈ ds) : wfD d = true := by
  induction ds with
  | nil => cases m
  | cons e ds ih =>
    have h' := wf_cons h
    rcases List.mem_cons.mp m with m | m
    · rw [m]; exact h'.1
    · exact ih h'.2 m
theorem noLs_mem {ds : List D} (h : noLs ds = true) {d : D} (m : d ∈ ds) : noL d = true := by
  induction ds with
  | nil => cases m
  | cons e ds ih =>
    have h' : noL e = true ∧ noLs ds = true := by simpa [noLs] using h
    rcases List.mem_cons.mp m with m | m
    · rw [m]; exact h'.1
    · exact ih h'.2 m
theorem noLs_of {ds : List D} (h : ∀ d ∈ ds, noL d = true) : noLs ds = true := by
  induction ds with
  | nil => rfl
  | cons e ds ih => simp [noLs, h e List.mem_cons_self, ih fun d m => h d (List.mem_cons_of_mem _ m)]
theorem enc_wf : ∀ s : Sm, wfD (enc s) = true
  | .num n => by simp [enc, wfD, wfDs]; decide +kernel
  | .nam c => by simp [enc, wfD, wfDs]; exact ⟨by decide +kernel, by show 1 ≤ 1000; decide⟩
  | .bin o a b => by
    simp [enc, wfD, wfDs, enc_wf a, enc_wf b]
    cases o <;> decide +kernel
  | .say a => by simp [enc, wfD, wfDs, enc_wf a]; decide +kernel
  | .ask => by simp [enc, wfD, wfDs]; decide +kernel
/-- what a def hands back that holds no list -/
theorem fz_ret {M : Mp} {Qd : D → Prop} {d : D} (h : noL d = true) (q : Qd d) : ∃ d', Fz M d d' ∧ ownD d' = true ∧ Qd d' := ⟨d, fz_refl h, own_noL h, q⟩
theorem fz_lst {M : Mp} {Qd : D → Prop} {ds : List D} (h : noLs ds = true) (q : Qd (.lst .own ds)) : ∃ d', Fz M (.lst .own ds) d' ∧ ownD d' = true ∧ Qd d' := ⟨_, .lst (fzs_refl h), by simpa [ownD] using owns_noL h, q⟩
theorem fz_cell {M : Mp} {Qd : D → Prop} {p : Addr} {ds : List D} (c : M p = some (.lst ds)) (h : noLs ds = true) (q : Qd (.lst .own ds)) : ∃ d', Fz M (.val (.ref p)) d' ∧ ownD d' = true ∧ Qd d' := ⟨_, .cell c (fzs_refl h), by simpa [ownD] using owns_noL h, q⟩

/-! the loop that looks at a sum -/
def goodD : Nat → D → Bool
  | 0, _ => false
  | n + 1, d => wholeD d && (kidsD d).all (goodD n)
def sizeD : Nat → D → Nat
  | 0, _ => 1
  | n + 1, d => 1 + ((kidsD d).map (sizeD n)).sum
def sumD (d : D) : Bool := goodD 15 d && decide (sizeD 15 d ≤ 60)
/-- the stack's top first; a sum's own depth beside it -/
def loopD : Nat → List (D × Nat) → Bool
  | _, [] => true
  | 0, _ :: _ => false
  | n + 1, (d, k) :: st => if 15 < k then false else if wholeD d = true then loopD n (((kidsD d).map fun e => (e, k + 1)).reverse ++ st) else false
def sizeS (st : List (D × Nat)) : Nat := (st.map fun p => sizeD (16 - p.2) p.1).sum
theorem sizeD_pos (n : Nat) (d : D) : 1 ≤ sizeD n d := by cases n <;> simp only [sizeD] <;> omega
theorem sum_rev (l : List Nat) : l.reverse.sum = l.sum := by
  induction l with
  | nil => rfl
  | cons a l ih => rw [List.reverse_cons, List.sum_append, ih, List.sum_cons, List.sum_cons, List.sum_nil]; omega
theorem loopD_eq : ∀ (n : Nat) (st : List (D × Nat)), (∀ p ∈ st, 1 ≤ p.2 ∧ p.2 ≤ 16) → loopD n st = ((st.all fun p => goodD (16 - p.2) p.1) && decide (sizeS st ≤ n))
  | 0, [], _ => rfl
  | n + 1, [], _ => by simp [loopD, sizeS]
  | 0, p :: st, h => by
    obtain ⟨d, k⟩ := p
    have e : ¬ sizeS ((d, k) :: st) ≤ 0 := by
      have := sizeD_pos (16 - k) d
      simp only [sizeS, List.map_cons, List.sum_cons]
      omega
    simp [loopD, e]
  | n + 1, p :: st, h => by
    obtain ⟨d, k⟩ := p
    have hk := h _ List.mem_cons_self
    unfold loopD
    by_cases c : 15 < k
    · rw [if_pos c]
      have e : 16 - k = 0 := by simp only at hk; omega
      simp [goodD, e]
    · rw [if_neg c]
      obtain ⟨j, hj⟩ : ∃ j, 16 - k = j + 1 := ⟨15 - k, by omega⟩
      have hj' : 16 - (k + 1) = j := by omega
      by_cases wd : wholeD d = true
      · rw [if_pos wd, loopD_eq n _ (fun p hp => ?_)]
        · have e1 : (((kidsD d).map fun e => (e, k + 1)).reverse ++ st).all (fun p => goodD (16 - p.2) p.1) = ((kidsD d).all (goodD j) && st.all fun p => goodD (16 - p.2) p.1) := by
            rw [List.all_append, List.all_reverse, List.all_map]
            congr 2
            funext e
            simp only [Function.comp, hj']
          have e2 : sizeS (((kidsD d).map fun e => (e, k + 1)).reverse ++ st) = ((kidsD d).map (sizeD j)).sum + sizeS st := by
            unfold sizeS
            rw [List.map_append, List.sum_append, List.map_reverse, sum_rev, List.map_map]
            congr 2
            apply List.map_congr_left
            intro e _
            simp only [Function.comp, hj']
          have e3 : sizeS ((d, k) :: st) = 1 + ((kidsD d).map (sizeD j)).sum + sizeS st := by
            unfold sizeS
            rw [List.map_cons, List.sum_cons]
            simp only [hj, sizeD]
          rw [e1, e2, List.all_cons, e3]
          simp only [hj, goodD, wd, Bool.true_and]
          congr 1
          rw [decide_eq_decide]
          omega
        · rcases List.mem_append.mp hp with hp | hp
          · obtain ⟨e, _, rfl⟩ := List.mem_map.mp (List.mem_reverse.mp hp)
            simp only at hk ⊢
            omega
          · exact h p (List.mem_cons_of_mem _ hp)
      · rw [if_neg wd, List.all_cons]
        simp [hj, goodD, wd]
theorem loopD_sum (d : D) : loopD 60 [(d, 1)] = sumD d := by
  rw [loopD_eq 60 _ (by simp)]
  simp [sumD, sizeS]
theorem kids_enc (s : Sm) : kidsD (enc s) = s.kids.map enc := by
  cases s with
  | num n => simp only [enc, kidsD, Sm.kids]; rw [if_neg (by decide +kernel)]; rfl
  | nam c => simp only [enc, kidsD, Sm.kids]; rw [if_neg (by decide +kernel)]; rfl
  | bin o a b =>
    simp only [enc, kidsD, Sm.kids]
    rw [if_pos (by cases o <;> decide +kernel)]
    rfl
  | say a => simp only [enc, kidsD, Sm.kids]; rw [if_pos (by decide +kernel)]; rfl
  | ask => simp only [enc, kidsD, Sm.kids]; rw [if_neg (by decide +kernel)]; rfl
theorem let_nam {c : Nat} (h : 97 ≤ c ∧ c < 103) : letD (.str ⟨#[c]⟩) = true := by
  have : c = 97 ∨ c = 98 ∨ c = 99 ∨ c = 100 ∨ c = 101 ∨ c = 102 := by omega
  rcases this with rfl | rfl | rfl | rfl | rfl | rfl <;> decide +kernel
theorem whole_enc (s : Sm) (h : s.ok) : wholeD (enc s) = true := by
  cases s with
  | num n =>
    have e : numD (.int n) = true := by simp [numD]; exact h
    show (if (match sizeOf' "num" with | some i => i | none => 0) = ((1 + 1 : Nat) : Int) then (if (("num" : Str) = "num") then numD (.int n) else if (("num" : Str) = "name") then letD (.int n) else true) else false) = true
    rw [if_pos (by decide +kernel), if_pos rfl, e]
  | nam c =>
    show (if (match sizeOf' "name" with | some i => i | none => 0) = ((1 + 1 : Nat) : Int) then (if (("name" : Str) = "num") then numD (.str ⟨#[c]⟩) else if (("name" : Str) = "name") then letD (.str ⟨#[c]⟩) else true) else false) = true
    rw [if_pos (by decide +kernel), if_neg (by decide +kernel), if_pos rfl, let_nam h]
  | bin o a b =>
    show (if (match sizeOf' o.word with | some i => i | none => 0) = ((2 + 1 : Nat) : Int) then (if o.word = "num" then numD (enc a) else if o.word = "name" then letD (enc a) else true) else false) = true
    rw [if_pos (by cases o <;> decide +kernel), if_neg (by cases o <;> decide +kernel), if_neg (by cases o <;> decide +kernel)]
  | say a =>
    show (if (match sizeOf' "say" with | some i => i | none => 0) = ((1 + 1 : Nat) : Int) then (if (("say" : Str) = "num") then numD (enc a) else if (("say" : Str) = "name") then letD (enc a) else true) else false) = true
    rw [if_pos (by decide +kernel), if_neg (by decide +kernel), if_neg (by decide +kernel)]
  | ask =>
    show (if (match sizeOf' "ask" with | some i => i | none => 0) = ((0 + 1 : Nat) : Int) then (if (("ask" : Str) = "num") then numD .non else if (("ask" : Str) = "name") then letD .non else true) else false) = true
    rw [if_pos (by decide +kernel), if_neg (by decide +kernel), if_neg (by decide +kernel)]
theorem good_enc : ∀ (n : Nat) (s : Sm), s.ok → s.dp ≤ n → goodD n (enc s) = true
  | 0, s, _, h => by have := s.dp_pos; omega
  | n + 1, s, ho, h => by
    unfold goodD
    rw [whole_enc s ho, kids_enc, Bool.true_and, List.all_map, List.all_eq_true]
    intro e he
    cases s with
    | num | nam | ask => cases he
    | bin o a b =>
      simp only [Sm.kids, List.mem_cons, List.not_mem_nil, or_false] at he
      simp only [Sm.dp] at h
      rcases he with rfl | rfl
      · exact good_enc n _ ho.1 (by omega)
      · exact good_enc n _ ho.2 (by omega)
    | say a =>
      simp only [Sm.kids, List.mem_cons, List.not_mem_nil, or_false] at he
      simp only [Sm.dp] at h
      subst he
      exact good_enc n _ ho (by omega)
theorem size_enc : ∀ (n : Nat) (s : Sm), s.dp ≤ n → sizeD n (enc s) = s.sz
  | 0, s, h => by have := s.dp_pos; omega
  | n + 1, s, h => by
    unfold sizeD
    rw [kids_enc, List.map_map]
    cases s with
    | num | nam | ask => rfl
    | bin o a b =>
      simp only [Sm.dp] at h
      simp only [Sm.kids, List.map_cons, List.map_nil, Function.comp, List.sum_cons, List.sum_nil, Sm.sz]
      rw [size_enc n a (by omega), size_enc n b (by omega)]
      omega
    | say a =>
      simp only [Sm.dp] at h
      simp only [Sm.kids, List.map_cons, List.map_nil, Function.comp, List.sum_cons, List.sum_nil, Sm.sz]
      rw [size_enc n a (by omega)]
      omega
/-- a sum that can be -/
structure Sm.good (s : Sm) : Prop where
  ok : s.ok
  dp : s.dp ≤ 15
  sz : s.sz ≤ 60
theorem sum_enc {s : Sm} (h : s.good) : sumD (enc s) = true := by
  unfold sumD
  rw [good_enc 15 s h.ok h.dp, size_enc 15 s h.dp]
  simpa using h.sz
end DL

namespace DL
open PySem L2
theorem eqS (a x : Str) : eqV (.str a) (.str x) = decide (x = a) := by
  show (a == x) = decide (x = a)
  by_cases h : x = a
  · rw [h, decide_eq_true rfl]; exact beq_self_eq_true a
  · rw [decide_eq_false h]; exact beq_eq_false_iff_ne.mpr fun e => h e.symm
theorem inV3 (x a b c : Str) : inV (.str x) [.str a, .str b, .str c] = (decide (x = a) || (decide (x = b) || decide (x = c))) := by
  simp only [inV, List.any_cons, List.any_nil, eqS, Bool.or_false]
theorem inV2 (x a b : Str) : inV (.str x) [.str a, .str b] = (decide (x = a) || decide (x = b)) := by
  simp only [inV, List.any_cons, List.any_nil, eqS, Bool.or_false]
theorem cut1 {x : D} {r : List D} : cutD (x :: r) (some 1) none = r := by
  have e1 : HT.sIx (x :: r).length 0 (some 1) = 1 := by
    rw [show (1 : Int) = ((1 : Nat) : Int) from rfl, HT.sIx_nat, List.length_cons]
    omega
  have e2 : HT.sIx (x :: r).length (x :: r).length none = r.length + 1 := rfl
  unfold cutD
  rw [e1, e2]
  simp
theorem cut2 {x y : D} {r : List D} : cutD (x :: y :: r) (some 2) none = r := by
  have e1 : HT.sIx (x :: y :: r).length 0 (some 2) = 2 := by
    rw [show (2 : Int) = ((2 : Nat) : Int) from rfl, HT.sIx_nat, List.length_cons, List.length_cons]
    omega
  have e2 : HT.sIx (x :: y :: r).length (x :: y :: r).length none = r.length + 2 := rfl
  unfold cutD
  rw [e1, e2]
  simp
end DL

namespace DL
open PySem L2
theorem whole_shape {d : D} (h : wholeD d = true) : ∃ x r, d = .tup (.str x :: r) := by
  cases d with
  | tup ds =>
    cases ds with
    | nil => exact absurd h Bool.false_ne_true
    | cons e r =>
      cases e with
      | str x => exact ⟨x, r, rfl⟩
      | _ => exact absurd h Bool.false_ne_true
  | _ => exact absurd h Bool.false_ne_true
theorem kids_wf {d : D} (h : wfD d = true) : wfDs (kidsD d) = true ∧ (kidsD d).length ≤ 100 := by
  unfold kidsD
  split
  · rename_i w r
    have h' := wf_tup h
    have h2 := wf_cons h'.1
    split
    · exact ⟨h2.2, by have := h'.2; rw [List.length_cons] at this; omega⟩
    · exact ⟨rfl, Nat.zero_le _⟩
  · exact ⟨rfl, Nat.zero_le _⟩
def pr (p : D × Nat) : D := .tup [p.1, .int (p.2 : Nat)]
theorem stack_ext (st : List (D × Nat)) (ks : List D) (k : Nat) : (st.map pr).reverse ++ ks.map (fun e => D.tup [e, .int ((k : Int) + 1)]) = (((ks.map fun e => (e, k + 1)).reverse ++ st).map pr).reverse := by
  rw [List.map_append, List.reverse_append, List.map_reverse, List.reverse_reverse, List.map_map]
  congr 1
end DL

namespace DL
open PySem L2
inductive W7 where
  | num | name | add | less | times | say | ask
  deriving DecidableEq
def W7.str : W7 → Str
  | .num => "num"
  | .name => "name"
  | .add => "add"
  | .less => "less"
  | .times => "times"
  | .say => "say"
  | .ask => "ask"
def Sm.w7 : Sm → W7
  | .num _ => .num
  | .nam _ => .name
  | .bin .add _ _ => .add
  | .bin .less _ _ => .less
  | .bin .times _ _ => .times
  | .say _ => .say
  | .ask => .ask
def Sm.wd (s : Sm) : Str := s.w7.str
def Sm.tl : Sm → List D
  | .num n => [.int n]
  | .nam c => [.str ⟨#[c]⟩]
  | .bin _ a b => [enc a, enc b]
  | .say a => [enc a]
  | .ask => []
theorem enc_eq (s : Sm) : enc s = .tup (.str s.wd :: s.tl) := by
  cases s with
  | bin o a b => cases o <;> rfl
  | _ => rfl
theorem tl_noL (s : Sm) : noLs s.tl = true := by
  have h := enc_noL s
  rw [enc_eq] at h
  simpa [noL, noLs] using h
def Sm.loud : Sm → Bool
  | .say _ => true
  | .ask => true
  | _ => false
theorem w7_loud (x : W7) : (decide (x.str = "say") || decide (x.str = "ask")) = (x == .say || x == .ask) := by cases x <;> decide +kernel
theorem w7_pair (x : W7) : (decide (x.str = "add") || (decide (x.str = "less") || decide (x.str = "times"))) = (x == .add || x == .less || x == .times) := by cases x <;> decide +kernel
theorem w7_is (x y : W7) : decide (x.str = y.str) = (x == y) := by cases x <;> cases y <;> decide +kernel
theorem wd_loud (s : Sm) : inV (.str s.wd) [.str "say", .str "ask"] = s.loud := by
  rw [inV2]
  refine (w7_loud s.w7).trans ?_
  cases s with
  | bin o a b => cases o <;> rfl
  | _ => rfl
def Sm.pair : Sm → Bool
  | .bin _ _ _ => true
  | _ => false
theorem wd_pair (s : Sm) : inV (.str s.wd) [.str "add", .str "less", .str "times"] = s.pair := by
  rw [inV3]
  refine (w7_pair s.w7).trans ?_
  cases s with
  | bin o a b => cases o <;> rfl
  | _ => rfl
theorem wd_is (s : Sm) (y : W7) : decide (s.wd = y.str) = (s.w7 == y) := w7_is s.w7 y
theorem eff_eq (s : Sm) : s.eff = (s.loud || s.kids.any Sm.eff) := by
  cases s <;> simp [Sm.eff, Sm.loud, Sm.kids]
theorem kids_dp {s k : Sm} (h : k ∈ s.kids) : k.dp + 1 ≤ s.dp := by
  cases s with
  | bin o a b =>
    simp only [Sm.kids, List.mem_cons, List.not_mem_nil, or_false] at h
    simp only [Sm.dp]
    rcases h with rfl | rfl <;> omega
  | say a =>
    simp only [Sm.kids, List.mem_cons, List.not_mem_nil, or_false] at h
    simp only [Sm.dp]
    subst h
    omega
  | _ => cases h
theorem kids_len (s : Sm) : s.kids.length ≤ 2 := by cases s <;> simp [Sm.kids]
theorem any_filter {α β : Type} (p : α → Bool) (f : α → β) (l : List α) : (!((l.filter p).map f).isEmpty) = l.any p := by
  induction l with
  | nil => rfl
  | cons a l ih =>
    rw [List.filter_cons, List.any_cons]
    cases h : p a with
    | true => rfl
    | false => simpa [h] using ih
theorem spP_imp {K : PySem.W.Frag} {S S' : Pq} (h : ∀ ds Q X, S' ds Q X → S ds Q X) : ∀ vs H Q E, spP K S' vs H Q E → spP K S vs H Q E := fun vs H Q E ⟨ds, Qd, Xd, t, s, r⟩ => ⟨ds, Qd, Xd, t, h _ _ _ s, r⟩
theorem enc_ne {s : Sm} : ∃ ds, enc s = .tup ds := ⟨_, enc_eq s⟩
end DL

/-! least: how many boxes, which steps -/
namespace DL
open PySem L2
def mx (i j : Int) : Int := if j > i then j else i
def mn (i j : Int) : Int := if j < i then j else i
def Sm.want : Sm → Int
  | .bin _ a b => if (a.eff && b.eff) = true then mx a.want (1 + b.want) else mn (mx a.want (1 + b.want)) (mx b.want (1 + a.want))
  | .say a => a.want
  | .num _ => 1
  | .nam _ => 1
  | .ask => 1
/-- what ways_of tells -/
def waysD (a b : Sm) : D := .tup [.int (mx a.want (1 + b.want)), if (a.eff && b.eff) = true then .non else .int (mx b.want (1 + a.want))]
def turned (a b : Sm) : Bool := !(a.eff && b.eff) && decide (mx b.want (1 + a.want) < mx a.want (1 + b.want))
def leafStep (s : Sm) (b : Int) : D := .tup (.int b :: .str s.wd :: s.tl)
def Sm.lsteps : Sm → Int → List D
  | .say a, b => a.lsteps b ++ [.tup [.int b, .str "say", .int b]]
  | .bin o a c, b => if turned a c = true then (c.lsteps b ++ a.lsteps (b + 1)) ++ [.tup [.int b, .str o.word, .int (b + 1), .int b]]
      else (a.lsteps b ++ c.lsteps (b + 1)) ++ [.tup [.int b, .str o.word, .int b, .int (b + 1)]]
  | .num n, b => [leafStep (.num n) b]
  | .nam n, b => [leafStep (.nam n) b]
  | .ask, b => [leafStep .ask b]
theorem lsteps_len : ∀ (s : Sm) (b : Int), (s.lsteps b).length = s.sz
  | .say a, b => by simp [Sm.lsteps, Sm.sz, lsteps_len a b]; omega
  | .bin o a c, b => by
    unfold Sm.lsteps Sm.sz
    split <;> simp only [List.length_append, lsteps_len a, lsteps_len c, List.length_cons, List.length_nil] <;> omega
  | .num n, b => rfl
  | .nam n, b => rfl
  | .ask, b => rfl
theorem noLs_app {a b : List D} (ha : noLs a = true) (hb : noLs b = true) : noLs (a ++ b) = true := noLs_of fun d m => by
  rcases List.mem_append.mp m with m | m
  · exact noLs_mem ha m
  · exact noLs_mem hb m
theorem lsteps_noL : ∀ (s : Sm) (b : Int), noLs (s.lsteps b) = true
  | .say a, b => noLs_app (lsteps_noL a b) rfl
  | .bin o a c, b => by
    unfold Sm.lsteps
    split
    · exact noLs_app (noLs_app (lsteps_noL c b) (lsteps_noL a _)) rfl
    · exact noLs_app (noLs_app (lsteps_noL a b) (lsteps_noL c _)) rfl
  | .num n, b => rfl
  | .nam n, b => rfl
  | .ask, b => rfl
end DL

/-! The laws' drawing: its state, the sums drawn -/
namespace DL
open PySem L2
theorem de_tyT {P : Pr} {M : Mp} {Q : D → Mp → Prop} {ε : DSt} {a b : String} (q : Q (.tup [.val (.ty a), .val (.ty b)]) M) : DE P (tTup (tCons (tC (.ty a)) (tCons (tC (.ty b)) tNil))) ε M Q :=
  de_tup (da_cons (de_val (da_cons (de_val (da_nil ⟨by simp, q⟩)))))
theorem at_mem {α : Type} {xs : List α} {i : Int} (h0 : 0 ≤ i) (h1 : i < (xs.length : Int)) : ∃ d, atI xs i = some d ∧ d ∈ xs := by
  obtain ⟨j, rfl⟩ : ∃ j : Nat, i = j := ⟨i.toNat, by omega⟩
  have hj : j < xs.length := by omega
  exact ⟨xs[j], atI_nat (List.getElem?_eq_getElem hj), List.getElem_mem hj⟩
theorem fmod_rng {i n : Int} (h : 0 < n) : 0 ≤ i.fmod n ∧ i.fmod n < n := by
  rw [Int.fmod_eq_emod_of_nonneg i (by omega)]
  exact ⟨Int.emod_nonneg i (by omega), Int.emod_lt_of_pos i h⟩
theorem fdiv_nn {i n : Int} (h : 0 < n) (hi : 0 ≤ i) : 0 ≤ i.fdiv n := by
  rw [Int.fdiv_eq_ediv_of_nonneg i (by omega)]
  exact Int.ediv_nonneg hi (by omega)
/-- the drawing's state -/
def stv (ns : List Int) (c m l : Int) : List D := [.lst .frz (ns.map .int), .int c, .int m, .int l]
structure StOk (ns : List Int) (x : Cell) : Prop where
  ex : ∃ c m l : Int, x = .lst (stv ns c m l) ∧ 0 ≤ c ∧ 0 ≤ m ∧ m < 2147483647 ∧ 0 ≤ l
  short : ns.length ≤ 63
/-- two cells by name -/
def M2 (M : Mp) (a : Addr) (c : Cell) (b : Addr) (e : Cell) : Mp := updM (updM M a c) b e
section
variable {M : Mp} {a b : Addr} {c c' e e' : Cell}
theorem M2_b : M2 M a c b e b = some e := updM_same
theorem M2_a (h : a ≠ b) : M2 M a c b e a = some c := by unfold M2; rw [updM_ne h]; exact updM_same
theorem M2_setb : updM (M2 M a c b e) b e' = M2 M a c b e' := updM_updM
theorem M2_seta (h : a ≠ b) : updM (M2 M a c b e) a c' = M2 M a c' b e := by
  funext x
  unfold M2 updM
  by_cases h1 : x = a
  · by_cases h2 : x = b
    · exact absurd (h1.symm.trans h2) h
    · rw [if_pos h1, if_neg h2, if_pos h1]
  · rw [if_neg h1]
    by_cases h2 : x = b
    · rw [if_pos h2, if_pos h2]
    · rw [if_neg h2, if_neg h2, if_neg h1, if_neg h1]
theorem M2_id (ha : M a = some c) (hb : M b = some e) : M2 M a c b e = M := by
  funext x
  unfold M2 updM
  by_cases h2 : x = b
  · rw [if_pos h2, h2, hb]
  · rw [if_neg h2]
    by_cases h1 : x = a
    · rw [if_pos h1, h1, ha]
    · rw [if_neg h1]
theorem M2_M2 (h : a ≠ b) : M2 (M2 M a c b e) a c' b e' = M2 M a c' b e' := by
  show updM (updM (M2 M a c b e) a c') b e' = _
  rw [M2_seta h, M2_setb]
theorem updM_id (ha : M a = some c) : updM M a c = M := by
  funext x
  unfold updM
  by_cases h1 : x = a
  · rw [if_pos h1, h1, ha]
  · rw [if_neg h1]
end
/-! a leaf drawn -/
theorem leaf_enc {v : Int} {c : Nat} {d : D} (hv : 0 ≤ v ∧ v < 1000) (hc : 97 ≤ c ∧ c < 103) (h : d ∈ ([.tup [.str "num", .int v], .tup [.str "name", .str ⟨#[c]⟩]] ++ [.tup [.str "ask"], .tup [.str "name", .str "a"]] : List D)) :
    ∃ s : Sm, d = enc s ∧ s.ok ∧ s.dp = 1 ∧ s.sz = 1 := by
  simp only [List.cons_append, List.nil_append, List.mem_cons, List.not_mem_nil, or_false] at h
  rcases h with rfl | rfl | rfl | rfl
  · exact ⟨.num v, rfl, hv, rfl, rfl⟩
  · exact ⟨.nam c, rfl, hc, rfl, rfl⟩
  · exact ⟨.ask, rfl, trivial, rfl, rfl⟩
  · exact ⟨.nam 97, rfl, (show 97 ≤ 97 ∧ 97 < 103 by decide), rfl, rfl⟩
/-! what the laws ask of equal data -/
def sdD : Nat → D → Bool
  | _, .non => true
  | _, .bl _ => true
  | _, .int _ => true
  | _, .str _ => true
  | n + 1, .tup ds => decide (ds.length ≤ 1000) && ds.all (sdD n)
  | n + 1, .lst .arg ds => decide (ds.length ≤ 1000) && ds.all (sdD n)
  | _, _ => false
theorem sd_mono : ∀ (n m : Nat) (d : D), n ≤ m → sdD n d = true → sdD m d = true
  | _, _, .non, _, _ => by simp [sdD]
  | _, _, .bl _, _, _ => by simp [sdD]
  | _, _, .int _, _, _ => by simp [sdD]
  | _, _, .str _, _, _ => by simp [sdD]
  | 0, _, .tup _, _, h => by simp [sdD] at h
  | n + 1, 0, .tup _, hm, _ => by omega
  | n + 1, m + 1, .tup ds, hm, h => by
    simp only [sdD, Bool.and_eq_true, List.all_eq_true] at h ⊢
    exact ⟨h.1, fun e he => sd_mono n m e (by omega) (h.2 e he)⟩
  | 0, _, .lst k _, _, h => by cases k <;> simp [sdD] at h
  | n + 1, 0, .lst _ _, hm, _ => by omega
  | n + 1, m + 1, .lst .arg ds, hm, h => by
    simp only [sdD, Bool.and_eq_true, List.all_eq_true] at h ⊢
    exact ⟨h.1, fun e he => sd_mono n m e (by omega) (h.2 e he)⟩
  | n + 1, m + 1, .lst .own ds, hm, h => by simp [sdD] at h
  | n + 1, m + 1, .lst .frz ds, hm, h => by simp [sdD] at h
  | _, _, .dic _, _, h => by simp [sdD] at h
  | _, _, .val _, _, h => by simp [sdD] at h
theorem sd_enc : ∀ (n : Nat) (s : Sm), s.dp ≤ n → sdD n (enc s) = true
  | 0, s, h => by have := s.dp_pos; omega
  | n + 1, s, h => by
    cases s with
    | num v => cases n <;> simp [enc, sdD]
    | nam v => cases n <;> simp [enc, sdD]
    | ask => cases n <;> simp [enc, sdD]
    | say a =>
      simp only [Sm.dp] at h
      simp only [enc, sdD, List.all_cons, List.all_nil]
      rw [sd_enc n a (by omega)]
      simp [sdD]
    | bin o a b =>
      simp only [Sm.dp] at h
      simp only [enc, sdD, List.all_cons, List.all_nil]
      rw [sd_enc n a (by omega), sd_enc n b (by omega)]
      simp [sdD]
def Sm.all : Sm → List Sm
  | .bin o a b => .bin o a b :: (a.all ++ b.all)
  | .say a => .say a :: a.all
  | .num n => [.num n]
  | .nam n => [.nam n]
  | .ask => [.ask]
theorem all_len : ∀ s : Sm, s.all.length = s.sz
  | .bin o a b => by simp only [Sm.all, Sm.sz, List.length_cons, List.length_append, all_len a, all_len b]; omega
  | .say a => by simp only [Sm.all, Sm.sz, List.length_cons, all_len a]; omega
  | .num _ => rfl
  | .nam _ => rfl
  | .ask => rfl
theorem all_loud : ∀ s : Sm, s.all.any Sm.loud = s.eff
  | .bin o a b => by simp only [Sm.all, List.any_cons, List.any_append, all_loud a, all_loud b, Sm.eff]; simp [Sm.loud]
  | .say a => by simp [Sm.all, Sm.eff, Sm.loud]
  | .num _ => rfl
  | .nam _ => rfl
  | .ask => rfl
end DL

/-! More built-ins over data -/
namespace DL
open PySem L2 PyProof.Rows
abbrev rMinT (K : PySem.W.Frag) : List V → Hp → VK → Prop := fun vs H Q => ∃ (a : Addr) (i j : Int), vs = [.ref a] ∧ SqT K H a [.int i, .int j] ∧ Q (.int (mn i j)) H
theorem vals_two {i j : Int} {its : List Value} (h : Vals [V.int i, V.int j] its) : ∃ t u, its = [.int i t, .int j u] := by
  obtain ⟨u, w', rfl, ⟨t, rfl⟩, ⟨t', rfl⟩⟩ := vals2 h
  exact ⟨t, t', rfl⟩
theorem cr_minT {X : Cx} {k : Nat} (hc : X.calm = true) (hr : Room k X.A) : CallR X (.builtin "min") (rMinT X.K) := by
  intro pins s σ H vs us Q I r h
  obtain ⟨a, i, j, rfl, hs, q⟩ := h
  obtain ⟨its, rv, hl, _⟩ := I.tuple hs
  obtain ⟨t, u, rfl⟩ := vals_two rv
  rw [Vals.ref1 r]
  refine PySem.W.min_tuple_datum (α := Int) (x := i) (xs := [j]) (I.ok.hd hc) hl (PySem.W.HoldAll.cons (PySem.W.holds_int i t) (PySem.W.HoldAll.cons (PySem.W.holds_int j u) PySem.W.HoldAll.nil)) (by have := hr.units; show X.A.units + 1 + 0 < cLine; omega) fun n v h' tk hv hh hk => ?_
  obtain ⟨t', rfl⟩ := PySem.W.int_of_holds hh
  have e : PySem.W.minOf i [j] = mn i j := by
    show (if decide (j < i) = true then j else i) = mn i j
    unfold mn
    by_cases hj : j < i
    · rw [if_pos (decide_eq_true hj), if_pos hj]
    · rw [if_neg (by simpa using hj), if_neg hj]
  rw [e]
  exact ⟨.int _, H, I.kept hk, ⟨_, rfl⟩, q⟩
theorem cr_minTk {X : Cx} {k : Nat} (K : PySem.W.Frag) (hc : X.calm = true) (hr : Room k X.A) (h : X.K = K := by rfl) : CallR X (.builtin "min") (rMinT K) := by subst h; exact cr_minT hc hr
theorem dl_minT {P : Pr} {M : Mp} {Q : D → Mp → Prop} {i j : Int} (q : Q (.int (mn i j)) M) : DL' P (rMinT P.K) [.tup [.int i, .int j]] M Q := by
  intro vs H R r gd k
  obtain ⟨v, rfl, r1⟩ := trs1 r
  obtain ⟨a, ws, rfl, h1, r2⟩ := (IsS.tup _).at r1 gd
  cases r2 with
  | cons r3 r4 =>
    cases r4 with
    | cons r5 r6 =>
      cases r6
      cases tr_int r3
      cases tr_int r5
      refine ⟨a, i, j, rfl, ?_, k.here (.int _) gd q⟩
      cases r1 with
      | tup h r7 =>
        cases r7 with
        | cons r8 r9 =>
          cases r9 with
          | cons r10 r11 =>
            cases r11
            cases tr_int r8
            cases tr_int r10
            exact h.imp (fun z => .inl z.1) id
section
variable {P : Pr} {M : Mp} {Q : D → Mp → Prop} {ε : DSt} {al : TA} {S' : Pq}
theorem m_none {K : PySem.W.Frag} {B : Hp} {M : Mp} {H H' : Hp} (g : Good K B M H) (s : Same H H') {a : Addr} {vs : List V} (h : H' a = some (.tup vs)) : M a = none := by
  cases e : M a with
  | none => rfl
  | some c =>
    exfalso
    have hc := g.cell _ _ e
    cases c with
    | lst es => obtain ⟨ws, h1, _⟩ := hc; have := s _ _ h1; rw [h] at this; cases this
    | dic kvs => obtain ⟨ws, h1, _⟩ := hc; have := s _ _ h1; rw [h] at this; cases this
    | ins C fs => obtain ⟨dx, ws, h1, _⟩ := hc; have := s _ _ h1; rw [h] at this; cases this
    | tab q => obtain ⟨ws, h1, _⟩ := hc; have := s _ _ h1; rw [h] at this; cases this
    | dfz o ws kvs => have := s _ _ hc.1; rw [h] at this; cases this
    | lam L => obtain ⟨_, _, _, h1, _⟩ := hc; have := s _ _ h1; rw [h] at this; cases this
    | lamd L => obtain ⟨_, _, _, _, _, h1, _⟩ := hc; have := s _ _ h1; rw [h] at this; cases this
    | cel d => obtain ⟨_, h1, _⟩ := hc; have := s _ _ h1; rw [h] at this; cases this
/-- its answer a new pair of a number and a new list: the list as a cell -/
theorem de_callPT0 (h : DA P al ε M fun ds M1 => ∃ es, Vws M1 ds es ∧ S' es (fun d => ∃ i xs, d = .tup [.int i, .lst .own xs] ∧ noLs xs = true ∧ ∀ p, M1 p = none → P.B p = none → Q (.tup [.int i, .val (.ref p)]) (updM M1 p (.lst xs))) fun _ _ => False) : DE P (tCall (spP P.K S') [] E0 al) ε M Q := fun σ H R a k => by
  refine h σ H _ a fun vs ds M1 H1 t1 g1 e1 h1 => ?_
  obtain ⟨es, w, h1⟩ := h1
  refine callP_core (fun _ _ => False) t1 g1 w _ h1 (fun v d H' t o s g q => ?_) (fun _ _ _ _ x => x.elim)
  obtain ⟨i, xs, rfl, n, q⟩ := q
  cases t with
  | @tup ad us _ ha hr =>
    cases hr with
    | @cons vi _ vl _ t2 t3 =>
      cases t3 with
      | @cons vl2 _ _ _ t4 t5 =>
        cases t5
        cases tr_int t2
        obtain ⟨p, rfl, h2, h3, g4, e4⟩ := thaw g1 s t4 n
        refine k _ _ _ _ (.tup ?_ (.cons (.int _) (.cons (.val _) .nil))) g4 (e1.trans e4) (q p h2 h3)
        obtain ⟨ws, hw, _⟩ := g4.cell p _ updM_same
        rcases ha with ha | ha
        · refine .inl ⟨ha.1, ?_⟩
          rw [updM_ne (fun z => by have := ha.1; rw [z, hw] at this; cases this)]
          exact m_none g1 s ha.1
        · exact .inr ha
end
/-! the laws' own reading of a sum -/
def Sm.quiet : Sm → Sm
  | .ask => .num 7
  | .say a => a.quiet
  | .bin o a b => .bin o a.quiet b.quiet
  | .num n => .num n
  | .nam n => .nam n
theorem quiet_ok : ∀ {s : Sm}, s.ok → s.quiet.ok
  | .ask, _ => (show (0:Int) ≤ 7 ∧ (7:Int) < 1000 by decide)
  | .say a, h => quiet_ok (s := a) h
  | .bin o a b, h => ⟨quiet_ok h.1, quiet_ok h.2⟩
  | .num n, h => h
  | .nam n, h => h
theorem quiet_dp : ∀ s : Sm, s.quiet.dp ≤ s.dp
  | .ask => by simp [Sm.quiet, Sm.dp]
  | .say a => by have := quiet_dp a; simp only [Sm.quiet, Sm.dp]; omega
  | .bin o a b => by have := quiet_dp a; have := quiet_dp b; simp only [Sm.quiet, Sm.dp]; omega
  | .num n => by simp [Sm.quiet]
  | .nam n => by simp [Sm.quiet]
theorem quiet_sz : ∀ s : Sm, s.quiet.sz ≤ s.sz
  | .ask => by simp [Sm.quiet, Sm.sz]
  | .say a => by have := quiet_sz a; simp only [Sm.quiet, Sm.sz]; omega
  | .bin o a b => by have := quiet_sz a; have := quiet_sz b; simp only [Sm.quiet, Sm.sz]; omega
  | .num n => by simp [Sm.quiet]
  | .nam n => by simp [Sm.quiet]
theorem all_kids (s : Sm) : s.all = s :: s.kids.flatMap Sm.all := by cases s <;> simp [Sm.all, Sm.kids]
/-- all within the first of the sums that stand straight within one -/
def Sm.upto (s : Sm) (i : Nat) : List Sm := s :: (s.kids.take i).flatMap Sm.all
theorem upto_0 (s : Sm) : s.upto 0 = [s] := by simp [Sm.upto]
theorem upto_end (s : Sm) : s.upto s.kids.length = s.all := by rw [all_kids, Sm.upto, List.take_length]
theorem upto_step {s : Sm} {i : Nat} {k : Sm} (h : s.kids[i]? = some k) : s.upto (i + 1) = s.upto i ++ k.all := by
  unfold Sm.upto
  rw [List.take_add_one, h, List.flatMap_append]
  simp
theorem upto_len (s : Sm) (i : Nat) : (s.upto i).length ≤ s.sz := by
  rw [← all_len, all_kids, Sm.upto, List.length_cons, List.length_cons]
  refine Nat.succ_le_succ ?_
  have e : s.kids.flatMap Sm.all = (s.kids.take i).flatMap Sm.all ++ (s.kids.drop i).flatMap Sm.all := by
    rw [← List.flatMap_append, List.take_append_drop]
  rw [e, List.length_append]
  omega
theorem all_len' (s : Sm) : s.all.length = s.sz := all_len s
theorem want_le : ∀ s : Sm, 1 ≤ s.want ∧ s.want ≤ s.dp
  | .ask => by simp [Sm.want, Sm.dp]
  | .say a => by have := want_le a; simp only [Sm.want, Sm.dp]; omega
  | .num n => by simp [Sm.want, Sm.dp]
  | .nam n => by simp [Sm.want, Sm.dp]
  | .bin o a b => by
    have h1 := want_le a
    have h2 := want_le b
    simp only [Sm.want, Sm.dp, mx, mn]
    split <;> split <;> (try split) <;> (try split) <;> omega
/-- how many boxes with the other ahead, as the law tells it -/
def Sm.other (a b : Sm) : Int := if (a.eff && b.eff) = true then 100 else mx b.want (1 + a.want)
theorem want_min {o : Wd} {a b : Sm} (h1 : a.dp ≤ 90) (h2 : b.dp ≤ 90) : mn (mx a.want (1 + b.want)) (Sm.other a b) = (Sm.bin o a b).want := by
  have k1 := want_le a
  have k2 := want_le b
  have e : (Sm.bin o a b).want = if (a.eff && b.eff) = true then mx a.want (1 + b.want) else mn (mx a.want (1 + b.want)) (mx b.want (1 + a.want)) := rfl
  rw [e]
  unfold Sm.other
  cases (a.eff && b.eff) with
  | true =>
    rw [if_pos rfl, if_pos rfl]
    unfold mn
    rw [if_neg]
    unfold mx
    split <;> omega
  | false => rfl
theorem turned_other {a b : Sm} (h1 : a.dp ≤ 90) (h2 : b.dp ≤ 90) : decide (Sm.other a b < mx a.want (1 + b.want)) = turned a b := by
  have k1 := want_le a
  have k2 := want_le b
  unfold Sm.other turned
  cases h : a.eff && b.eff with
  | true =>
    rw [if_pos rfl]
    simp only [Bool.not_true, Bool.false_and, decide_eq_false_iff_not]
    unfold mx
    split <;> omega
  | false => simp
/-- the table of sizes -/
theorem kf_sizes {h1 h2 h3 h4 h5 h6 h7 : Int} {t1 t2 t3 t4 t5 t6 t7 u1 u2 u3 u4 u5 u6 u7 : Tok} : ∀ x : Str, KF #[⟨h1, .str "num" t1, .int 2 u1⟩, ⟨h2, .str "name" t2, .int 2 u2⟩, ⟨h3, .str "add" t3, .int 3 u3⟩, ⟨h4, .str "less" t4, .int 3 u4⟩, ⟨h5, .str "times" t5, .int 3 u5⟩, ⟨h6, .str "say" t6, .int 2 u6⟩, ⟨h7, .str "ask" t7, .int 1 u7⟩] x (sizeOf' x) := by
  intro x
  have fe : ∀ (e : DictEntry) (r : List DictEntry), findBy Value.isStrOf (e :: r).toArray x = if Value.isStrOf x e.key = true then some e.val else findBy Value.isStrOf r.toArray x := fun e r => by
    unfold findBy
    simp only [List.find?_toArray, List.find?_cons]
    cases Value.isStrOf x e.key <;> rfl
  have f0 : findBy Value.isStrOf ([] : List DictEntry).toArray x = none := rfl
  have ie : ∀ (k : Str) (t : Tok), (Value.isStrOf x (.str k t) = true) = (x = k) := fun k t => by
    show ((k == x) = true) = (x = k)
    exact propext ⟨fun h => (eq_of_beq h).symm, fun h => beq_iff_eq.mpr h.symm⟩
  unfold sizeOf'
  show KF ([_, _, _, _, _, _, _] : List DictEntry).toArray x _
  by_cases e1 : x = "num"
  · rw [if_pos e1]
    exact ⟨u1, by rw [fe, if_pos ((ie _ _).mpr e1)]⟩
  rw [if_neg e1]
  by_cases e2 : x = "name"
  · rw [if_pos e2]
    exact ⟨u2, by rw [fe, if_neg (by rw [ie]; exact e1), fe, if_pos ((ie _ _).mpr e2)]⟩
  rw [if_neg e2]
  by_cases e3 : x = "add"
  · rw [if_pos e3]
    exact ⟨u3, by rw [fe, if_neg (by rw [ie]; exact e1), fe, if_neg (by rw [ie]; exact e2), fe, if_pos ((ie _ _).mpr e3)]⟩
  rw [if_neg e3]
  by_cases e4 : x = "less"
  · rw [if_pos e4]
    exact ⟨u4, by rw [fe, if_neg (by rw [ie]; exact e1), fe, if_neg (by rw [ie]; exact e2), fe, if_neg (by rw [ie]; exact e3), fe, if_pos ((ie _ _).mpr e4)]⟩
  rw [if_neg e4]
  by_cases e5 : x = "times"
  · rw [if_pos e5]
    exact ⟨u5, by rw [fe, if_neg (by rw [ie]; exact e1), fe, if_neg (by rw [ie]; exact e2), fe, if_neg (by rw [ie]; exact e3), fe, if_neg (by rw [ie]; exact e4), fe, if_pos ((ie _ _).mpr e5)]⟩
  rw [if_neg e5]
  by_cases e6 : x = "say"
  · rw [if_pos e6]
    exact ⟨u6, by rw [fe, if_neg (by rw [ie]; exact e1), fe, if_neg (by rw [ie]; exact e2), fe, if_neg (by rw [ie]; exact e3), fe, if_neg (by rw [ie]; exact e4), fe, if_neg (by rw [ie]; exact e5), fe, if_pos ((ie _ _).mpr e6)]⟩
  rw [if_neg e6]
  by_cases e7 : x = "ask"
  · rw [if_pos e7]
    exact ⟨u7, by rw [fe, if_neg (by rw [ie]; exact e1), fe, if_neg (by rw [ie]; exact e2), fe, if_neg (by rw [ie]; exact e3), fe, if_neg (by rw [ie]; exact e4), fe, if_neg (by rw [ie]; exact e5), fe, if_neg (by rw [ie]; exact e6), fe, if_pos ((ie _ _).mpr e7)]⟩
  rw [if_neg e7]
  show findBy _ _ _ = none
  rw [fe, if_neg (by rw [ie]; exact e1), fe, if_neg (by rw [ie]; exact e2), fe, if_neg (by rw [ie]; exact e3), fe, if_neg (by rw [ie]; exact e4), fe, if_neg (by rw [ie]; exact e5), fe, if_neg (by rw [ie]; exact e6), fe, if_neg (by rw [ie]; exact e7), f0]
/-- a written tuple of three texts -/
theorem ktup3 {K : PySem.W.Frag} {a : Addr} {od : Option Addr} {sl : Array (Option Value)} {x y z : Str} {t u v : Tok} {n : Nat} (h : K.lookup a = some ⟨.type "tuple", od, .seq #[.str x t, .str y u, .str z v] n, sl⟩) : KTup K a [.str x, .str y, .str z] :=
  ⟨_, _, _, h, rfl, rfl, by show 3 ≤ _; rw [sizeLine_eq]; decide, .cons ⟨t, rfl⟩ (.cons ⟨u, rfl⟩ (.cons ⟨v, rfl⟩ .nil))⟩
end DL

/-! Comprehensions and loops over few, one by one; tuples compared -/
namespace DL
open PySem L2 PyProof.Rows
section
variable {P : Pr} {M : Mp} {ε : DSt} {Q : D → Mp → Prop} {wi : TI} {g : TG} {tb : TS} {G : DEnds}
theorem dt_imp {tt : TT} {Q' Q2 : Bool → Mp → Prop} (h : DT P tt ε M Q') (hq : ∀ d M, Q' d M → Q2 d M) : DT P tt ε M Q2 := fun σ H R a k => h σ H R a fun v M1 H1 g e q => k v M1 H1 g e (hq _ _ q)
theorem dg_imp {d : D} {Q' Q2 : DSt → Mp → Prop} (h : DG P g d ε M Q') (hq : ∀ d M, Q' d M → Q2 d M) : DG P g d ε M Q2 := fun v σ H R t a k => h v σ H R t a fun σ1 ε1 M1 H1 r g e q => k σ1 ε1 M1 H1 r g e (hq _ _ q)
def LcU (P : Pr) (g : TG) (tt : TT) (te : TE) (ε0 : DSt) (p : Addr) (Qf : List D → Mp → Prop) : List D → List D → Mp → Prop
  | [], acc, M => Qf acc M
  | x :: xs, acc, M => DG P.quiet g x ε0 M fun ε2 M2 => DT P.quiet tt ε2 M2 fun b M3 => if b = true then DE P.quiet te ε2 M3 fun e M4 => M4 p = some (.lst acc) ∧ LcU P g tt te ε0 p Qf xs (acc ++ [e]) (updM M4 p (.lst (acc ++ [e]))) else M3 p = some (.lst acc) ∧ LcU P g tt te ε0 p Qf xs acc M3
theorem drop_get {α : Type} {xs : List α} {i : Nat} {d : α} (h : xs[i]? = some d) : xs.drop i = d :: xs.drop (i + 1) := by
  obtain ⟨hi, e⟩ := List.getElem?_eq_some_iff.mp h
  rw [List.drop_eq_getElem_cons hi, e]
theorem de_lcU {tt : TT} {te : TE} {vs : List Nat} (hw : Wip g vs) (h : DI P wi ε M fun xs Ok M1 => xs.length < 100000 ∧ (∀ M', Ok M') ∧ ∀ p, M1 p = none → P.B p = none → LcU P g tt te (wipeD ε vs) p (fun _ M' => Q (.val (.ref p)) M') xs [] (updM M1 p (.lst []))) : DE P (tLc wi g tt te vs) ε M Q := by
  refine de_lc hw fun σ H R a k => h σ H R a fun J xs Ok M1 H1 g1 e1 it q => k J xs Ok M1 H1 g1 e1 it fun p hp hb => ?_
  obtain ⟨hx, hok, q⟩ := q
  refine ⟨fun i acc M' => M' p = some (.lst acc) ∧ acc.length ≤ i ∧ i ≤ xs.length ∧ LcU P g tt te (wipeD ε vs) p (fun _ M' => Q (.val (.ref p)) M') (xs.drop i) acc M', ⟨updM_same, Nat.le_refl _, Nat.zero_le _, q p hp hb⟩, fun i acc M' ⟨h1, h2, h3, _⟩ => ⟨hok M', h1, by omega⟩, fun i d acc M' hd ⟨h1, h2, h3, h4⟩ => ?_, fun acc M' ⟨h1, h2, h3, h4⟩ => ?_⟩
  · rw [drop_get hd] at h4
    have hi := (List.getElem?_eq_some_iff.mp hd).1
    refine dg_imp h4 fun ε2 M2 h5 => dt_imp h5 fun b M3 h6 => ?_
    cases b with
    | true =>
      rw [if_pos rfl] at h6 ⊢
      refine de_imp h6 fun e M4 h7 => ⟨h7.1, by omega, updM_same, by rw [List.length_append, List.length_singleton]; omega, hi, h7.2⟩
    | false =>
      rw [if_neg Bool.false_ne_true] at h6 ⊢
      exact ⟨h6.1, by omega, hi, h6.2⟩
  · rw [List.drop_length] at h4
    exact h4
def ForU (P : Pr) (g : TG) (tb : TS) (G : DEnds) : List D → DSt → Mp → Prop
  | [], ε, M => G.nx ε M
  | x :: xs, ε, M => DG P g x ε M fun ε2 M2 => DS P tb { G with nx := ForU P g tb G xs, ct := ForU P g tb G xs, bk := G.nx } ε2 M2
theorem ds_forU (h : DI P wi ε M fun xs Ok M1 => (∀ M', Ok M') ∧ ForU P g tb G xs ε M1) : DS P (tFor wi g tb) G ε M := by
  refine ds_for fun σ H R a k => h σ H R a fun J xs Ok M1 H1 g1 e1 it q => k J xs Ok M1 H1 g1 e1 it ?_
  obtain ⟨hok, q⟩ := q
  refine ⟨fun i ε' M' => i ≤ xs.length ∧ ForU P g tb G (xs.drop i) ε' M', ⟨Nat.zero_le _, q⟩, fun _ _ _ _ => hok _, fun i d ε' M' hd ⟨h3, h4⟩ => ?_, fun ε' M' ⟨h3, h4⟩ => ?_⟩
  · rw [drop_get hd] at h4
    have hi := (List.getElem?_eq_some_iff.mp hd).1
    refine dg_imp h4 fun ε2 M2 h5 => ?_
    exact ds_imp h5 (fun _ _ z => ⟨hi, z⟩) (fun _ _ z => z) (fun _ _ z => z) (fun _ _ z => ⟨hi, z⟩)
  · rw [List.drop_length] at h4
    exact h4
end
def toPf : D → PyData
  | .bl b => .bool b
  | .int i => .int i
  | .str x => .str x
  | _ => .none
theorem dp_flat {K : PySem.W.Frag} {B : Hp} {M : Mp} {H : Hp} {v : V} {d : D} (h : flatD d = true) (t : Tr K B M H v d) : Dp K H v (toPf d) := by
  cases t <;> first | exact .non | exact .bl _ | exact .int _ | exact .str _ | cases h
theorem dps_flat {K : PySem.W.Frag} {B : Hp} {M : Mp} {H : Hp} {vs : List V} {ds : List D} (h : ds.all flatD = true) (t : Trs K B M H vs ds) : DpAll K H vs (ds.map toPf) := by
  induction ds generalizing vs with
  | nil => cases t; exact .nil
  | cons d ds ih =>
    rw [List.all_cons, Bool.and_eq_true] at h
    cases t with
    | cons t1 t2 => exact .cons (dp_flat h.1 t1) (ih h.2 t2)
section
variable {P : Pr} {M : Mp} {Q : D → Mp → Prop}
theorem dp_tup {H : Hp} {v : V} {ds : List D} (h : ds.all flatD = true) (t : Tr P.K P.B M H v (.tup ds)) : Dp P.K H v (.tuple (ds.map toPf)) := by
  obtain ⟨a, vs, rfl, h1, r⟩ := tup_at t
  exact .tup h1 (dps_flat h r)
/-- flat tuples compared -/
theorem d2_neT {xs ys : List D} (fx : xs.all flatD = true) (fy : ys.all flatD = true) (sx : SeqAt.shaped (.tuple (xs.map toPf)) = true) (sy : SeqAt.shaped (.tuple (ys.map toPf)) = true) (q : Q (.bl (!PyData.eqv (.tuple (xs.map toPf)) (.tuple (ys.map toPf)))) M) : D2 P (rNe3 P.K) (.tup xs) (.tup ys) M Q :=
  fun vx vy H R rx ry gd k => .inr (.inr ⟨_, _, dp_tup fx rx, dp_tup fy ry, sx, sy, k.here (.bl _) gd q⟩)
theorem d2_eqT {xs ys : List D} (fx : xs.all flatD = true) (fy : ys.all flatD = true) (sx : SeqAt.shaped (.tuple (xs.map toPf)) = true) (sy : SeqAt.shaped (.tuple (ys.map toPf)) = true) (q : Q (.bl (PyData.eqv (.tuple (xs.map toPf)) (.tuple (ys.map toPf)))) M) : D2 P (rEq3 P.K) (.tup xs) (.tup ys) M Q :=
  fun vx vy H R rx ry gd k => .inr (.inr ⟨_, _, dp_tup fx rx, dp_tup fy ry, sx, sy, k.here (.bl _) gd q⟩)
end
end DL

/-! cut and tight: which steps -/
namespace DL
open PySem L2
theorem upd_keep {M : Mp} {p b : Addr} {c e : Cell} (hp : M p = none) (h : M b = some e) : updM M p c b = some e := (updM_ne (fun z => by rw [z, hp] at h; cases h)).trans h
def isT : D → Bool
  | .tup _ => true
  | _ => false
theorem isT_enc (s : Sm) : isT (enc s) = true := by cases s <;> rfl
theorem tl_ty (s : Sm) : ∀ d ∈ s.tl, (∃ i, d = .int i) ∨ (∃ x, d = .str x) ∨ ∃ ds, d = .tup ds := by
  intro d h
  cases s <;> simp only [Sm.tl, List.mem_cons, List.not_mem_nil, or_false] at h
  · exact .inl ⟨_, h⟩
  · exact .inr (.inl ⟨_, h⟩)
  · rcases h with rfl | rfl
    · exact .inr (.inr (enc_tup _))
    · exact .inr (.inr (enc_tup _))
  · subst h
    exact .inr (.inr (enc_tup _))
theorem tl_isT (s : Sm) : ((s.tl.filter isT).map id) = s.kids.map enc := by
  cases s with
  | bin o a b => simp only [Sm.tl, Sm.kids, List.filter_cons, isT_enc, if_true, List.filter_nil, List.map_cons, List.map_nil, id]
  | say a => simp only [Sm.tl, Sm.kids, List.filter_cons, isT_enc, if_true, List.filter_nil, List.map_cons, List.map_nil, id]
  | num n => rfl
  | nam n => rfl
  | ask => rfl
theorem tl_len (s : Sm) : s.tl.length ≤ 2 := by cases s <;> simp [Sm.tl]
/-- a class with its __init__ -/
structure Kn (K : PySem.W.Frag) (mg : Str → Option Value) (x : Str) (C : Addr) (q : Str) (st : Stmt) (ps : List Str) : Prop where
  ex : ∃ (f : Addr) (fd : FuncData), Fun K "__init__" q st f fd ∧ Mk K C f ∧ mg x = some (.ref C) ∧ Binds K fd ps []
theorem kd_of {P : Program} {w : World} {K : PySem.W.Frag} {mg : Str → Option Value} {base : Heap} {x q : Str} {st : Stmt} {ps : List Str} {k : Nat} {sp : Sp} {C : Addr} (d : Kn K mg x C q st ps) (h : ∀ f fd, Fun K "__init__" q st f fd → FnOk P w K mg base (L2.CX P w) k f fd ps sp) : Kd P w K mg base x C k ps sp := by
  obtain ⟨f, fd, F, mk, hm, hb⟩ := d.ex
  exact ⟨f, fd, h f fd F, mk, hm, hb⟩
def stepD (n : Int) (s : Sm) (bs : List D) : D := .tup (.int n :: .str s.wd :: (if s.kids = [] then s.tl else bs))
def Sm.cuts : Sm → Int → List D
  | .bin o a b, n => a.cuts n ++ b.cuts (n + a.sz) ++ [stepD (n + a.sz + b.sz) (.bin o a b) [.int (n + a.sz - 1), .int (n + a.sz + b.sz - 1)]]
  | .say a, n => a.cuts n ++ [stepD (n + a.sz) (.say a) [.int (n + a.sz - 1)]]
  | .num v, n => [stepD n (.num v) []]
  | .nam v, n => [stepD n (.nam v) []]
  | .ask, n => [stepD n .ask []]
theorem cuts_len : ∀ (s : Sm) (n : Int), (s.cuts n).length = s.sz
  | .bin o a b, n => by simp only [Sm.cuts, Sm.sz, List.length_append, cuts_len a, cuts_len b, List.length_singleton]; omega
  | .say a, n => by simp only [Sm.cuts, Sm.sz, List.length_append, cuts_len a, List.length_singleton]; omega
  | .num _, _ => rfl
  | .nam _, _ => rfl
  | .ask, _ => rfl
theorem step_noL {n : Int} {s : Sm} {bs : List D} (h : noLs bs = true) : noL (stepD n s bs) = true := by
  unfold stepD
  split <;> simp [noL, noLs, h, tl_noL]
theorem cuts_noL : ∀ (s : Sm) (n : Int), noLs (s.cuts n) = true
  | .bin o a b, n => noLs_app (noLs_app (cuts_noL a _) (cuts_noL b _)) (by simp [noLs, step_noL (show noLs [.int (n + a.sz - 1), .int (n + a.sz + b.sz - 1)] = true from rfl)])
  | .say a, n => noLs_app (cuts_noL a _) (by simp [noLs, step_noL (show noLs [.int (n + a.sz - 1)] = true from rfl)])
  | .num v, n => by simp [Sm.cuts, noLs, step_noL (show noLs [] = true from rfl)]
  | .nam v, n => by simp [Sm.cuts, noLs, step_noL (show noLs [] = true from rfl)]
  | .ask, n => by simp [Sm.cuts, noLs, step_noL (show noLs [] = true from rfl)]
def Sm.tights : Sm → Int → List D
  | .bin o a b, n => a.tights n ++ b.tights (n + 1) ++ [.tup [.int n, .str o.word, .int n, .int (n + 1)]]
  | .say a, n => a.tights n ++ [.tup [.int n, .str "say", .int n]]
  | .num v, n => [leafStep (.num v) n]
  | .nam v, n => [leafStep (.nam v) n]
  | .ask, n => [leafStep .ask n]
theorem tights_len : ∀ (s : Sm) (n : Int), (s.tights n).length = s.sz
  | .bin o a b, n => by simp only [Sm.tights, Sm.sz, List.length_append, tights_len a, tights_len b, List.length_singleton]; omega
  | .say a, n => by simp only [Sm.tights, Sm.sz, List.length_append, tights_len a, List.length_singleton]; omega
  | .num _, _ => rfl
  | .nam _, _ => rfl
  | .ask, _ => rfl
theorem tights_noL : ∀ (s : Sm) (n : Int), noLs (s.tights n) = true
  | .bin o a b, n => noLs_app (noLs_app (tights_noL a _) (tights_noL b _)) rfl
  | .say a, n => noLs_app (tights_noL a _) rfl
  | .num v, n => rfl
  | .nam v, n => rfl
  | .ask, n => rfl
end DL

/-! A set of the ints of a list: its size, its members in order -/
namespace L2
open PySem PyProof.Rows
def bareSet (w : World) : Obj := { cls := .type "set", dict := none, data := .set #[] 0 (.fresh 0 0 (!w.params.followText "set-order")) }
section
variable {P : Program} {w : World} {A : Around} {E : Value → Shared → Prop} {s : Shared}
def SetGot (w : World) (s : Shared) (ns : List Int) (h' : Heap) (c : Nat) : Prop := SetR w h' s.heap.objs.size (fun j => decide (j ∈ ns)) c ∧ c ≤ ns.length ∧ ∀ b o, s.heap.get? b = some o → h'.get? b = some o
theorem setOfInts {l : Addr} {its : Array Value} (ns : List Int) {Q : Value → Shared → Prop} (hh : A.handled = none) (hl : s.heap.IsList l its) (hi : IntsAre its.toList ns) (hb : ns.length + 1 < scanBound)
    (h : ∀ h' tk c, SetGot w s ns h' c → Q (.ref s.heap.objs.size) { s with heap := h', toks := tk }) : wpAny (model P w) A (call (.type "set") [.ref l]) Q E s := by
  have hz : its.size = ns.length := by rw [← IntsAre.length hi, Array.length_toList]
  obtain ⟨c0, tl0, hm0⟩ := F.called_set.mro
  have g1 := F.called_set.made
  have g2 := F.called_set.sub
  refine wpAny_call (codeAny_of_tree ?_)
  show wpAny _ _ (callAny (.type "set") _) _ _ _
  refine wpAny_pure ⟨Code.quiet_builtin _ (by decide +kernel), codeAny_builtin F.entry_type_call ?_⟩
  rw [Around.under_plain (weight_type_call_type "set" [.ref l] []) rfl]
  have g3 := F.called_set.notType
  have g4 := F.called_set.canCreate
  have g5 := F.typeCall_set_1 (.ref l)
  repeat (any_goals (first | assumption | wp_step))
  refine codeAny_mono (code_set_led1 (.ref l) (E := E) (Q₁ := fun u t => u = .ref s.heap.objs.size ∧ t = { s with heap := s.heap.push (bareSet w) }) ⟨rfl, rfl⟩) fun r t hr => ?_
  cases r with
  | error e => exact hr
  | ok fl =>
    cases fl with
    | ret u =>
      obtain ⟨rfl, rfl⟩ := hr
      have hS : (s.heap.push (bareSet w)).get? s.heap.objs.size = some (bareSet w) := Heap.get?_push_size _ rfl
      have hT : Shared.TypeIs { s with heap := s.heap.push (bareSet w) } (.ref s.heap.objs.size) "set" := ⟨_, hS, rfl⟩
      have g6 := F.called_set.init.lookup
      have g7 := F.called_set.init.bind (.ref s.heap.objs.size)
      repeat (any_goals (first | assumption | wp_step))
      refine codeAny_mono (codeAny_call_builtin (R := wants (fun r t => r = .none ∧ ∃ h' tk c, t = { s with heap := h', toks := tk } ∧ SetGot w s ns h' c) E) F.called_set.init.plain F.entry_set_init (check_set_init_1 hT ?_)) fun r t hr => ?_
      · obtain ⟨⟨oc, od, oda, osl⟩, ho, hc, nl, hd⟩ := hl
        simp only at hc hd
        subst hc
        subst hd
        have ho' : (s.heap.push (bareSet w)).get? l = some { cls := .type "list", dict := od, data := .seq its nl, slots := osl } := Heap.get?_push_of_some _ ho
        have g8 := F.sub_list_set
        have g9 := F.sub_list_frozenset
        have ga : (Value.type "list" == Value.type "dict") = false := by decide
        have hl1 : (s.heap.push (bareSet w)).IsList l its := ⟨_, ho', rfl, nl, rfl⟩
        unfold Builtin.«set.__init__» noKeywords Builtin.Frozenset.updateFrom
        generalize hPI : pyIter = PI
        wp_walk
        subst hPI
        refine wpAny_pyIter_list hl1 ?_
        refine wpAny_bind (wpAny_runValue ?_)
        have hlS : l < s.heap.objs.size := Heap.lt_size ho
        have e1 : (s.heap.push (bareSet w)).objs.size = s.heap.objs.size + 1 := Heap.size_push ..
        have hlI : l ≠ (s.heap.push (bareSet w)).objs.size := by rw [e1]; exact Nat.ne_of_lt (Nat.lt_succ_of_lt hlS)
        have hSf : s.heap.objs.size ∉ [(s.heap.push (bareSet w)).objs.size, l] := by
          rw [e1]
          simp only [List.mem_cons, List.not_mem_nil, or_false, not_or]
          exact ⟨Nat.ne_of_lt (Nat.lt_succ_self _), Nat.ne_of_gt hlS⟩
        have hval : ∀ (i : Nat) (v : Value), its[i]? = some v → ∃ k t, ns[i]? = some k ∧ v = .int k t := fun i v hv => by
          have hi' : i < ns.length := by rw [← hz]; exact (Array.getElem?_eq_some_iff.mp hv).1
          obtain ⟨t, e⟩ := IntsAre.int_at hi i v (by rw [Array.getElem?_toList]; exact hv)
          refine ⟨ns[i], t, List.getElem?_eq_getElem hi', ?_⟩
          rw [e, List.getD_eq_getElem?_getD, List.getElem?_eq_getElem hi']
          all_goals rfl
        refine set_update_ints ((Walks.list (by simp [hh]) _ l hlI its).toS) s.heap.objs.size hSf ns hz hb hval (its.size - 0) 0 _ (by omega) (Nat.zero_le _) ⟨⟨_, Heap.get?_push_size _ rfl, rfl, rfl⟩, hl1.push _⟩ ⟨0, Nat.le_refl 0, setR_new_at (Heap.get?_push_of_some _ hS)⟩ ?_
        intro s' c' hm hc' hS'
        obtain ⟨h', gg, dd, tk', oo⟩ := s'
        have q1 : gg = s.gens := hm.gens
        have q2 : dd = s.drawn := hm.drawn
        have q3 : oo = s.os := hm.os
        subst q1
        subst q2
        subst q3
        show wpAny _ _ _ _ _ _
        refine wpAny_pure ?_
        show wpAny _ _ (ret Value.none) _ _ _
        rw [hz] at hc'
        refine wpAny_pure ⟨rfl, h', tk', c', rfl, hS', hc', fun b o e => ?_⟩
        have hb0 : b < s.heap.objs.size := Heap.lt_size e
        refine hm.heap b o ?_ (Heap.get?_push_of_some _ (Heap.get?_push_of_some _ e))
        rw [e1]
        simp only [List.mem_cons, List.not_mem_nil, or_false, not_or]
        exact ⟨Nat.ne_of_lt hb0, Nat.ne_of_lt (Nat.lt_succ_of_lt hb0)⟩
      · cases r with
        | error e => exact hr
        | ok f2 =>
          cases f2 with
          | ret r =>
            obtain ⟨rfl, h', tk, c', rfl, G⟩ := hr
            repeat (any_goals (first | assumption | wp_step))
            exact h _ _ _ G
          | _ => exact hr.elim
    | _ => exact hr.elim
end
/-- sorted(set(x)), x a list of ints; at most 63 of them unlike -/
def tSortSet (K : PySem.W.Frag) (ta : TE) : TE := fun σ H Q => ta σ H fun x H1 => ∃ (l : Addr) (ns : List Int), x = V.ref l ∧ SqL K H1 l (ns.map V.int) ∧ ns.length ≤ 4000 ∧ (∀ m : List Int, m.Nodup → (∀ k, k ∈ m ↔ k ∈ ns) → m.length < 64) ∧
  ∀ (m : List Int) (p : Addr), m.Pairwise (· < ·) → (∀ k, k ∈ m ↔ k ∈ ns) → H1 p = none → Q (.ref p) (upd H1 p (.lst (m.map V.int)))
section
variable {X : Cx}
theorem pe_sortSet {a : Expr} {ta : TE} {p p2 q pos : Pos} (hc : X.calm = true) (hg : Gl X "sorted") (hm : X.mg "sorted" = none) (hg2 : Gl X "set") (hm2 : X.mg "set" = none) (ha : PE X a ta)
    (na : starEach [a] X.env = (false, eval a X.env) :: starEach [] X.env := by rfl) : PE X (.Call (.Name "sorted" p) [.Call (.Name "set" p2) [a] [] q] [] pos) (tSortSet X.K ta) := by
  refine ⟨fun pins s σ H Q I h => ?_⟩
  refine Call_ (ld_blt I hg hm (u := .builtin "sorted") (by decide +kernel) ?_)
  refine PyProof.Rows.callWith_builtin1 (PyProof.Rows.args_cons ?_ rfl) rfl rfl
  refine Call_ (ld_blt I hg2 hm2 PyProof.Rows.boot_set ?_)
  refine PyProof.Rows.callWith_type1 (PyProof.Rows.args_cons (thn (ha.run pins s σ H _ I h) fun v s1 ⟨x, H1, I1, r1, q1⟩ => PyProof.Rows.args_nil ?_) na) na rfl
  obtain ⟨l, ns, rfl, hq, h1, h2, q1⟩ := q1
  cases r1
  obtain ⟨its, r, pl, hz⟩ := I1.list hq
  refine setOfInts ns (I1.ok.hd hc) pl.isList (by simpa using r.ints) (by unfold scanBound; omega) fun h' tk c G => ?_
  obtain ⟨R, hcn, hk⟩ := G
  refine PyProof.Rows.args_nil ?_
  have h64 : c < 64 := by
    obtain ⟨o, es, ep, t, ho, hex, hd, g, nd, hm, hb, hf, hn, hr, hl⟩ := R
    rw [← hn]
    have := h2 (es.toList.map keyOf) nd (fun k => by rw [← hm]; simp)
    rw [List.length_map, Array.length_toList] at this
    exact this
  have key : ∀ (s2 : Shared) (a : Addr), Inv X pins σ H1 s2 → SetR X.w s2.heap a (fun j => decide (j ∈ ns)) c → wpAny (model X.prog X.w) X.A (call (.builtin "sorted") [.ref a]) (EP X pins σ Q) X.xe s2 := by
    intro s2 a I2 R
    refine sorted_set R (I1.ok.hd hc) h64 fun s' p out c2 m k g o hp hg hi hs hmem hlen => ?_
    have hb : H1 p = none := I2.hok.fresh hp
    have hl2 : (m.map V.int).length ≤ sizeLine := by rw [List.length_map, hlen, sizeLine_eq]; omega
    have J : Inv X pins σ (upd H1 p (.lst (m.map V.int))) { s2 with heap := s'.heap, gens := s'.gens, drawn := s'.drawn, toks := s'.toks } :=
      I2.call (ch := []) (Un.laid k hp hb) (I2.hok.laid k hp ⟨hl2, out.toList, c2, vals_of_ints hi, hg⟩) (by rw [g]; exact I2.bare) (fun _ z => nomatch z)
    have e : s' = { s2 with heap := s'.heap, gens := s'.gens, drawn := s'.drawn, toks := s'.toks } := by
      cases s'
      cases s2
      cases o
      rfl
    rw [e]
    exact ⟨.ref p, _, J, rfl, q1 m p hs (fun k => by rw [hmem]; simp) hb⟩
  exact key _ _ (I1.kept hk) R
end
end L2
namespace L2
open PySem PyProof.Rows
/-- len(set(x)), x a list of ints -/
def tLenSetD (K : PySem.W.Frag) (ta : TE) : TE := fun σ H Q => ta σ H fun x H1 => ∃ (l : Addr) (ns : List Int), x = V.ref l ∧ SqL K H1 l (ns.map V.int) ∧ ns.length ≤ 4000 ∧ ∀ m : List Int, m.Nodup → (∀ k, k ∈ m ↔ k ∈ ns) → Q (.int (m.length : Nat)) H1
section
variable {X : Cx}
theorem pe_lenSetD {a : Expr} {ta : TE} {p p2 q pos : Pos} (hc : X.calm = true) (hg : Gl X "len") (hm : X.mg "len" = none) (hg2 : Gl X "set") (hm2 : X.mg "set" = none) (ha : PE X a ta)
    (na : starEach [a] X.env = (false, eval a X.env) :: starEach [] X.env := by rfl) : PE X (.Call (.Name "len" p) [.Call (.Name "set" p2) [a] [] q] [] pos) (tLenSetD X.K ta) := by
  refine ⟨fun pins s σ H Q I h => ?_⟩
  refine Call_ (ld_blt I hg hm (u := .builtin "len") (by decide +kernel) ?_)
  refine callWith_builtin1 (args_cons ?_ rfl) rfl rfl
  refine Call_ (ld_blt I hg2 hm2 (u := .type "set") (by decide +kernel) ?_)
  refine callWith_type1 (args_cons (thn (ha.run pins s σ H _ I h) fun v s1 ⟨x, H1, I1, r1, q1⟩ => args_nil ?_) na) na rfl
  obtain ⟨l, ns, rfl, hq, h1, q1⟩ := q1
  cases r1
  obtain ⟨its, r, pl, hz⟩ := I1.list hq
  refine setOfInts ns (I1.ok.hd hc) pl.isList (by simpa using r.ints) (by unfold scanBound; omega) fun h' tk c G => ?_
  obtain ⟨R, hcn, hk⟩ := G
  refine args_nil ?_
  have I2 : Inv X pins σ H1 { s1 with heap := h', toks := tk } := I1.kept hk
  obtain ⟨o, es, ep, t, ho, hex, hd, g, nd, hm, hb, hf, hn, hr, hl⟩ := R
  have hlen : (es.toList.map keyOf).length = es.size := by rw [List.length_map, Array.length_toList]
  have q2 := q1 (es.toList.map keyOf) nd (fun k => by rw [← hm]; simp)
  rw [hlen] at q2
  exact call_len_set ho hex hd hf (by unfold scanBound at hb; omega) ⟨.int es.size, H1, I2.tok _, ⟨_, rfl⟩, q2⟩
theorem pe_lenSetDk (K : PySem.W.Frag) {a : Expr} {ta : TE} {p p2 q pos : Pos} (hc : X.calm = true) (hg : Gl X "len") (hm : X.mg "len" = none) (hg2 : Gl X "set") (hm2 : X.mg "set" = none) (ha : PE X a ta) (na : starEach [a] X.env = (false, eval a X.env) :: starEach [] X.env := by rfl) (h : X.K = K := by rfl) : PE X (.Call (.Name "len" p) [.Call (.Name "set" p2) [a] [] q] [] pos) (tLenSetD K ta) := by subst h; exact pe_lenSetD hc hg hm hg2 hm2 ha na
theorem pe_sortSetk (K : PySem.W.Frag) {a : Expr} {ta : TE} {p p2 q pos : Pos} (hc : X.calm = true) (hg : Gl X "sorted") (hm : X.mg "sorted" = none) (hg2 : Gl X "set") (hm2 : X.mg "set" = none) (ha : PE X a ta) (na : starEach [a] X.env = (false, eval a X.env) :: starEach [] X.env := by rfl) (h : X.K = K := by rfl) : PE X (.Call (.Name "sorted" p) [.Call (.Name "set" p2) [a] [] q] [] pos) (tSortSet K ta) := by subst h; exact pe_sortSet hc hg hm hg2 hm2 ha na
end
end L2
namespace DL
open PySem L2
section
variable {P : Pr} {M : Mp} {Q : D → Mp → Prop} {ε : DSt} {ta : TE}
theorem trs_ints {K : PySem.W.Frag} {B : Hp} {M : Mp} {H : Hp} {vs : List V} {xs : List Int} (t : Trs K B M H vs (xs.map D.int)) : vs = xs.map V.int := by
  induction xs generalizing vs with
  | nil => cases t; rfl
  | cons x xs ih =>
    cases t with
    | cons t1 t2 => rw [tr_int t1, ih t2]; rfl
theorem ints_trs {K : PySem.W.Frag} {B : Hp} {M : Mp} {H : Hp} : ∀ xs : List Int, Trs K B M H (xs.map V.int) (xs.map D.int)
  | [] => .nil
  | _ :: xs => .cons (.int _) (ints_trs xs)
theorem de_lenSet (h : DE P ta ε M fun x M1 => ∃ xs : List Int, IsL M1 x (xs.map .int) ∧ xs.length ≤ 4000 ∧ ∀ m : List Int, m.Nodup → (∀ k, k ∈ m ↔ k ∈ xs) → Q (.int (m.length : Nat)) M1) : DE P (tLenSetD P.K ta) ε M Q := fun σ H R a k => by
  refine h σ H _ a fun v d M1 H1 t1 g1 e1 h1 => ?_
  obtain ⟨xs, hx, hl, q⟩ := h1
  obtain ⟨l, vs, rfl, h2, r2⟩ := hx.at t1 g1
  rw [trs_ints r2] at h2
  exact ⟨l, xs, rfl, .inl (.inl h2), hl, fun m hm hk => (k.ext e1).here (.int _) g1 (q m hm hk)⟩
theorem de_sortSet (h : DE P ta ε M fun x M1 => ∃ xs : List Int, IsL M1 x (xs.map .int) ∧ xs.length ≤ 4000 ∧ (∀ m : List Int, m.Nodup → (∀ k, k ∈ m ↔ k ∈ xs) → m.length < 64) ∧ ∀ m : List Int, m.Pairwise (· < ·) → (∀ k, k ∈ m ↔ k ∈ xs) → Q (.lst .own (m.map .int)) M1) : DE P (tSortSet P.K ta) ε M Q := fun σ H R a k => by
  refine h σ H _ a fun v d M1 H1 t1 g1 e1 h1 => ?_
  obtain ⟨xs, hx, hl, h64, q⟩ := h1
  obtain ⟨l, vs, rfl, h2, r2⟩ := hx.at t1 g1
  rw [trs_ints r2] at h2
  refine ⟨l, xs, rfl, .inl (.inl h2), hl, h64, fun m p hm hk hp => ?_⟩
  exact k _ (.lst .own (m.map .int)) M1 _ (.lst (k := .own) (vs := m.map V.int) ⟨g1.free hp, upd_same, g1.base _ hp⟩ (ints_trs m)) (g1.new hp) (e1.trans (ext_new hp)) (q m hm hk)
end
end DL

/-! Steps: which can be, which are told -/
namespace DL
open PySem L2
inductive Stp where
  | num (b v : Int) | nam (b : Int) (c : Nat) | ask (b : Int) | say (b x : Int) | bin (b : Int) (o : Wd) (x y : Int)
def encS : Stp → D
  | .num b v => .tup [.int b, .str "num", .int v]
  | .nam b c => .tup [.int b, .str "name", .str ⟨#[c]⟩]
  | .ask b => .tup [.int b, .str "ask"]
  | .say b x => .tup [.int b, .str "say", .int x]
  | .bin b o x y => .tup [.int b, .str o.word, .int x, .int y]
def Stp.box : Stp → Int
  | .num b _ => b
  | .nam b _ => b
  | .ask b => b
  | .say b _ => b
  | .bin b _ _ _ => b
def Stp.uses : Stp → List Int
  | .say _ x => [x]
  | .bin _ _ x y => [x, y]
  | _ => []
def Stp.fit : Stp → Prop
  | .num _ v => 0 ≤ v ∧ v < 1000
  | .nam _ c => 97 ≤ c ∧ c < 103
  | _ => True
structure Stp.ok (t : Stp) (put : List Int) : Prop where
  lo : 0 ≤ t.box
  hi : t.box < 200
  fit : t.fit
  us : ∀ x ∈ t.uses, 0 ≤ x ∧ x < 200 ∧ x ∈ put
def okSt : List Int → List Stp → Prop
  | _, [] => True
  | put, t :: ts => t.ok put ∧ okSt (t.box :: put) ts
theorem encS_noL (t : Stp) : noL (encS t) = true := by cases t <;> rfl
theorem encs_noL (l : List Stp) : noLs (l.map encS) = true := noLs_of fun d hd => by
  obtain ⟨t, _, rfl⟩ := List.mem_map.mp hd
  exact encS_noL t
def Sm.lst : Sm → Int → List Stp
  | .say a, b => a.lst b ++ [.say b b]
  | .bin o a c, b => if turned a c = true then (c.lst b ++ a.lst (b + 1)) ++ [.bin b o (b + 1) b] else (a.lst b ++ c.lst (b + 1)) ++ [.bin b o b (b + 1)]
  | .num n, b => [.num b n]
  | .nam n, b => [.nam b n]
  | .ask, b => [.ask b]
def Sm.tst : Sm → Int → List Stp
  | .say a, b => a.tst b ++ [.say b b]
  | .bin o a c, b => (a.tst b ++ c.tst (b + 1)) ++ [.bin b o b (b + 1)]
  | .num n, b => [.num b n]
  | .nam n, b => [.nam b n]
  | .ask, b => [.ask b]
def Sm.cst : Sm → Int → List Stp
  | .say a, n => a.cst n ++ [.say (n + a.sz) (n + a.sz - 1)]
  | .bin o a c, n => a.cst n ++ c.cst (n + a.sz) ++ [.bin (n + a.sz + c.sz) o (n + a.sz - 1) (n + a.sz + c.sz - 1)]
  | .num v, b => [.num b v]
  | .nam v, b => [.nam b v]
  | .ask, b => [.ask b]
theorem lst_enc : ∀ (s : Sm) (b : Int), (s.lst b).map encS = s.lsteps b
  | .say a, b => by simp only [Sm.lst, Sm.lsteps, List.map_append, lst_enc a]; rfl
  | .bin o a c, b => by
    unfold Sm.lst Sm.lsteps
    split <;> simp only [List.map_append, lst_enc a, lst_enc c] <;> rfl
  | .num _, _ => rfl
  | .nam _, _ => rfl
  | .ask, _ => rfl
theorem tst_enc : ∀ (s : Sm) (b : Int), (s.tst b).map encS = s.tights b
  | .say a, b => by simp only [Sm.tst, Sm.tights, List.map_append, tst_enc a]; rfl
  | .bin o a c, b => by simp only [Sm.tst, Sm.tights, List.map_append, tst_enc a, tst_enc c]; rfl
  | .num _, _ => rfl
  | .nam _, _ => rfl
  | .ask, _ => rfl
theorem cst_enc : ∀ (s : Sm) (b : Int), (s.cst b).map encS = s.cuts b
  | .say a, b => by simp only [Sm.cst, Sm.cuts, List.map_append, cst_enc a]; rfl
  | .bin o a c, b => by simp only [Sm.cst, Sm.cuts, List.map_append, cst_enc a, cst_enc c]; cases o <;> rfl
  | .num _, _ => rfl
  | .nam _, _ => rfl
  | .ask, _ => rfl
/-! steps that can be, put one behind the other -/
theorem okSt_app {put : List Int} {l m : List Stp} : okSt put (l ++ m) ↔ okSt put l ∧ okSt ((l.map Stp.box).reverse ++ put) m := by
  induction l generalizing put with
  | nil => simp [okSt]
  | cons t l ih =>
    simp only [List.cons_append, okSt, ih, List.map_cons, List.reverse_cons, List.append_assoc, List.nil_append]
    exact ⟨fun ⟨a, b, c⟩ => ⟨⟨a, b⟩, c⟩, fun ⟨⟨a, b⟩, c⟩ => ⟨a, b, c⟩⟩
theorem ok_mono {t : Stp} {put put' : List Int} (h : ∀ x, x ∈ put → x ∈ put') (k : t.ok put) : t.ok put' := ⟨k.lo, k.hi, k.fit, fun x hx => ⟨(k.us x hx).1, (k.us x hx).2.1, h x (k.us x hx).2.2⟩⟩
theorem okSt_mono {put put' : List Int} {l : List Stp} (h : ∀ x, x ∈ put → x ∈ put') (k : okSt put l) : okSt put' l := by
  induction l generalizing put put' with
  | nil => trivial
  | cons t l ih =>
    refine ⟨ok_mono h k.1, ih (fun x hx => ?_) k.2⟩
    rcases List.mem_cons.mp hx with rfl | hx
    · exact List.mem_cons_self
    · exact List.mem_cons_of_mem _ (h x hx)
theorem lst_last : ∀ (s : Sm) (b : Int), b ∈ (s.lst b).map Stp.box
  | .say a, b => by simp [Sm.lst, Stp.box]
  | .bin o a c, b => by unfold Sm.lst; split <;> simp [Stp.box]
  | .num _, _ => by simp [Sm.lst, Stp.box]
  | .nam _, _ => by simp [Sm.lst, Stp.box]
  | .ask, _ => by simp [Sm.lst, Stp.box]
theorem lst_ok : ∀ (s : Sm) (b : Int) (put : List Int), s.ok → 0 ≤ b → b + s.dp ≤ 200 → okSt put (s.lst b)
  | .say a, b, put, h, h0, h1 => by
    simp only [Sm.dp] at h1
    unfold Sm.lst
    refine okSt_app.mpr ⟨lst_ok a b put h h0 (by omega), ⟨h0, by show b < 200; omega, trivial, fun x hx => ?_⟩, trivial⟩
    simp only [Stp.uses, List.mem_singleton] at hx
    subst hx
    exact ⟨h0, by omega, List.mem_append_left _ (List.mem_reverse.mpr (lst_last a x))⟩
  | .bin o a c, b, put, h, h0, h1 => by
    simp only [Sm.dp] at h1
    have := a.dp_pos
    have := c.dp_pos
    have ha := h.1
    have hc := h.2
    unfold Sm.lst
    split
    · refine okSt_app.mpr ⟨okSt_app.mpr ⟨lst_ok c b put hc h0 (by omega), lst_ok a (b + 1) _ ha (by omega) (by omega)⟩, ⟨h0, by show b < 200; omega, trivial, fun x hx => ?_⟩, trivial⟩
      simp only [Stp.uses, List.mem_cons, List.not_mem_nil, or_false] at hx
      refine ⟨by omega, by omega, List.mem_append_left _ (List.mem_reverse.mpr ?_)⟩
      rw [List.map_append]
      rcases hx with rfl | rfl
      · exact List.mem_append_right _ (lst_last a _)
      · exact List.mem_append_left _ (lst_last c _)
    · refine okSt_app.mpr ⟨okSt_app.mpr ⟨lst_ok a b put ha h0 (by omega), lst_ok c (b + 1) _ hc (by omega) (by omega)⟩, ⟨h0, by show b < 200; omega, trivial, fun x hx => ?_⟩, trivial⟩
      simp only [Stp.uses, List.mem_cons, List.not_mem_nil, or_false] at hx
      refine ⟨by omega, by omega, List.mem_append_left _ (List.mem_reverse.mpr ?_)⟩
      rw [List.map_append]
      rcases hx with rfl | rfl
      · exact List.mem_append_left _ (lst_last a _)
      · exact List.mem_append_right _ (lst_last c _)
  | .num v, b, put, h, h0, h1 => by
    simp only [Sm.dp] at h1
    exact ⟨⟨h0, by show b < 200; omega, h, fun x hx => by simp [Stp.uses] at hx⟩, trivial⟩
  | .nam v, b, put, h, h0, h1 => by
    simp only [Sm.dp] at h1
    exact ⟨⟨h0, by show b < 200; omega, h, fun x hx => by simp [Stp.uses] at hx⟩, trivial⟩
  | .ask, b, put, h, h0, h1 => by
    simp only [Sm.dp] at h1
    exact ⟨⟨h0, by show b < 200; omega, trivial, fun x hx => by simp [Stp.uses] at hx⟩, trivial⟩
theorem tst_last : ∀ (s : Sm) (b : Int), b ∈ (s.tst b).map Stp.box
  | .say a, b => by simp [Sm.tst, Stp.box]
  | .bin o a c, b => by simp [Sm.tst, Stp.box]
  | .num _, _ => by simp [Sm.tst, Stp.box]
  | .nam _, _ => by simp [Sm.tst, Stp.box]
  | .ask, _ => by simp [Sm.tst, Stp.box]
theorem tst_ok : ∀ (s : Sm) (b : Int) (put : List Int), s.ok → 0 ≤ b → b + s.dp ≤ 200 → okSt put (s.tst b)
  | .say a, b, put, h, h0, h1 => by
    simp only [Sm.dp] at h1
    unfold Sm.tst
    refine okSt_app.mpr ⟨tst_ok a b put h h0 (by omega), ⟨h0, by show b < 200; omega, trivial, fun x hx => ?_⟩, trivial⟩
    simp only [Stp.uses, List.mem_singleton] at hx
    subst hx
    exact ⟨h0, by omega, List.mem_append_left _ (List.mem_reverse.mpr (tst_last a x))⟩
  | .bin o a c, b, put, h, h0, h1 => by
    simp only [Sm.dp] at h1
    have := a.dp_pos
    have := c.dp_pos
    have ha := h.1
    have hc := h.2
    unfold Sm.tst
    refine okSt_app.mpr ⟨okSt_app.mpr ⟨tst_ok a b put ha h0 (by omega), tst_ok c (b + 1) _ hc (by omega) (by omega)⟩, ⟨h0, by show b < 200; omega, trivial, fun x hx => ?_⟩, trivial⟩
    simp only [Stp.uses, List.mem_cons, List.not_mem_nil, or_false] at hx
    refine ⟨by omega, by omega, List.mem_append_left _ (List.mem_reverse.mpr ?_)⟩
    rw [List.map_append]
    rcases hx with rfl | rfl
    · exact List.mem_append_left _ (tst_last a _)
    · exact List.mem_append_right _ (tst_last c _)
  | .num v, b, put, h, h0, h1 => by
    simp only [Sm.dp] at h1
    exact ⟨⟨h0, by show b < 200; omega, h, fun x hx => by simp [Stp.uses] at hx⟩, trivial⟩
  | .nam v, b, put, h, h0, h1 => by
    simp only [Sm.dp] at h1
    exact ⟨⟨h0, by show b < 200; omega, h, fun x hx => by simp [Stp.uses] at hx⟩, trivial⟩
  | .ask, b, put, h, h0, h1 => by
    simp only [Sm.dp] at h1
    exact ⟨⟨h0, by show b < 200; omega, trivial, fun x hx => by simp [Stp.uses] at hx⟩, trivial⟩
theorem cst_last : ∀ (s : Sm) (n : Int), n + s.sz - 1 ∈ (s.cst n).map Stp.box
  | .say a, n => by simp only [Sm.cst, Sm.sz, List.map_append, List.mem_append]; right; simp [Stp.box]; omega
  | .bin o a c, n => by simp only [Sm.cst, Sm.sz, List.map_append, List.mem_append]; right; simp [Stp.box]; omega
  | .num _, _ => by simp [Sm.cst, Stp.box, Sm.sz]
  | .nam _, _ => by simp [Sm.cst, Stp.box, Sm.sz]
  | .ask, _ => by simp [Sm.cst, Stp.box, Sm.sz]
theorem cst_ok : ∀ (s : Sm) (n : Int) (put : List Int), s.ok → 0 ≤ n → n + s.sz ≤ 200 → okSt put (s.cst n)
  | .say a, n, put, h, h0, h1 => by
    simp only [Sm.sz] at h1
    have := a.sz_pos
    unfold Sm.cst
    refine okSt_app.mpr ⟨cst_ok a n put h h0 (by omega), ⟨by show 0 ≤ n + (a.sz : Int); omega, by show n + (a.sz : Int) < 200; omega, trivial, fun x hx => ?_⟩, trivial⟩
    simp only [Stp.uses, List.mem_singleton] at hx
    subst hx
    exact ⟨by omega, by omega, List.mem_append_left _ (List.mem_reverse.mpr (cst_last a n))⟩
  | .bin o a c, n, put, h, h0, h1 => by
    simp only [Sm.sz] at h1
    have := a.sz_pos
    have := c.sz_pos
    have ha := h.1
    have hc := h.2
    unfold Sm.cst
    refine okSt_app.mpr ⟨okSt_app.mpr ⟨cst_ok a n put ha h0 (by omega), cst_ok c (n + a.sz) _ hc (by omega) (by omega)⟩, ⟨by show 0 ≤ n + (a.sz : Int) + (c.sz : Int); omega, by show n + (a.sz : Int) + (c.sz : Int) < 200; omega, trivial, fun x hx => ?_⟩, trivial⟩
    simp only [Stp.uses, List.mem_cons, List.not_mem_nil, or_false] at hx
    refine ⟨by omega, by omega, List.mem_append_left _ (List.mem_reverse.mpr ?_)⟩
    rw [List.map_append]
    rcases hx with rfl | rfl
    · exact List.mem_append_left _ (cst_last a _)
    · exact List.mem_append_right _ (cst_last c _)
  | .num v, b, put, h, h0, h1 => by
    simp only [Sm.sz] at h1
    exact ⟨⟨h0, by show b < 200; omega, h, fun x hx => by simp [Stp.uses] at hx⟩, trivial⟩
  | .nam v, b, put, h, h0, h1 => by
    simp only [Sm.sz] at h1
    exact ⟨⟨h0, by show b < 200; omega, h, fun x hx => by simp [Stp.uses] at hx⟩, trivial⟩
  | .ask, b, put, h, h0, h1 => by
    simp only [Sm.sz] at h1
    exact ⟨⟨h0, by show b < 200; omega, trivial, fun x hx => by simp [Stp.uses] at hx⟩, trivial⟩
section
variable {κ : Type} [DecidableEq κ]
theorem valD_cons {a j : κ} {d : D} {kvs : List (κ × D)} : valD ((a, d) :: kvs) j = if a = j then some d else valD kvs j := by
  unfold valD
  rw [List.find?_cons]
  by_cases h : a = j
  · rw [if_pos h]
    simp [h]
  · rw [if_neg h]
    simp [h]
theorem valD_map {k j : κ} {v : D} : ∀ kvs : List (κ × D), valD (kvs.map fun kv => if kv.1 = k then (kv.1, v) else kv) j = if k = j ∧ (valD kvs k).isSome = true then some v else valD kvs j
  | [] => by simp [valD]
  | (a, d) :: kvs => by
    rw [List.map_cons]
    have ih := valD_map (k := k) (j := j) (v := v) kvs
    by_cases h : a = k
    · subst h
      simp only [if_true]
      rw [valD_cons, valD_cons, valD_cons]
      by_cases h2 : a = j
      · simp [h2]
      · simp [h2, ih]
    · simp only [if_neg h]
      rw [valD_cons, valD_cons, valD_cons, if_neg h, ih]
      by_cases h2 : a = j
      · subst h2
        simp [Ne.symm h]
      · simp [h2]
theorem valD_app {kvs l : List (κ × D)} {j : κ} : valD (kvs ++ l) j = (valD kvs j).or (valD l j) := by
  induction kvs with
  | nil => simp [valD]
  | cons a kvs ih =>
    obtain ⟨a, d⟩ := a
    rw [List.cons_append, valD_cons, valD_cons, ih]
    split <;> rfl
theorem valD_some {kvs : List (κ × D)} {k : κ} : (valD kvs k).isSome = kvs.any fun kv => decide (kv.1 = k) := by
  induction kvs with
  | nil => rfl
  | cons a kvs ih =>
    obtain ⟨a, d⟩ := a
    rw [valD_cons, List.any_cons, ← ih]
    by_cases h : a = k <;> simp [h]
theorem valD_put {kvs : List (κ × D)} {k j : κ} {v : D} : valD (putD kvs k v) j = if k = j then some v else valD kvs j := by
  unfold putD
  rw [← valD_some]
  by_cases hs : (valD kvs k).isSome = true
  · rw [if_pos hs, valD_map]
    simp [hs]
  · rw [if_neg hs, valD_app, valD_cons]
    by_cases h : k = j
    · subst h
      rw [if_pos rfl, if_pos rfl]
      cases e : valD kvs k with
      | none => rfl
      | some x => rw [e] at hs; exact absurd rfl hs
    · rw [if_neg h, if_neg h]
      cases valD kvs j <;> rfl
theorem putD_len {kvs : List (κ × D)} {k : κ} {v : D} : (putD kvs k v).length ≤ kvs.length + 1 := by
  unfold putD
  split <;> simp
end
theorem sz_num : sizeOf' "num" = some 2 := by decide +kernel
theorem sz_name : sizeOf' "name" = some 2 := by decide +kernel
theorem sz_say : sizeOf' "say" = some 2 := by decide +kernel
theorem sz_ask : sizeOf' "ask" = some 1 := by decide +kernel
theorem sz_wd (o : Wd) : sizeOf' o.word = some 3 := by cases o <;> decide +kernel
section
variable {P : Pr} {M : Mp} {ε : DSt} {al : TA} {QI : List D → (Mp → Prop) → Mp → Prop}
theorem itok_enum {a : Addr} {xs : List D} {k : LK} {H : Hp} (t : Tr P.K P.B M H (.ref a) (.lst k xs)) : ItOk P (Ite P.K a) (pairsFrom xs) (fun _ => True) M H := by
  have key : ∀ M' H', Ext M H M' H' → ∃ vs, SqL P.K H' a vs ∧ Trs P.K P.B M' H' vs xs := fun M' H' e => by
    cases t.ext e with
    | lst h r => exact ⟨_, h.sq, r⟩
  refine ⟨fun i M' H' g e _ hi => ?_, fun i M' H' g e _ y H'' h hi => ?_, fun M' H' g e _ => ?_⟩
  · obtain ⟨vs, h1, r⟩ := key _ _ e
    rw [pairsFrom_len] at hi
    exact ⟨vs, vs[i]'(by rw [r.length]; exact hi), h1, List.getElem?_eq_getElem _⟩
  · obtain ⟨T, x, rfl, hT, rfl, h⟩ := h
    obtain ⟨vs, h1, r⟩ := key _ _ e
    obtain ⟨d, h2, h3⟩ := r.getV (h vs h1)
    rw [pairsFrom_len] at hi
    refine ⟨.tup [.int (i : Nat), d], ?_, .tup (.inl ⟨upd_same, g.free hT⟩) (.cons (.int _) (.cons (h3.ext (ext_new hT)) .nil)), g.new hT, ext_new hT⟩
    unfold pairsFrom
    rw [List.getElem?_map, List.getElem?_range hi, Option.map_some, List.getD_eq_getElem?_getD, h2]
    rfl
  · obtain ⟨vs, h1, r⟩ := key _ _ e
    exact ⟨vs, h1, by rw [pairsFrom_len, r.length]; exact Nat.le_refl _⟩
theorem di_enum (h : DA P al ε M fun ds M1 => ∃ k xs, ds = [.lst k xs] ∧ QI (pairsFrom xs) (fun _ => True) M1) : DI P (iEnum P.K al) ε M QI := fun σ H R a k => by
  refine h σ H _ a fun vs ds M1 H1 t1 g1 e1 h1 => ?_
  obtain ⟨kk, xs, rfl, q⟩ := h1
  obtain ⟨v, rfl, r⟩ := trs1 t1
  have r' := r
  cases r with
  | lst h1 r1 => exact ⟨_, _, rfl, h1.sq, k _ _ _ M1 H1 g1 e1 (itok_enum r') q⟩
theorem pairs_get {xs : List D} {i : Nat} {d : D} (h : (pairsFrom xs)[i]? = some d) : ∃ x, xs[i]? = some x ∧ d = .tup [.int (i : Nat), x] := by
  have hi := (List.getElem?_eq_some_iff.mp h).1
  rw [pairsFrom_len] at hi
  refine ⟨xs[i], List.getElem?_eq_getElem hi, ?_⟩
  unfold pairsFrom at h
  rw [List.getElem?_map, List.getElem?_range hi, Option.map_some, List.getD_eq_getElem?_getD, List.getElem?_eq_getElem hi] at h
  exact (Option.some.inj h).symm
theorem okSt_get : ∀ {l : List Stp} {put : List Int} {i : Nat} {t : Stp}, okSt put l → l[i]? = some t → t.ok (((l.take i).map Stp.box).reverse ++ put)
  | [], _, _, _, _, h => by cases h
  | a :: l, put, 0, t, k, h => by
    simp only [List.getElem?_cons_zero, Option.some.injEq] at h
    subst h
    exact k.1
  | a :: l, put, i + 1, t, k, h => by
    rw [List.getElem?_cons_succ] at h
    have ih := okSt_get k.2 h
    simpa using ih
end
theorem putD_noL {kvs : List (Key × D)} {k : Key} {v : D} (hv : noL v = true) (h : noLs (kvs.map (·.2)) = true) : noLs ((putD kvs k v).map (·.2)) = true := by
  unfold putD
  split
  · refine noLs_of fun d hd => ?_
    rw [List.map_map] at hd
    obtain ⟨kv, hm, rfl⟩ := List.mem_map.mp hd
    simp only [Function.comp_apply]
    split
    · exact hv
    · exact noLs_mem h (List.mem_map.mpr ⟨kv, hm, rfl⟩)
  · rw [List.map_append]
    exact noLs_app h (by simp [noLs, hv])
end DL

/-! How many are held at once, how many boxes -/
namespace DL
open PySem L2
def Sm.tw : Sm → Int
  | .bin _ a b => mx a.tw (1 + b.tw)
  | .say a => a.tw
  | .num _ => 1
  | .nam _ => 1
  | .ask => 1
theorem tw_le : ∀ s : Sm, 1 ≤ s.tw ∧ s.tw ≤ s.dp ∧ s.want ≤ s.tw
  | .ask => by simp [Sm.tw, Sm.dp, Sm.want]
  | .say a => by have := tw_le a; simp only [Sm.tw, Sm.dp, Sm.want]; omega
  | .num n => by simp [Sm.tw, Sm.dp, Sm.want]
  | .nam n => by simp [Sm.tw, Sm.dp, Sm.want]
  | .bin o a b => by
    have h1 := tw_le a
    have h2 := tw_le b
    simp only [Sm.tw, Sm.dp, Sm.want, mx, mn]
    split <;> split <;> (try split) <;> (try split) <;> (try split) <;> omega
/-- the boxes of the steps of least: as many as it wants, from the first on -/
theorem lst_boxes : ∀ (s : Sm) (b x : Int), x ∈ (s.lst b).map Stp.box ↔ b ≤ x ∧ x < b + s.want
  | .ask, b, x => by simp only [Sm.lst, List.map_cons, List.map_nil, List.mem_singleton, Stp.box, Sm.want]; omega
  | .num n, b, x => by simp only [Sm.lst, List.map_cons, List.map_nil, List.mem_singleton, Stp.box, Sm.want]; omega
  | .nam n, b, x => by simp only [Sm.lst, List.map_cons, List.map_nil, List.mem_singleton, Stp.box, Sm.want]; omega
  | .say a, b, x => by
    have h := lst_boxes a b x
    have k := want_le a
    simp only [Sm.lst, List.map_append, List.mem_append, h, List.map_cons, List.map_nil, List.mem_singleton, Stp.box, Sm.want]
    omega
  | .bin o a c, b, x => by
    have h1 := lst_boxes a b x
    have h2 := lst_boxes c b x
    have h3 := lst_boxes a (b + 1) x
    have h4 := lst_boxes c (b + 1) x
    have k1 := want_le a
    have k2 := want_le c
    have e : (Sm.bin o a c).want = if turned a c = true then mx c.want (1 + a.want) else mx a.want (1 + c.want) := by
      have e0 : (Sm.bin o a c).want = if (a.eff && c.eff) = true then mx a.want (1 + c.want) else mn (mx a.want (1 + c.want)) (mx c.want (1 + a.want)) := rfl
      rw [e0]
      unfold turned
      cases (a.eff && c.eff) with
      | true => rfl
      | false =>
        by_cases h : mx c.want (1 + a.want) < mx a.want (1 + c.want)
        · rw [if_neg Bool.false_ne_true]
          unfold mn
          rw [if_pos h]
          simp [h]
        · rw [if_neg Bool.false_ne_true]
          unfold mn
          rw [if_neg h]
          simp [h]
    rw [e]
    unfold Sm.lst
    split
    · simp only [List.map_append, List.mem_append, h2, h3, List.map_cons, List.map_nil, List.mem_singleton, Stp.box, mx]
      split <;> omega
    · simp only [List.map_append, List.mem_append, h1, h4, List.map_cons, List.map_nil, List.mem_singleton, Stp.box, mx]
      split <;> omega
theorem tst_boxes : ∀ (s : Sm) (b x : Int), x ∈ (s.tst b).map Stp.box ↔ b ≤ x ∧ x < b + s.tw
  | .ask, b, x => by simp only [Sm.tst, List.map_cons, List.map_nil, List.mem_singleton, Stp.box, Sm.tw]; omega
  | .num n, b, x => by simp only [Sm.tst, List.map_cons, List.map_nil, List.mem_singleton, Stp.box, Sm.tw]; omega
  | .nam n, b, x => by simp only [Sm.tst, List.map_cons, List.map_nil, List.mem_singleton, Stp.box, Sm.tw]; omega
  | .say a, b, x => by
    have h := tst_boxes a b x
    have k := tw_le a
    simp only [Sm.tst, List.map_append, List.mem_append, h, List.map_cons, List.map_nil, List.mem_singleton, Stp.box, Sm.tw]
    omega
  | .bin o a c, b, x => by
    have h1 := tst_boxes a b x
    have h4 := tst_boxes c (b + 1) x
    have k1 := tw_le a
    have k2 := tw_le c
    simp only [Sm.tst, List.map_append, List.mem_append, h1, h4, List.map_cons, List.map_nil, List.mem_singleton, Stp.box, Sm.tw, mx]
    split <;> omega
theorem cst_boxes : ∀ (s : Sm) (b x : Int), x ∈ (s.cst b).map Stp.box ↔ b ≤ x ∧ x < b + s.sz
  | .ask, b, x => by simp only [Sm.cst, List.map_cons, List.map_nil, List.mem_singleton, Stp.box, Sm.sz]; omega
  | .num n, b, x => by simp only [Sm.cst, List.map_cons, List.map_nil, List.mem_singleton, Stp.box, Sm.sz]; omega
  | .nam n, b, x => by simp only [Sm.cst, List.map_cons, List.map_nil, List.mem_singleton, Stp.box, Sm.sz]; omega
  | .say a, b, x => by
    have h := cst_boxes a b x
    simp only [Sm.cst, List.map_append, List.mem_append, h, List.map_cons, List.map_nil, List.mem_singleton, Stp.box, Sm.sz]
    omega
  | .bin o a c, b, x => by
    have h1 := cst_boxes a b x
    have h4 := cst_boxes c (b + a.sz) x
    simp only [Sm.cst, List.map_append, List.mem_append, h1, h4, List.map_cons, List.map_nil, List.mem_singleton, Stp.box, Sm.sz]
    omega
theorem count_rng {m : List Int} {b n : Int} (hn : 0 ≤ n) (h1 : m.Nodup) (h2 : ∀ k, k ∈ m ↔ b ≤ k ∧ k < b + n) : (m.length : Int) = n := by
  have e : m.Perm ((List.range n.toNat).map fun i : Nat => b + (i : Int)) := by
    rw [List.perm_ext_iff_of_nodup h1]
    · intro k
      rw [h2, List.mem_map]
      constructor
      · rintro ⟨h3, h4⟩
        exact ⟨(k - b).toNat, List.mem_range.mpr (by omega), by omega⟩
      · rintro ⟨i, hi, rfl⟩
        have := List.mem_range.mp hi
        omega
    · unfold List.Nodup
      rw [List.pairwise_map]
      exact List.Pairwise.imp (fun h e => h (by omega)) (List.nodup_range (n := n.toNat))
  rw [e.length_eq, List.length_map, List.length_range]
  omega
theorem ord_ge1 {o : Wd} {a c : Sm} {x y : Int} (h1 : a.want ≤ x) (h2 : c.want ≤ y) : (Sm.bin o a c).want ≤ mx x (1 + y) := by
  have e : (Sm.bin o a c).want = if (a.eff && c.eff) = true then mx a.want (1 + c.want) else mn (mx a.want (1 + c.want)) (mx c.want (1 + a.want)) := rfl
  rw [e]
  unfold mn mx
  split <;> split <;> (try split) <;> (try split) <;> (try split) <;> omega
theorem ord_ge2 {o : Wd} {a c : Sm} {x y : Int} (hn : (a.eff && c.eff) = false) (h1 : a.want ≤ x) (h2 : c.want ≤ y) : (Sm.bin o a c).want ≤ mx y (1 + x) := by
  have e : (Sm.bin o a c).want = if (a.eff && c.eff) = true then mx a.want (1 + c.want) else mn (mx a.want (1 + c.want)) (mx c.want (1 + a.want)) := rfl
  rw [e, hn, if_neg Bool.false_ne_true]
  unfold mn mx
  split <;> split <;> (try split) <;> (try split) <;> (try split) <;> omega
theorem ord_eq {o : Wd} {a c : Sm} : (Sm.bin o a c).want = mx a.want (1 + c.want) ∨ ((a.eff && c.eff) = false ∧ (Sm.bin o a c).want = mx c.want (1 + a.want)) := by
  have e : (Sm.bin o a c).want = if (a.eff && c.eff) = true then mx a.want (1 + c.want) else mn (mx a.want (1 + c.want)) (mx c.want (1 + a.want)) := rfl
  rw [e]
  cases h : a.eff && c.eff with
  | true => exact .inl rfl
  | false =>
    rw [if_neg Bool.false_ne_true]
    unfold mn
    split
    · exact .inr ⟨rfl, rfl⟩
    · exact .inl rfl
theorem mx_le {x y k : Int} (h1 : x ≤ k) (h2 : y ≤ k) : mx x y ≤ k := by unfold mx; split <;> omega
/-- numbers in order, all between: the first is the least -/
structure Ord (s : Sm) (m : List Int) : Prop where
  up : m.Pairwise (· < ·)
  has : s.want ∈ m
  btw : ∀ x ∈ m, s.want ≤ x ∧ x ≤ s.dp
theorem Ord.hd {s : Sm} {m : List Int} (h : Ord s m) : ∃ r, m = s.want :: r := by
  cases m with
  | nil => exact absurd h.has (by simp)
  | cons x r =>
    have hx := h.btw x (by simp)
    rcases List.mem_cons.mp h.has with e | hm
    · exact ⟨r, by rw [e]⟩
    · have := (List.pairwise_cons.mp h.up).1 _ hm
      omega
theorem up_len0 {n : Int} : ∀ (m : List Int) (lo : Int), m.Pairwise (· < ·) → (∀ x ∈ m, lo ≤ x ∧ x ≤ n) → (m.length : Int) ≤ n - lo + 1 ∨ m = []
  | [], _, _, _ => .inr rfl
  | x :: r, lo, h, b => by
    have hx := b x (by simp)
    obtain ⟨h1, h2⟩ := List.pairwise_cons.mp h
    rcases up_len0 r (x + 1) h2 (fun y hy => ⟨by have := h1 y hy; omega, (b y (by simp [hy])).2⟩) with h3 | rfl
    · left
      rw [List.length_cons]
      omega
    · left
      simp
      omega
theorem up_len {m : List Int} {n : Nat} (h : m.Pairwise (· < ·)) (b : ∀ x ∈ m, 1 ≤ x ∧ x ≤ n) : m.length ≤ n := by
  rcases up_len0 m 1 h b with h | rfl
  · omega
  · simp
theorem Ord.len {s : Sm} {m : List Int} (h : Ord s m) : m.length ≤ s.dp := up_len h.up fun x hx => by
  have := h.btw x hx
  have := (want_le s).1
  omega
theorem nodup_len {m : List Int} {n : Nat} (h : m.Nodup) (b : ∀ x ∈ m, 1 ≤ x ∧ x ≤ n) : m.length ≤ n := by
  have e : m.Perm (((List.range n).map fun i : Nat => ((i : Int) + 1)).filter fun x => decide (x ∈ m)) := by
    rw [List.perm_ext_iff_of_nodup h]
    · intro k
      rw [List.mem_filter, List.mem_map]
      constructor
      · intro hk
        have := b k hk
        exact ⟨⟨(k - 1).toNat, List.mem_range.mpr (by omega), by omega⟩, by simpa using hk⟩
      · rintro ⟨_, hk⟩
        simpa using hk
    · refine List.Pairwise.filter _ ?_
      rw [List.pairwise_map]
      exact List.Pairwise.imp (fun h e => h (by omega)) (List.nodup_range (n := n))
  rw [e.length_eq]
  exact Nat.le_trans (List.length_filter_le _ _) (by simp)
end DL

/-! How many are held at once -/
namespace DL
open PySem L2
abbrev Tb := Int → Option Int
def putT (L : Tb) (j k : Int) : Tb := fun x => if j = x then some k else L x
def useT (k : Int) (W : Tb) : List Int → Tb → Tb
  | [], L => L
  | x :: xs, L => useT k W xs (putT L ((W x).getD 0) k)
def hrun : Int → List Stp → Tb × Tb → Tb × Tb
  | _, [], S => S
  | k, t :: ts, S => hrun (k + 1) ts (useT k S.2 t.uses S.1, putT S.2 t.box k)
theorem hrun_app : ∀ (l m : List Stp) (k : Int) (S : Tb × Tb), hrun k (l ++ m) S = hrun (k + l.length) m (hrun k l S)
  | [], m, k, S => by simp [hrun]
  | t :: l, m, k, S => by
    rw [List.cons_append, hrun, hrun, hrun_app l m]
    rw [show k + 1 + (l.length : Int) = k + ((t :: l).length : Nat) by rw [List.length_cons]; omega]
/-- the order of a sum's steps -/
inductive Ot where
  | leaf | un (a : Ot) | bi (a b : Ot)
def Ot.held : Ot → Int
  | .leaf => 1
  | .un a => a.held
  | .bi a b => mx a.held (1 + b.held)
inductive Sq' : Ot → Int → List Stp → Prop
  | leaf {t : Stp} {b : Int} (hb : t.box = b) (hu : t.uses = []) : Sq' .leaf b [t]
  | un {a : Ot} {t : Stp} {b : Int} {l : List Stp} (h : Sq' a b l) (hb : t.box = b) (hu : t.uses = [b]) : Sq' (.un a) b (l ++ [t])
  | bi {x y : Ot} {t : Stp} {b : Int} {l m : List Stp} (h : Sq' x b l) (k : Sq' y (b + 1) m) (hb : t.box = b) (hu : t.uses = [b, b + 1] ∨ t.uses = [b + 1, b]) : Sq' (.bi x y) b (l ++ m ++ [t])
def Sm.lot : Sm → Ot
  | .say a => .un a.lot
  | .bin _ a c => if turned a c = true then .bi c.lot a.lot else .bi a.lot c.lot
  | _ => .leaf
def Sm.tot : Sm → Ot
  | .say a => .un a.tot
  | .bin _ a c => .bi a.tot c.tot
  | _ => .leaf
theorem lst_sq : ∀ (s : Sm) (b : Int), Sq' s.lot b (s.lst b)
  | .num _, _ => .leaf rfl rfl
  | .nam _, _ => .leaf rfl rfl
  | .ask, _ => .leaf rfl rfl
  | .say a, b => .un (lst_sq a b) rfl rfl
  | .bin o a c, b => by
    unfold Sm.lst Sm.lot
    split
    · exact .bi (lst_sq c b) (lst_sq a (b + 1)) rfl (.inr rfl)
    · exact .bi (lst_sq a b) (lst_sq c (b + 1)) rfl (.inl rfl)
theorem tst_sq : ∀ (s : Sm) (b : Int), Sq' s.tot b (s.tst b)
  | .num _, _ => .leaf rfl rfl
  | .nam _, _ => .leaf rfl rfl
  | .ask, _ => .leaf rfl rfl
  | .say a, b => .un (tst_sq a b) rfl rfl
  | .bin o a c, b => .bi (tst_sq a b) (tst_sq c (b + 1)) rfl (.inl rfl)
theorem tot_held : ∀ s : Sm, s.tot.held = s.tw
  | .num _ => rfl
  | .nam _ => rfl
  | .ask => rfl
  | .say a => tot_held a
  | .bin o a c => by simp only [Sm.tot, Ot.held, Sm.tw, tot_held a, tot_held c]
/-! the counting -/
def liveT (L : Tb) (k j : Int) : Bool := decide ((L j).getD (-1) > k)
def cntT (L : Tb) (lo k : Int) : Nat → Nat
  | 0 => 0
  | n + 1 => cntT L lo k n + if liveT L k (lo + n) = true then 1 else 0
theorem cntT_add {L : Tb} {lo k : Int} (a : Nat) : ∀ b : Nat, cntT L lo k (a + b) = cntT L lo k a + cntT L (lo + a) k b
  | 0 => rfl
  | b + 1 => by
    show cntT L lo k (a + b) + (if liveT L k (lo + ((a + b : Nat) : Int)) = true then 1 else 0) = cntT L lo k a + (cntT L (lo + a) k b + if liveT L k (lo + a + (b : Int)) = true then 1 else 0)
    rw [cntT_add a b, show lo + ((a + b : Nat) : Int) = lo + a + (b : Int) by omega]
    omega
theorem cntT_none {L : Tb} {lo k : Int} : ∀ n : Nat, (∀ j : Nat, j < n → liveT L k (lo + j) = false) → cntT L lo k n = 0
  | 0, _ => rfl
  | n + 1, h => by
    show cntT L lo k n + _ = 0
    rw [cntT_none n fun j hj => h j (by omega), h n (by omega)]
    rfl
theorem sq_pos {T : Ot} {b : Int} {l : List Stp} (h : Sq' T b l) : 1 ≤ l.length := by cases h <;> simp <;> omega
theorem held_pos : ∀ T : Ot, 1 ≤ T.held
  | .leaf => Int.le_refl 1
  | .un a => held_pos a
  | .bi a b => by
    have := held_pos a
    simp only [Ot.held, mx]
    split <;> omega
/-- what the first loop leaves behind one part -/
structure Part (T : Ot) (b i : Int) (n : Nat) (L W : Tb) (L' W' : Tb) : Prop where
  wb : W' b = some (i + n - 1)
  wlo : ∀ x, x < b → W' x = W x
  lo : ∀ j, j < i → L' j = L j
  hi : ∀ j, i + n - 1 ≤ j → L' j = L j
  us : ∀ j, i ≤ j → j < i + n - 1 → ∃ u, L' j = some u ∧ u ≤ i + n - 1
  le : ∀ Z : Tb, (∀ j, i ≤ j → j < i + n - 1 → Z j = L' j) → i + n ≤ (Z (i + n - 1)).getD (-1) → ∀ d : Nat, d < n → (cntT Z i (i + d) (d + 1) : Int) ≤ T.held
  eq : ∀ Z : Tb, (∀ j, i ≤ j → j < i + n - 1 → Z j = L' j) → i + n ≤ (Z (i + n - 1)).getD (-1) → ∃ d : Nat, d < n ∧ (cntT Z i (i + d) (d + 1) : Int) = T.held
theorem putT_ne {L : Tb} {j k x : Int} (h : j ≠ x) : putT L j k x = L x := if_neg h
theorem putT_eq {L : Tb} {j k : Int} : putT L j k j = some k := if_pos rfl
theorem part_leaf {b i : Int} {L W : Tb} : Part .leaf b i 1 L W L (putT W b i) where
  wb := by rw [putT_eq]; congr 1; omega
  wlo := fun x hx => putT_ne (by omega)
  lo := fun _ _ => rfl
  hi := fun _ _ => rfl
  us := fun j h1 h2 => by omega
  le := fun Z h1 h2 d hd => by
    have : d = 0 := by omega
    subst this
    simp only [cntT, Ot.held]
    split <;> simp
  eq := fun Z h1 h2 => ⟨0, by omega, by
    have e : i + ((1 : Nat) : Int) - 1 = i := by omega
    rw [e] at h2
    have : liveT Z (i + ((0 : Nat) : Int)) (i + ((0 : Nat) : Int)) = true := by
      unfold liveT
      rw [show i + ((0 : Nat) : Int) = i by omega]
      exact decide_eq_true (by omega)
    simp only [cntT, Ot.held, this]
    rfl⟩
theorem cntT_congr {Z Z' : Tb} {lo k : Int} : ∀ n : Nat, (∀ j : Nat, j < n → Z (lo + j) = Z' (lo + j)) → cntT Z lo k n = cntT Z' lo k n
  | 0, _ => rfl
  | n + 1, h => by
    have e : liveT Z k (lo + n) = liveT Z' k (lo + n) := by unfold liveT; rw [h n (by omega)]
    simp only [cntT]
    rw [cntT_congr n fun j hj => h j (by omega), e]
/-- behind a part but its last, none is held -/
theorem part_dead {T : Ot} {b i : Int} {n : Nat} {L W L' W' Z : Tb} (p : Part T b i n L W L' W') (hn : 1 ≤ n) (h : ∀ j, i ≤ j → j < i + n - 1 → Z j = L' j) {k : Int} (hk : i + n - 1 ≤ k) : cntT Z i k (n - 1) = 0 :=
  cntT_none _ fun j hj => by
    obtain ⟨u, hu, hl⟩ := p.us (i + j) (by omega) (by omega)
    unfold liveT
    rw [h (i + j) (by omega) (by omega), hu]
    exact decide_eq_false (by show ¬ u > k; omega)
theorem part_un {a : Ot} {b i : Int} {n : Nat} {L W L1 W1 : Tb} (hn : 1 ≤ n) (p : Part a b i n L W L1 W1) : Part (.un a) b i (n + 1) L W (putT L1 ((W1 b).getD 0) (i + n)) (putT W1 b (i + n)) := by
  have ew : (W1 b).getD 0 = i + n - 1 := by rw [p.wb]; rfl
  rw [ew]
  refine ⟨?_, fun x hx => ?_, fun j hj => ?_, fun j hj => ?_, fun j h1 h2 => ?_, fun Z h1 h2 d hd => ?_, fun Z h1 h2 => ?_⟩
  · rw [putT_eq]; congr 1; omega
  · rw [putT_ne (by omega)]; exact p.wlo x hx
  · rw [putT_ne (by omega)]; exact p.lo j hj
  · rw [putT_ne (by omega)]; exact p.hi j (by omega)
  · by_cases e : i + n - 1 = j
    · rw [e, putT_eq]
      exact ⟨_, rfl, by omega⟩
    · rw [putT_ne e]
      obtain ⟨u, hu, hl⟩ := p.us j h1 (by omega)
      exact ⟨u, hu, by omega⟩
  · have g1 : ∀ j, i ≤ j → j < i + n - 1 → Z j = L1 j := fun j k1 k2 => by rw [h1 j k1 (by omega), putT_ne (by omega)]
    have g2 : Z (i + n - 1) = some (i + n) := by rw [h1 (i + n - 1) (by omega) (by omega), putT_eq]
    by_cases hd' : d < n
    · exact p.le Z g1 (by rw [g2]; exact Int.le_refl _) d hd'
    · have : d = n := by omega
      subst this
      have z0 : cntT Z i (i + d) d = 0 := by
        obtain ⟨m, rfl⟩ : ∃ m, d = m + 1 := ⟨d - 1, by omega⟩
        have z1 := part_dead p hn g1 (k := i + ((m + 1 : Nat) : Int)) (by omega)
        rw [Nat.add_sub_cancel] at z1
        simp only [cntT]
        rw [z1]
        unfold liveT
        rw [show i + (m : Int) = i + ((m + 1 : Nat) : Int) - 1 by omega, g2, if_neg]
        simp
      have := held_pos a
      simp only [cntT, Ot.held]
      rw [z0]
      split <;> omega
  · have g1 : ∀ j, i ≤ j → j < i + n - 1 → Z j = L1 j := fun j k1 k2 => by rw [h1 j k1 (by omega), putT_ne (by omega)]
    have g2 : Z (i + n - 1) = some (i + n) := by rw [h1 (i + n - 1) (by omega) (by omega), putT_eq]
    obtain ⟨d, hd, he⟩ := p.eq Z g1 (by rw [g2]; exact Int.le_refl _)
    exact ⟨d, by omega, he⟩
theorem part_all {T : Ot} {b i : Int} {n : Nat} {L W L' W' Z : Tb} (p : Part T b i n L W L' W') (hn : 1 ≤ n) (h : ∀ j, i ≤ j → j < i + n - 1 → Z j = L' j) {k e : Int} (hk : i + n - 1 ≤ k) (he : Z (i + n - 1) = some e) : cntT Z i k n = if e > k then 1 else 0 := by
  obtain ⟨m, rfl⟩ : ∃ m, n = m + 1 := ⟨n - 1, by omega⟩
  have z1 := part_dead p hn h (k := k) hk
  rw [Nat.add_sub_cancel] at z1
  simp only [cntT]
  rw [z1]
  unfold liveT
  rw [show i + (m : Int) = i + ((m + 1 : Nat) : Int) - 1 by omega, he, Option.getD_some]
  by_cases q : e > k
  · rw [if_pos q, if_pos (decide_eq_true q)]
  · rw [if_neg q, if_neg (by simpa using q)]
theorem part_bi {x y : Ot} {b i : Int} {n m : Nat} {L W L1 W1 L2 W2 L3 : Tb} (hn : 1 ≤ n) (hm : 1 ≤ m) (p : Part x b i n L W L1 W1) (q : Part y (b + 1) (i + n) m L1 W1 L2 W2)
    (e1 : L3 (i + n - 1) = some (i + n + m)) (e2 : L3 (i + n + m - 1) = some (i + n + m)) (e3 : ∀ j, j ≠ i + n - 1 → j ≠ i + n + m - 1 → L3 j = L2 j) : Part (.bi x y) b i (n + m + 1) L W L3 (putT W2 b (i + n + m)) := by
  have a1 : ∀ j, i ≤ j → j < i + n - 1 → L3 j = L1 j := fun j k1 k2 => by rw [e3 j (by omega) (by omega)]; exact q.lo j (by omega)
  have a2 : ∀ j, i + n ≤ j → j < i + n + m - 1 → L3 j = L2 j := fun j k1 k2 => e3 j (by omega) (by omega)
  refine ⟨?_, fun x hx => ?_, fun j hj => ?_, fun j hj => ?_, fun j h1 h2 => ?_, fun Z h1 h2 d hd => ?_, fun Z h1 h2 => ?_⟩
  · rw [putT_eq]; congr 1; omega
  · rw [putT_ne (by omega), q.wlo x (by omega)]; exact p.wlo x hx
  · rw [e3 j (by omega) (by omega), q.lo j (by omega)]; exact p.lo j hj
  · rw [e3 j (by omega) (by omega), q.hi j (by omega)]; exact p.hi j (by omega)
  · by_cases c1 : j = i + n - 1
    · rw [c1, e1]; exact ⟨_, rfl, by omega⟩
    · by_cases c2 : j = i + n + m - 1
      · rw [c2, e2]; exact ⟨_, rfl, by omega⟩
      · by_cases c3 : j < i + n
        · rw [a1 j h1 (by omega)]
          obtain ⟨u, hu, hl⟩ := p.us j h1 (by omega)
          exact ⟨u, hu, by omega⟩
        · rw [a2 j (by omega) (by omega)]
          obtain ⟨u, hu, hl⟩ := q.us j (by omega) (by omega)
          exact ⟨u, hu, by omega⟩
  · have z1 : Z (i + n - 1) = some (i + n + m) := by rw [h1 (i + n - 1) (by omega) (by omega)]; exact e1
    have z2 : Z (i + n + m - 1) = some (i + n + m) := by rw [h1 (i + n + m - 1) (by omega) (by omega)]; exact e2
    have g1 : ∀ j, i ≤ j → j < i + n - 1 → Z j = L1 j := fun j k1 k2 => by rw [h1 j k1 (by omega)]; exact a1 j k1 k2
    have g2 : ∀ j, i + n ≤ j → j < i + n + m - 1 → Z j = L2 j := fun j k1 k2 => by rw [h1 j (by omega) (by omega)]; exact a2 j k1 k2
    have hx := held_pos x
    have hy := held_pos y
    by_cases c1 : d < n
    · have := p.le Z g1 (by rw [z1]; show i + (n : Int) ≤ i + n + m; omega) d c1
      simp only [Ot.held, mx]
      split <;> omega
    · obtain ⟨t, rfl⟩ : ∃ t, d = n + t := ⟨d - n, by omega⟩
      by_cases c2 : t < m
      · rw [show n + t + 1 = n + (t + 1) by omega, cntT_add, part_all p hn g1 (by omega) z1, if_pos (by omega)]
        have := q.le Z g2 (by rw [z2]; exact Int.le_refl _) t c2
        rw [show i + ((n + t : Nat) : Int) = i + n + t by omega]
        simp only [Ot.held, mx]
        split <;> omega
      · have : t = m := by omega
        subst this
        simp only [cntT]
        rw [cntT_add, part_all p hn g1 (by omega) z1, part_all q hm g2 (by omega) z2, if_neg (by omega)]
        simp only [Ot.held, mx]
        split <;> split <;> omega
  · have z1 : Z (i + n - 1) = some (i + n + m) := by rw [h1 (i + n - 1) (by omega) (by omega)]; exact e1
    have z2 : Z (i + n + m - 1) = some (i + n + m) := by rw [h1 (i + n + m - 1) (by omega) (by omega)]; exact e2
    have g1 : ∀ j, i ≤ j → j < i + n - 1 → Z j = L1 j := fun j k1 k2 => by rw [h1 j k1 (by omega)]; exact a1 j k1 k2
    have g2 : ∀ j, i + n ≤ j → j < i + n + m - 1 → Z j = L2 j := fun j k1 k2 => by rw [h1 j (by omega) (by omega)]; exact a2 j k1 k2
    by_cases c : 1 + y.held > x.held
    · obtain ⟨t, ht, he⟩ := q.eq Z g2 (by rw [z2]; exact Int.le_refl _)
      refine ⟨n + t, by omega, ?_⟩
      rw [show n + t + 1 = n + (t + 1) by omega, cntT_add, part_all p hn g1 (by omega) z1, if_pos (by omega), show i + ((n + t : Nat) : Int) = i + n + t by omega]
      simp only [Ot.held, mx]
      rw [if_pos c]
      omega
    · obtain ⟨t, ht, he⟩ := p.eq Z g1 (by rw [z1]; show i + (n : Int) ≤ i + n + m; omega)
      refine ⟨t, by omega, ?_⟩
      simp only [Ot.held, mx]
      rw [if_neg c]
      exact he
theorem part_of {T : Ot} {b : Int} {l : List Stp} (h : Sq' T b l) : ∀ (i : Int) (L W : Tb), Part T b i l.length L W (hrun i l (L, W)).1 (hrun i l (L, W)).2 := by
  induction h with
  | leaf hb hu =>
    intro i L W
    simp only [hrun, hu, hb, useT, List.length_singleton]
    exact part_leaf
  | @un a t b l h hb hu ih =>
    intro i L W
    rw [hrun_app]
    simp only [hrun, hu, hb, useT, List.length_append, List.length_singleton]
    exact part_un (sq_pos h) (ih i L W)
  | @bi x y t b l m h k hb hu ih1 ih2 =>
    intro i L W
    rw [hrun_app, hrun_app]
    have p := ih1 i L W
    have q := ih2 (i + l.length) (hrun i l (L, W)).1 (hrun i l (L, W)).2
    have w1 : ((hrun (i + l.length) m ((hrun i l (L, W)).1, (hrun i l (L, W)).2)).2 b).getD 0 = i + l.length - 1 := by rw [q.wlo b (by omega), p.wb]; rfl
    have w2 : ((hrun (i + l.length) m ((hrun i l (L, W)).1, (hrun i l (L, W)).2)).2 (b + 1)).getD 0 = i + l.length + m.length - 1 := by rw [q.wb]; rfl
    have hn := sq_pos h
    have hm := sq_pos k
    rw [show (hrun i l (L, W)) = ((hrun i l (L, W)).1, (hrun i l (L, W)).2) from rfl]
    rw [show i + ((l ++ m).length : Nat) = i + l.length + m.length by rw [List.length_append]; omega]
    rw [show (l ++ m ++ [t]).length = l.length + m.length + 1 by simp only [List.length_append, List.length_singleton]]
    simp only [hrun, hb]
    rcases hu with hu | hu
    · rw [hu]
      simp only [useT, w1, w2]
      refine part_bi hn hm p q ?_ putT_eq fun j k1 k2 => ?_
      · rw [putT_ne (by omega)]; exact putT_eq
      · rw [putT_ne (by omega), putT_ne (by omega)]
    · rw [hu]
      simp only [useT, w1, w2]
      refine part_bi hn hm p q putT_eq ?_ fun j k1 k2 => ?_
      · rw [putT_ne (by omega)]; exact putT_eq
      · rw [putT_ne (by omega), putT_ne (by omega)]
def foldH (Z : Tb) : Nat → Int
  | 0 => 0
  | n + 1 => mx (foldH Z n) (cntT Z 0 n (n + 1))
theorem foldH_le {Z : Tb} {H : Int} (h0 : 0 ≤ H) : ∀ n : Nat, (∀ d : Nat, d < n → (cntT Z 0 d (d + 1) : Int) ≤ H) → foldH Z n ≤ H
  | 0, _ => h0
  | n + 1, h => mx_le (foldH_le h0 n fun d hd => h d (by omega)) (h n (by omega))
theorem foldH_ge {Z : Tb} : ∀ (n d : Nat), d < n → (cntT Z 0 d (d + 1) : Int) ≤ foldH Z n
  | n + 1, d, h => by
    show _ ≤ mx (foldH Z n) (cntT Z 0 n (n + 1))
    by_cases e : d = n
    · subst e
      unfold mx
      split <;> omega
    · have := foldH_ge (Z := Z) n d (by omega)
      unfold mx
      split <;> omega
def startT : Tb × Tb := (fun _ => none, fun _ => none)
def endT (l : List Stp) : Tb := putT (hrun 0 l startT).1 (l.length - 1) l.length
theorem held_of {T : Ot} {b : Int} {l : List Stp} (h : Sq' T b l) : foldH (endT l) l.length = T.held := by
  have p := part_of h 0 startT.1 startT.2
  have hn := sq_pos h
  have z1 : ∀ j, 0 ≤ j → j < 0 + (l.length : Int) - 1 → endT l j = (hrun 0 l startT).1 j := fun j h1 h2 => putT_ne (by omega)
  have z2 : 0 + (l.length : Int) ≤ (endT l (0 + l.length - 1)).getD (-1) := by
    rw [show (0 + (l.length : Int) - 1) = l.length - 1 by omega]
    unfold endT
    rw [putT_eq]
    show 0 + (l.length : Int) ≤ l.length
    omega
  have k := held_pos T
  refine Int.le_antisymm (foldH_le (by omega) _ fun d hd => ?_) ?_
  · have := p.le _ z1 z2 d hd
    rw [Int.zero_add] at this
    exact this
  · obtain ⟨d, hd, e⟩ := p.eq _ z1 z2
    rw [Int.zero_add] at e
    rw [← e]
    exact foldH_ge _ d hd
theorem lot_held : ∀ s : Sm, s.lot.held = s.want
  | .num _ => rfl
  | .nam _ => rfl
  | .ask => rfl
  | .say a => lot_held a
  | .bin o a c => by
    have e0 : (Sm.bin o a c).want = if (a.eff && c.eff) = true then mx a.want (1 + c.want) else mn (mx a.want (1 + c.want)) (mx c.want (1 + a.want)) := rfl
    rw [e0]
    unfold Sm.lot turned
    cases (a.eff && c.eff) with
    | true => simp [Ot.held, lot_held a, lot_held c]
    | false =>
      by_cases h : mx c.want (1 + a.want) < mx a.want (1 + c.want)
      · simp [Ot.held, lot_held a, lot_held c, h, mn]
      · simp [Ot.held, lot_held a, lot_held c, h, mn]
theorem cntT_filter {Z : Tb} {k : Int} : ∀ n : Nat, ((List.range n).filter fun j : Nat => liveT Z k (j : Int)).length = cntT Z 0 k n
  | 0 => rfl
  | n + 1 => by
    rw [List.range_succ, List.filter_append, List.length_append, cntT_filter n]
    simp only [cntT, Int.zero_add, List.filter_cons, List.filter_nil]
    split <;> rfl
theorem hrun_take {l : List Stp} {i : Nat} {t : Stp} (h : l[i]? = some t) (S : Tb × Tb) : hrun 0 (l.take (i + 1)) S = (useT i (hrun 0 (l.take i) S).2 t.uses (hrun 0 (l.take i) S).1, putT (hrun 0 (l.take i) S).2 t.box i) := by
  have hi := (List.getElem?_eq_some_iff.mp h).1
  rw [List.take_add_one, h, Option.toList_some, hrun_app, List.length_take, Nat.min_eq_left (by omega), Int.zero_add]
  rfl
theorem at_map {l : List Stp} {i : Nat} {t : Stp} (h : l[i]? = some t) : atI (l.map encS) (i : Int) = some (encS t) := atI_nat (by rw [List.getElem?_map, h]; rfl)
end DL

/-! What a sum comes to, what steps come to -/
namespace DL
open PySem L2
def jn : Wd → Int → Int → Int
  | .add, x, y => (x + y).fmod 1000
  | .less, x, y => (x - y).fmod 1000
  | .times, x, y => (x * y).fmod 1000
theorem jn_rng (o : Wd) (x y : Int) : 0 ≤ jn o x y ∧ jn o x y < 1000 := by cases o <;> exact fmod_rng (by decide)
abbrev R3 := Int × List Int × Nat
def Sm.run (nm gv : Nat → Int) : Sm → Nat → R3
  | .num n, k => (n, [], k)
  | .nam c, k => (nm c, [], k)
  | .ask, k => (gv k, [], k + 1)
  | .say a, k => ((a.run nm gv k).1, (a.run nm gv k).2.1 ++ [(a.run nm gv k).1], (a.run nm gv k).2.2)
  | .bin o a b, k => (jn o (a.run nm gv k).1 (b.run nm gv (a.run nm gv k).2.2).1, (a.run nm gv k).2.1 ++ (b.run nm gv (a.run nm gv k).2.2).2.1, (b.run nm gv (a.run nm gv k).2.2).2.2)
def Sm.asks : Sm → Nat
  | .ask => 1
  | .say a => a.asks
  | .bin _ a b => a.asks + b.asks
  | .num _ => 0
  | .nam _ => 0
theorem asks_le : ∀ s : Sm, s.asks ≤ s.sz
  | .ask => Nat.le_refl 1
  | .say a => by have := asks_le a; simp only [Sm.asks, Sm.sz]; omega
  | .bin _ a b => by have := asks_le a; have := asks_le b; simp only [Sm.asks, Sm.sz]; omega
  | .num _ => Nat.zero_le _
  | .nam _ => Nat.zero_le _
theorem run_asked {nm gv : Nat → Int} : ∀ (s : Sm) (k : Nat), (s.run nm gv k).2.2 = k + s.asks
  | .num n, k => rfl
  | .nam c, k => rfl
  | .ask, k => rfl
  | .say a, k => run_asked a k
  | .bin o a b, k => by
    have h1 := run_asked (nm := nm) (gv := gv) a k
    have h2 := run_asked (nm := nm) (gv := gv) b (k + a.asks)
    simp only [Sm.run, Sm.asks, h1, h2]
    omega
theorem run_quiet {nm gv : Nat → Int} : ∀ (s : Sm) (k : Nat), s.eff = false → s.run nm gv k = ((s.run nm gv 0).1, [], k)
  | .num n, k, _ => rfl
  | .nam c, k, _ => rfl
  | .ask, k, h => by simp [Sm.eff] at h
  | .say a, k, h => by simp [Sm.eff] at h
  | .bin o a b, k, h => by
    simp only [Sm.eff, Bool.or_eq_false_iff] at h
    have h1 := run_quiet (nm := nm) (gv := gv) a k h.1
    have h2 := run_quiet (nm := nm) (gv := gv) b k h.2
    have h4 : (a.run nm gv 0).2.2 = 0 := by rw [run_quiet (nm := nm) (gv := gv) a 0 h.1]
    unfold Sm.run
    rw [h1]
    dsimp only
    rw [h2, h4]
    rfl
structure NgOk (nm gv : Nat → Int) : Prop where
  nm : ∀ c, 97 ≤ c → c < 103 → 0 ≤ nm c ∧ nm c < 1000
  gv : ∀ k, 0 ≤ gv k ∧ gv k < 1000
theorem run_rng {nm gv : Nat → Int} (g : NgOk nm gv) : ∀ (s : Sm) (k : Nat), s.ok → 0 ≤ (s.run nm gv k).1 ∧ (s.run nm gv k).1 < 1000
  | .num n, k, h => h
  | .nam c, k, h => g.nm c h.1 h.2
  | .ask, k, _ => g.gv k
  | .say a, k, h => run_rng g (s := a) k h
  | .bin o a b, k, h => jn_rng _ _ _
/-! steps -/
abbrev HS := Tb × List Int × Nat
def Stp.go (nm gv : Nat → Int) : Stp → HS → R3
  | .num _ v, S => (v, S.2.1, S.2.2)
  | .nam _ c, S => (nm c, S.2.1, S.2.2)
  | .ask _, S => (gv S.2.2, S.2.1, S.2.2 + 1)
  | .say _ x, S => ((S.1 x).getD 0, S.2.1 ++ [(S.1 x).getD 0], S.2.2)
  | .bin _ o x y, S => (jn o ((S.1 x).getD 0) ((S.1 y).getD 0), S.2.1, S.2.2)
def Stp.put (nm gv : Nat → Int) (t : Stp) (S : HS) : HS := (putT S.1 t.box (t.go nm gv S).1, (t.go nm gv S).2.1, (t.go nm gv S).2.2)
def srun (nm gv : Nat → Int) : List Stp → HS → HS
  | [], S => S
  | t :: ts, S => srun nm gv ts (t.put nm gv S)
theorem srun_app {nm gv : Nat → Int} : ∀ (l m : List Stp) (S : HS), srun nm gv (l ++ m) S = srun nm gv m (srun nm gv l S)
  | [], _, _ => rfl
  | t :: l, m, S => srun_app l m (t.put nm gv S)
def Stp.isAsk : Stp → Bool
  | .ask _ => true
  | _ => false
def nAsk (l : List Stp) : Nat := (l.filter Stp.isAsk).length
theorem srun_asked {nm gv : Nat → Int} : ∀ (l : List Stp) (S : HS), (srun nm gv l S).2.2 = S.2.2 + nAsk l
  | [], S => rfl
  | t :: l, S => by
    show (srun nm gv l (t.put nm gv S)).2.2 = _
    rw [srun_asked l]
    cases t <;> simp [nAsk, Stp.put, Stp.go, Stp.isAsk, List.filter_cons] <;> omega
/-- steps do what a sum does, what it comes to in a box; what stands ahead of another box stays -/
structure Does (nm gv : Nat → Int) (s : Sm) (l : List Stp) (b lo : Int) : Prop where
  at_ : ∀ S : HS, (srun nm gv l S).1 b = some (s.run nm gv S.2.2).1
  lo : ∀ (S : HS) (x : Int), x < lo → (srun nm gv l S).1 x = S.1 x
  sd : ∀ S : HS, (srun nm gv l S).2.1 = S.2.1 ++ (s.run nm gv S.2.2).2.1
  ak : ∀ S : HS, (srun nm gv l S).2.2 = (s.run nm gv S.2.2).2.2
section
variable {nm gv : Nat → Int}
theorem does_num {b : Int} {v : Int} : Does nm gv (.num v) [.num b v] b b := ⟨fun S => putT_eq, fun S x h => putT_ne (show b ≠ x by omega), fun S => (List.append_nil _).symm, fun S => rfl⟩
theorem does_nam {b : Int} {v : Nat} : Does nm gv (.nam v) [.nam b v] b b := ⟨fun S => putT_eq, fun S x h => putT_ne (show b ≠ x by omega), fun S => (List.append_nil _).symm, fun S => rfl⟩
theorem does_ask {b : Int} : Does nm gv .ask [.ask b] b b := ⟨fun S => putT_eq, fun S x h => putT_ne (show b ≠ x by omega), fun S => (List.append_nil _).symm, fun S => rfl⟩
theorem does_say {a : Sm} {l : List Stp} {b c lo : Int} (h : Does nm gv a l b lo) (hc : lo ≤ c) : Does nm gv (.say a) (l ++ [.say c b]) c lo := by
  have e : ∀ S, srun nm gv (l ++ [.say c b]) S = (Stp.say c b).put nm gv (srun nm gv l S) := fun S => srun_app _ _ _
  refine ⟨fun S => ?_, fun S x hx => ?_, fun S => ?_, fun S => ?_⟩ <;> rw [e S]
  · show putT _ c _ c = _
    rw [putT_eq]
    simp only [Stp.go, h.at_ S, Option.getD_some]
    rfl
  · show putT _ c _ x = _
    rw [putT_ne (by omega)]
    exact h.lo S x hx
  · simp only [Stp.put, Stp.go, h.at_ S, Option.getD_some, h.sd S, Sm.run, List.append_assoc]
  · exact h.ak S
theorem does_bin {o : Wd} {a c : Sm} {l m : List Stp} {b1 b2 b lo lo2 : Int} (h : Does nm gv a l b1 lo) (k : Does nm gv c m b2 lo2) (h1 : b1 < lo2) (h2 : lo ≤ lo2) (h3 : lo ≤ b) : Does nm gv (.bin o a c) (l ++ m ++ [.bin b o b1 b2]) b lo := by
  have e : ∀ S, srun nm gv (l ++ m ++ [.bin b o b1 b2]) S = (Stp.bin b o b1 b2).put nm gv (srun nm gv m (srun nm gv l S)) := fun S => by rw [srun_app, srun_app]; rfl
  have g1 : ∀ S, (srun nm gv m (srun nm gv l S)).1 b1 = some (a.run nm gv S.2.2).1 := fun S => by rw [k.lo _ _ h1]; exact h.at_ S
  have g2 : ∀ S, (srun nm gv m (srun nm gv l S)).1 b2 = some (c.run nm gv (a.run nm gv S.2.2).2.2).1 := fun S => by rw [k.at_, h.ak]
  refine ⟨fun S => ?_, fun S x hx => ?_, fun S => ?_, fun S => ?_⟩ <;> rw [e S]
  · show putT _ b _ b = _
    rw [putT_eq]
    simp only [Stp.go, g1, g2, Option.getD_some]
    rfl
  · show putT _ b _ x = _
    rw [putT_ne (by omega), k.lo _ _ (by omega)]
    exact h.lo S x hx
  · simp only [Stp.put, Stp.go, k.sd, h.sd, h.ak, Sm.run, List.append_assoc]
  · simp only [Stp.put, Stp.go, k.ak, h.ak, Sm.run]
/-- the other's ahead -/
theorem does_rev {o : Wd} {a c : Sm} {l m : List Stp} {b1 b2 b lo lo2 : Int} (hq : (a.eff && c.eff) = false) (k : Does nm gv c m b2 lo) (h : Does nm gv a l b1 lo2) (h1 : b2 < lo2) (h2 : lo ≤ lo2) (h3 : lo ≤ b) : Does nm gv (.bin o a c) (m ++ l ++ [.bin b o b1 b2]) b lo := by
  have e : ∀ S, srun nm gv (m ++ l ++ [.bin b o b1 b2]) S = (Stp.bin b o b1 b2).put nm gv (srun nm gv l (srun nm gv m S)) := fun S => by rw [srun_app, srun_app]; rfl
  have g2 : ∀ S, (srun nm gv l (srun nm gv m S)).1 b2 = some (c.run nm gv S.2.2).1 := fun S => by rw [h.lo _ _ h1]; exact k.at_ S
  have g1 : ∀ S, (srun nm gv l (srun nm gv m S)).1 b1 = some (a.run nm gv (c.run nm gv S.2.2).2.2).1 := fun S => by rw [h.at_, k.ak]
  have sw : ∀ n, (a.run nm gv (c.run nm gv n).2.2).1 = (a.run nm gv n).1 ∧ (c.run nm gv (a.run nm gv n).2.2).1 = (c.run nm gv n).1 ∧ (c.run nm gv n).2.1 ++ (a.run nm gv (c.run nm gv n).2.2).2.1 = (a.run nm gv n).2.1 ++ (c.run nm gv (a.run nm gv n).2.2).2.1 ∧ (a.run nm gv (c.run nm gv n).2.2).2.2 = (c.run nm gv (a.run nm gv n).2.2).2.2 := fun n => by
    cases ha : a.eff with
    | false =>
      have q := fun k => run_quiet (nm := nm) (gv := gv) a k ha
      simp only [q (c.run nm gv n).2.2, q n, List.append_nil, List.nil_append, and_self]
    | true =>
      rw [ha, Bool.true_and] at hq
      have q := fun k => run_quiet (nm := nm) (gv := gv) c k hq
      simp only [q (a.run nm gv n).2.2, q n, List.append_nil, List.nil_append, and_self]
  refine ⟨fun S => ?_, fun S x hx => ?_, fun S => ?_, fun S => ?_⟩ <;> rw [e S] <;> obtain ⟨w1, w2, w3, w4⟩ := sw S.2.2
  · show putT _ b _ b = _
    rw [putT_eq]
    simp only [Stp.go, g1, g2, Option.getD_some, Sm.run, w1, w2]
  · show putT _ b _ x = _
    rw [putT_ne (by omega), h.lo _ _ (by omega)]
    exact k.lo S x hx
  · simp only [Stp.put, Stp.go, k.sd, h.sd, k.ak, Sm.run, List.append_assoc, w3]
  · simp only [Stp.put, Stp.go, k.ak, h.ak, Sm.run, w4]
theorem tst_does : ∀ (s : Sm) (b : Int), Does nm gv s (s.tst b) b b
  | .num _, _ => does_num
  | .nam _, _ => does_nam
  | .ask, _ => does_ask
  | .say a, b => does_say (tst_does a b) (Int.le_refl b)
  | .bin o a c, b => does_bin (tst_does a b) (tst_does c (b + 1)) (by omega) (by omega) (Int.le_refl b)
theorem lst_does : ∀ (s : Sm) (b : Int), Does nm gv s (s.lst b) b b
  | .num _, _ => does_num
  | .nam _, _ => does_nam
  | .ask, _ => does_ask
  | .say a, b => does_say (lst_does a b) (Int.le_refl b)
  | .bin o a c, b => by
    unfold Sm.lst
    split
    · rename_i ht
      have hq : (a.eff && c.eff) = false := by
        unfold turned at ht
        cases h : a.eff && c.eff with
        | false => rfl
        | true => rw [h] at ht; cases ht
      exact does_rev hq (lst_does c b) (lst_does a (b + 1)) (by omega) (by omega) (Int.le_refl b)
    · exact does_bin (lst_does a b) (lst_does c (b + 1)) (by omega) (by omega) (Int.le_refl b)
theorem cst_does : ∀ (s : Sm) (n : Int), Does nm gv s (s.cst n) (n + s.sz - 1) n
  | .num v, n => by rw [show n + ((Sm.num v).sz : Int) - 1 = n by simp only [Sm.sz]; omega]; exact does_num
  | .nam v, n => by rw [show n + ((Sm.nam v).sz : Int) - 1 = n by simp only [Sm.sz]; omega]; exact does_nam
  | .ask, n => by rw [show n + (Sm.ask.sz : Int) - 1 = n by simp only [Sm.sz]; omega]; exact does_ask
  | .say a, n => by
    rw [show n + ((Sm.say a).sz : Int) - 1 = n + a.sz by simp only [Sm.sz]; omega]
    exact does_say (cst_does a n) (by omega)
  | .bin o a c, n => by
    rw [show n + ((Sm.bin o a c).sz : Int) - 1 = n + a.sz + c.sz by simp only [Sm.sz]; omega]
    have := a.sz_pos
    exact does_bin (cst_does a n) (cst_does c (n + a.sz)) (by omega) (by omega) (by omega)
theorem does_ask_n {s : Sm} {l : List Stp} {b lo : Int} (h : Does nm gv s l b lo) : nAsk l = s.asks := by
  have h1 := h.ak (fun _ => none, [], 0)
  rw [srun_asked, run_asked] at h1
  simpa using h1
end
/-! ### each once -/
abbrev OS := List Stp × List (Sm × Nat)
def look (kn : List (Sm × Nat)) (s : Sm) : Option Nat := (kn.find? fun p => decide (p.1 = s)).map (·.2)
def fin1 (s : Sm) (t : Stp) (S : OS) : OS × Nat := ((S.1 ++ [t], if s.eff = true then S.2 else S.2 ++ [(s, S.1.length)]), S.1.length)
def Sm.ons : Sm → OS → OS × Nat
  | .num v, S => match look S.2 (.num v) with
    | some b => (S, b)
    | none => fin1 (.num v) (.num S.1.length v) S
  | .nam v, S => match look S.2 (.nam v) with
    | some b => (S, b)
    | none => fin1 (.nam v) (.nam S.1.length v) S
  | .ask, S => match look S.2 .ask with
    | some b => (S, b)
    | none => fin1 .ask (.ask S.1.length) S
  | .say a, S => match look S.2 (.say a) with
    | some b => (S, b)
    | none => fin1 (.say a) (.say (a.ons S).1.1.length (a.ons S).2) (a.ons S).1
  | .bin o a c, S => match look S.2 (.bin o a c) with
    | some b => (S, b)
    | none => fin1 (.bin o a c) (.bin (c.ons (a.ons S).1).1.1.length o (a.ons S).2 (c.ons (a.ons S).1).2) (c.ons (a.ons S).1).1
theorem look_mem {kn : List (Sm × Nat)} {s : Sm} {b : Nat} (h : look kn s = some b) : (s, b) ∈ kn := by
  unfold look at h
  cases e : kn.find? (fun p => decide (p.1 = s)) with
  | none => rw [e] at h; cases h
  | some p =>
    rw [e] at h
    have h1 := List.mem_of_find?_eq_some e
    have h2 := List.find?_some e
    have h3 : p.1 = s := of_decide_eq_true h2
    have h4 : p.2 = b := Option.some.inj h
    rw [← h3, ← h4]
    exact h1
/-- the boxes of steps, one more each -/
def Up (l : List Stp) : Prop := l.map Stp.box = (List.range l.length).map fun i : Nat => (i : Int)
theorem Up.app {l : List Stp} {t : Stp} (h : Up l) (ht : t.box = l.length) : Up (l ++ [t]) := by
  unfold Up at *
  rw [List.map_append, h, List.length_append, List.length_singleton, List.range_succ, List.map_append, List.map_singleton, List.map_singleton, ht]
theorem Up.mem {l : List Stp} (h : Up l) {x : Int} : x ∈ l.map Stp.box ↔ 0 ≤ x ∧ x < l.length := by
  rw [h, List.mem_map]
  constructor
  · rintro ⟨i, hi, rfl⟩
    have := List.mem_range.mp hi
    omega
  · rintro ⟨h1, h2⟩
    exact ⟨x.toNat, List.mem_range.mpr (by omega), by omega⟩
/-- what is so of the steps told once, of what is known -/
structure OnI (S : OS) : Prop where
  up : Up S.1
  kn : ∀ p ∈ S.2, p.1.eff = false ∧ p.2 < S.1.length
  ok : S.1.length ≤ 200 → okSt [] S.1
structure OnR (s : Sm) (S : OS) (R : OS × Nat) : Prop where
  inv : OnI R.1
  ext : ∃ l, R.1.1 = S.1 ++ l ∧ l.length ≤ s.sz
  bx : R.2 < R.1.1.length
theorem on_fin {s : Sm} {t : Stp} {S : OS} (i : OnI S) (ht : t.box = S.1.length) (hf : t.fit) (hu : ∀ x ∈ t.uses, 0 ≤ x ∧ x < S.1.length) : OnI (fin1 s t S).1 := by
  refine ⟨i.up.app ht, fun p hp => ?_, fun hl => ?_⟩
  · show p.1.eff = false ∧ p.2 < (S.1 ++ [t]).length
    rw [List.length_append, List.length_singleton]
    unfold fin1 at hp
    dsimp only at hp
    by_cases he : s.eff = true
    · rw [if_pos he] at hp
      exact ⟨(i.kn p hp).1, by have := (i.kn p hp).2; omega⟩
    · rw [if_neg he] at hp
      rcases List.mem_append.mp hp with hp | hp
      · exact ⟨(i.kn p hp).1, by have := (i.kn p hp).2; omega⟩
      · rw [List.mem_singleton.mp hp]
        exact ⟨by simpa using he, by show S.1.length < S.1.length + 1; omega⟩
  · have hl' : (S.1 ++ [t]).length ≤ 200 := hl
    rw [List.length_append, List.length_singleton] at hl'
    show okSt [] (S.1 ++ [t])
    rw [okSt_app]
    refine ⟨i.ok (by omega), ⟨by rw [ht]; omega, by rw [ht]; omega, hf, fun x hx => ?_⟩, trivial⟩
    have := hu x hx
    refine ⟨this.1, by omega, ?_⟩
    rw [List.append_nil, List.mem_reverse]
    exact i.up.mem.mpr this
theorem ons_ok : ∀ (s : Sm) (S : OS), s.ok → OnI S → OnR s S (s.ons S)
  | .num v, S, h, i => by
    unfold Sm.ons
    split
    · rename_i b hb
      exact ⟨i, ⟨[], (List.append_nil _).symm, Nat.zero_le _⟩, (i.kn _ (look_mem hb)).2⟩
    · exact ⟨on_fin i rfl h (fun x hx => by cases hx), ⟨[_], rfl, Nat.le_refl 1⟩, by simp [fin1]⟩
  | .nam v, S, h, i => by
    unfold Sm.ons
    split
    · rename_i b hb
      exact ⟨i, ⟨[], (List.append_nil _).symm, Nat.zero_le _⟩, (i.kn _ (look_mem hb)).2⟩
    · exact ⟨on_fin i rfl h (fun x hx => by cases hx), ⟨[_], rfl, Nat.le_refl 1⟩, by simp [fin1]⟩
  | .ask, S, h, i => by
    unfold Sm.ons
    split
    · rename_i b hb
      exact ⟨i, ⟨[], (List.append_nil _).symm, Nat.zero_le _⟩, (i.kn _ (look_mem hb)).2⟩
    · exact ⟨on_fin i rfl trivial (fun x hx => by cases hx), ⟨[_], rfl, Nat.le_refl 1⟩, by simp [fin1]⟩
  | .say a, S, h, i => by
    unfold Sm.ons
    split
    · rename_i b hb
      exact ⟨i, ⟨[], (List.append_nil _).symm, Nat.zero_le _⟩, (i.kn _ (look_mem hb)).2⟩
    · have r := ons_ok a S h i
      obtain ⟨l, h1, h2⟩ := r.ext
      refine ⟨on_fin r.inv rfl trivial (fun x hx => ?_), ⟨l ++ [.say (a.ons S).1.1.length (a.ons S).2], ?_, ?_⟩, by simp [fin1]⟩
      · simp only [Stp.uses, List.mem_singleton] at hx
        have := r.bx
        omega
      · simp only [fin1, h1, List.append_assoc]
      · rw [List.length_append, List.length_singleton]; simp only [Sm.sz]; omega
  | .bin o a c, S, h, i => by
    unfold Sm.ons
    split
    · rename_i b hb
      exact ⟨i, ⟨[], (List.append_nil _).symm, Nat.zero_le _⟩, (i.kn _ (look_mem hb)).2⟩
    · have r := ons_ok a S h.1 i
      have r2 := ons_ok c (a.ons S).1 h.2 r.inv
      obtain ⟨l, h1, h2⟩ := r.ext
      obtain ⟨m, h3, h4⟩ := r2.ext
      refine ⟨on_fin r2.inv rfl trivial (fun x hx => ?_), ⟨l ++ m ++ [.bin (c.ons (a.ons S).1).1.1.length o (a.ons S).2 (c.ons (a.ons S).1).2], ?_, ?_⟩, by simp [fin1]⟩
      · simp only [Stp.uses, List.mem_cons, List.not_mem_nil, or_false] at hx
        have k1 := r.bx
        have k2 := r2.bx
        have k3 : (c.ons (a.ons S).1).1.1.length = (a.ons S).1.1.length + m.length := by rw [h3, List.length_append]
        omega
      · simp only [fin1, h3, h1, List.append_assoc]
      · simp only [List.length_append, List.length_singleton]; simp only [Sm.sz]; omega
/-- what the steps told once come to -/
structure OnV (nm gv : Nat → Int) (S : OS) : Prop where
  kn : ∀ p ∈ S.2, (srun nm gv S.1 (fun _ => none, [], 0)).1 p.2 = some (p.1.run nm gv 0).1
structure OnW (nm gv : Nat → Int) (s : Sm) (S : OS) (R : OS × Nat) : Prop where
  v : OnV nm gv R.1
  at_ : (srun nm gv R.1.1 (fun _ => none, [], 0)).1 R.2 = some (s.run nm gv (srun nm gv S.1 (fun _ => none, [], 0)).2.2).1
  sd : (srun nm gv R.1.1 (fun _ => none, [], 0)).2.1 = (srun nm gv S.1 (fun _ => none, [], 0)).2.1 ++ (s.run nm gv (srun nm gv S.1 (fun _ => none, [], 0)).2.2).2.1
  ak : (srun nm gv R.1.1 (fun _ => none, [], 0)).2.2 = (s.run nm gv (srun nm gv S.1 (fun _ => none, [], 0)).2.2).2.2
  lo : ∀ x : Int, x < S.1.length → (srun nm gv R.1.1 (fun _ => none, [], 0)).1 x = (srun nm gv S.1 (fun _ => none, [], 0)).1 x
section
variable {nm gv : Nat → Int}
theorem onw_known {s : Sm} {S : OS} {b : Nat} (i : OnI S) (v : OnV nm gv S) (h : look S.2 s = some b) : OnW nm gv s S (S, b) := by
  have hm := look_mem h
  have q := run_quiet (nm := nm) (gv := gv) s (srun nm gv S.1 (fun _ => none, [], 0)).2.2 (i.kn _ hm).1
  refine ⟨v, ?_, ?_, ?_, fun _ _ => rfl⟩
  · rw [q]; exact v.kn _ hm
  · rw [q, List.append_nil]
  · rw [q]
theorem onw_fin {s : Sm} {S S2 : OS} {t : Stp} (i : OnI S2) (v : OnV nm gv S2) (hb : t.box = S2.1.length) (hS : S.1.length ≤ S2.1.length)
    (h1 : (t.go nm gv (srun nm gv S2.1 (fun _ => none, [], 0))).1 = (s.run nm gv (srun nm gv S.1 (fun _ => none, [], 0)).2.2).1)
    (h2 : (t.go nm gv (srun nm gv S2.1 (fun _ => none, [], 0))).2.1 = (srun nm gv S.1 (fun _ => none, [], 0)).2.1 ++ (s.run nm gv (srun nm gv S.1 (fun _ => none, [], 0)).2.2).2.1)
    (h3 : (t.go nm gv (srun nm gv S2.1 (fun _ => none, [], 0))).2.2 = (s.run nm gv (srun nm gv S.1 (fun _ => none, [], 0)).2.2).2.2)
    (h4 : ∀ x : Int, x < S.1.length → (srun nm gv S2.1 (fun _ => none, [], 0)).1 x = (srun nm gv S.1 (fun _ => none, [], 0)).1 x) : OnW nm gv s S (fin1 s t S2) := by
  have e : srun nm gv (S2.1 ++ [t]) (fun _ => none, [], 0) = t.put nm gv (srun nm gv S2.1 (fun _ => none, [], 0)) := srun_app _ _ _
  have e2 : (srun nm gv (S2.1 ++ [t]) (fun _ => none, [], 0)).1 (S2.1.length : Nat) = some (s.run nm gv (srun nm gv S.1 (fun _ => none, [], 0)).2.2).1 := by
    rw [e]
    show putT _ t.box _ _ = _
    rw [hb, putT_eq, h1]
  refine ⟨⟨fun p hp => ?_⟩, e2, ?_, ?_, fun x hx => ?_⟩
  · show (srun nm gv (S2.1 ++ [t]) (fun _ => none, [], 0)).1 p.2 = _
    unfold fin1 at hp
    dsimp only at hp
    have old : p ∈ S2.2 → (srun nm gv (S2.1 ++ [t]) (fun _ => none, [], 0)).1 p.2 = some (p.1.run nm gv 0).1 := fun hp => by
      have := (i.kn p hp).2
      rw [e]
      show putT _ t.box _ _ = _
      rw [hb, putT_ne (by omega)]
      exact v.kn p hp
    by_cases he : s.eff = true
    · rw [if_pos he] at hp
      exact old hp
    · rw [if_neg he] at hp
      rcases List.mem_append.mp hp with hp | hp
      · exact old hp
      · rw [List.mem_singleton.mp hp]
        show (srun nm gv (S2.1 ++ [t]) (fun _ => none, [], 0)).1 (S2.1.length : Nat) = some (s.run nm gv 0).1
        rw [e2, run_quiet s _ (by simpa using he)]
  · show (srun nm gv (S2.1 ++ [t]) (fun _ => none, [], 0)).2.1 = _
    rw [e]
    exact h2
  · show (srun nm gv (S2.1 ++ [t]) (fun _ => none, [], 0)).2.2 = _
    rw [e]
    exact h3
  · show (srun nm gv (S2.1 ++ [t]) (fun _ => none, [], 0)).1 x = _
    rw [e]
    show putT _ t.box _ _ = _
    rw [hb, putT_ne (by omega)]
    exact h4 x hx
theorem ons_does : ∀ (s : Sm) (S : OS), s.ok → OnI S → OnV nm gv S → OnW nm gv s S (s.ons S)
  | .num n, S, h, i, v => by
    unfold Sm.ons
    split
    · exact onw_known i v (by assumption)
    · exact onw_fin i v rfl (Nat.le_refl _) rfl (by simp [Stp.go, Sm.run]) rfl fun _ _ => rfl
  | .nam n, S, h, i, v => by
    unfold Sm.ons
    split
    · exact onw_known i v (by assumption)
    · exact onw_fin i v rfl (Nat.le_refl _) rfl (by simp [Stp.go, Sm.run]) rfl fun _ _ => rfl
  | .ask, S, h, i, v => by
    unfold Sm.ons
    split
    · exact onw_known i v (by assumption)
    · exact onw_fin i v rfl (Nat.le_refl _) rfl (by simp [Stp.go, Sm.run]) rfl fun _ _ => rfl
  | .say a, S, h, i, v => by
    unfold Sm.ons
    split
    · exact onw_known i v (by assumption)
    · have r := ons_ok a S h i
      have w := ons_does a S h i v
      obtain ⟨l, h1, h2⟩ := r.ext
      have hl : S.1.length ≤ (a.ons S).1.1.length := by rw [h1, List.length_append]; omega
      refine onw_fin r.inv w.v rfl hl ?_ ?_ ?_ w.lo
      · simp only [Stp.go, w.at_, Option.getD_some, Sm.run]
      · simp only [Stp.go, w.at_, Option.getD_some, Sm.run, w.sd, List.append_assoc]
      · simp only [Stp.go, w.ak, Sm.run]
  | .bin o a c, S, h, i, v => by
    unfold Sm.ons
    split
    · exact onw_known i v (by assumption)
    · have r := ons_ok a S h.1 i
      have w := ons_does a S h.1 i v
      have r2 := ons_ok c (a.ons S).1 h.2 r.inv
      have w2 := ons_does c (a.ons S).1 h.2 r.inv w.v
      obtain ⟨l, h1, h2⟩ := r.ext
      obtain ⟨m, h3, h4⟩ := r2.ext
      have hl : S.1.length ≤ (a.ons S).1.1.length := by rw [h1, List.length_append]; omega
      have hl2 : (a.ons S).1.1.length ≤ (c.ons (a.ons S).1).1.1.length := by rw [h3, List.length_append]; omega
      have hb := r.bx
      have g1 := (w2.lo (a.ons S).2 (by omega)).trans w.at_
      refine onw_fin r2.inv w2.v rfl (by omega) ?_ ?_ ?_ fun x hx => (w2.lo x (by omega)).trans (w.lo x hx)
      · simp only [Stp.go, w2.at_, g1, Option.getD_some, Sm.run, w.ak]
      · simp only [Stp.go, Sm.run, w2.sd, w.sd, w.ak, List.append_assoc]
      · simp only [Stp.go, w2.ak, w.ak, Sm.run]
end
def Sm.one (s : Sm) : List Stp := (s.ons ([], [])).1.1
theorem on_start : OnI ([], []) where
  up := rfl
  kn := fun p hp => by simp at hp
  ok := fun _ => trivial
theorem one_len {s : Sm} (h : s.ok) : s.one.length ≤ s.sz ∧ 0 < s.one.length := by
  have r := ons_ok s ([], []) h on_start
  obtain ⟨l, h1, h2⟩ := r.ext
  have := r.bx
  unfold Sm.one
  rw [h1, List.nil_append] at this ⊢
  exact ⟨h2, by omega⟩
theorem one_ok {s : Sm} (h : s.ok) (hz : s.sz ≤ 200) : okSt [] s.one := (ons_ok s ([], []) h on_start).inv.ok (by have := (one_len h).1; unfold Sm.one at this; omega)
end DL

/-! Further rules: str, int, join, a list times a number, flat lists compared -/
namespace DL
open PySem L2 PyProof.Rows
def rStrA : List V → Hp → VK → Prop := fun xs H Q => (∃ i, xs = [.int i] ∧ i.natAbs.log2 < 1920 ∧ Q (.str (toString i)) H) ∨ ∃ a, xs = [.str a] ∧ Q (.str a) H
theorem call_strA {X : Cx} : CallR X (.type "str") rStrA := CallR.or call_str_int SkE.call_str_str
def rIntA : List V → Hp → VK → Prop := fun xs H Q => ((∃ i, xs = [.int i] ∧ Q (.int i) H) ∨ ∃ k, xs = [.bl k] ∧ Q (.int (if k then 1 else 0)) H) ∨ ∃ a n, xs = [.str a] ∧ PySem.intText? a = some n ∧ a.length ≤ 640 ∧ Q (.int n) H
theorem call_intA {X : Cx} : CallR X (.type "int") rIntA := CallR.or call_int1 call_int_str
def rJoin (K : PySem.W.Frag) : V → List V → Hp → VK → Prop := fun x xs H Q => ∃ a p, ∃ ys : List Str, x = .str a ∧ xs = [.ref p] ∧ (SqL K H p (ys.map V.str) ∨ SqT K H p (ys.map V.str)) ∧
    (ys.map (·.length)).sum + ys.length * a.length ≤ 16777216 ∧ Q (.str (Txt.join a ys)) H
theorem mt_joink {X : Cx} (K : PySem.W.Frag) (h : X.K = K := by rfl) : MtR X "str.join" (rJoin K) := by subst h; exact mt_join
section
variable {P : Pr} {M : Mp} {Q : D → Mp → Prop}
theorem dl_strAI {i : Int} (h : i.natAbs.log2 < 1920) (q : Q (.str (toString i)) M) : DL' P rStrA [.int i] M Q := by
  intro vs H R r gd k
  obtain ⟨v, rfl, t⟩ := trs1 r
  cases tr_int t
  exact .inl ⟨i, rfl, h, k.here (.str _) gd q⟩
theorem dl_strAS {x : Str} (q : Q (.str x) M) : DL' P rStrA [.str x] M Q := by
  intro vs H R r gd k
  obtain ⟨v, rfl, t⟩ := trs1 r
  cases tr_str t
  exact .inr ⟨x, rfl, k.here (.str _) gd q⟩
theorem dl_intAB {b : Bool} (q : Q (.int (if b then 1 else 0)) M) : DL' P rIntA [.bl b] M Q := by
  intro vs H R r gd k
  obtain ⟨v, rfl, t⟩ := trs1 r
  cases tr_bl t
  exact .inl (.inr ⟨b, rfl, k.here (.int _) gd q⟩)
theorem dl_intAS {x : Str} {n : Int} (h : PySem.intText? x = some n) (hl : x.length ≤ 640) (q : Q (.int n) M) : DL' P rIntA [.str x] M Q := by
  intro vs H R r gd k
  obtain ⟨v, rfl, t⟩ := trs1 r
  cases tr_str t
  exact .inr ⟨x, n, rfl, h, hl, k.here (.int _) gd q⟩
theorem trs_strs {K B M H} {vs : List V} {ys : List Str} (t : Trs K B M H vs (ys.map D.str)) : vs = ys.map V.str := by
  induction ys generalizing vs with
  | nil => cases t; rfl
  | cons y ys ih =>
    cases t with
    | cons h r => rw [tr_str h, ih r]; rfl
theorem dm_join {a : Str} {y : D} {ys : List Str} (hy : IsL M y (ys.map D.str)) (h : (ys.map (·.length)).sum + ys.length * a.length ≤ 16777216) (q : Q (.str (Txt.join a ys)) M) : DM P (rJoin P.K) (.str a) [y] M Q := by
  intro vx vs H R rx rs gd k
  cases tr_str rx
  obtain ⟨v, rfl, t⟩ := trs1 rs
  obtain ⟨p, ws, rfl, h1, h2⟩ := hy.at t gd
  have e := trs_strs h2
  subst e
  exact ⟨a, p, ys, rfl, rfl, .inl (SqL.of h1), h, k.here (.str _) gd q⟩
theorem Trs.rep {K B M H} {vs : List V} {ds : List D} (t : Trs K B M H vs ds) : ∀ n : Nat, Trs K B M H (List.replicate n vs).flatten (List.replicate n ds).flatten
  | 0 => .nil
  | n + 1 => by
    rw [List.replicate_succ, List.replicate_succ, List.flatten_cons, List.flatten_cons]
    exact t.append (Trs.rep t n)
theorem d2_rep {x : D} {xs : List D} {n : Int} (hx : IsL M x xs) (h0 : -(2 ^ 63) ≤ n) (h1 : n < 2 ^ 63) (hl : xs.length * n.toNat ≤ 100000) (q : Q (.lst .own (List.replicate n.toNat xs).flatten) M) : D2 P rMul2 x (.int n) M Q := by
  intro vx vy H R rx ry gd k
  cases tr_int ry
  obtain ⟨p, ws, rfl, e1, e2⟩ := hx.at rx gd
  refine .inr ⟨p, n, ws, rfl, rfl, e1, h0, h1, by rw [e2.length, sizeLine_eq]; omega, fun a ha => ?_⟩
  exact k _ (.lst .own _) M _ (.lst (k := .own) ⟨gd.free ha, upd_same, gd.base _ ha⟩ ((e2.rep _).ext (ext_new ha))) (gd.new ha) (ext_new ha) q
theorem dp_isL {H : Hp} {v : V} {x : D} {ds : List D} (hx : IsL M x ds) (gd : Good P.K P.B M H) (h : ds.all flatD = true) (t : Tr P.K P.B M H v x) : Dp P.K H v (.list (ds.map toPf)) := by
  obtain ⟨p, ws, rfl, e1, e2⟩ := hx.at t gd
  exact .lst (SqL.of e1) (dps_flat h e2)
theorem d2_neL {x y : D} {xs ys : List D} (hx : IsL M x xs) (hy : IsL M y ys) (fx : xs.all flatD = true) (fy : ys.all flatD = true) (sx : SeqAt.shaped (.list (xs.map toPf)) = true) (sy : SeqAt.shaped (.list (ys.map toPf)) = true) (q : Q (.bl (!PyData.eqv (.list (xs.map toPf)) (.list (ys.map toPf)))) M) : D2 P (rNe3 P.K) x y M Q :=
  fun vx vy H R rx ry gd k => .inr (.inr ⟨_, _, dp_isL hx gd fx rx, dp_isL hy gd fy ry, sx, sy, k.here (.bl _) gd q⟩)
end
end DL

/-! Names and given numbers -/
namespace DL
open PySem L2
def nmK : Nat → List Int → List (Key × D)
  | _, [] => []
  | n, v :: vs => (.inr ⟨#[n]⟩, .int v) :: nmK (n + 1) vs
theorem sgn_inj {a b : Nat} : (Sum.inr (⟨#[a]⟩ : Str) : Key) = .inr ⟨#[b]⟩ ↔ a = b := by
  constructor
  · intro h
    have := congrArg Str.cps (Sum.inr.inj h)
    simpa using this
  · rintro rfl; rfl
theorem nmK_app : ∀ (vs : List Int) (n : Nat) (v : Int), nmK n (vs ++ [v]) = nmK n vs ++ [(.inr ⟨#[n + vs.length]⟩, .int v)]
  | [], n, v => rfl
  | x :: vs, n, v => by
    rw [List.cons_append, nmK, nmK, nmK_app vs, List.cons_append, List.length_cons, show n + 1 + vs.length = n + (vs.length + 1) by omega]
theorem nmK_val : ∀ (vs : List Int) (n j : Nat), valD (nmK n vs) (.inr ⟨#[n + j]⟩) = (vs[j]?).map D.int
  | [], n, j => by simp [nmK, valD]
  | x :: vs, n, 0 => by rw [Nat.add_zero, nmK, valD_cons, if_pos rfl]; rfl
  | x :: vs, n, j + 1 => by
    rw [nmK, valD_cons, if_neg (fun z => by have := sgn_inj.mp z; omega), show n + (j + 1) = n + 1 + j by omega, nmK_val vs]
    rfl
theorem nmK_put {vs : List Int} {v : Int} : putD (nmK 97 vs) (.inr ⟨#[97 + vs.length]⟩) (.int v) = nmK 97 (vs ++ [v]) := by
  have h := nmK_val vs 97 vs.length
  rw [List.getElem?_eq_none (Nat.le_refl _)] at h
  unfold putD
  rw [← valD_some, h, nmK_app]
  rfl
theorem nmK_len : ∀ (vs : List Int) (n : Nat), (nmK n vs).length = vs.length
  | [], _ => rfl
  | x :: vs, n => by rw [nmK, List.length_cons, List.length_cons, nmK_len vs]
theorem nmK_noL : ∀ (vs : List Int) (n : Nat), noLs ((nmK n vs).map (·.2)) = true
  | [], _ => rfl
  | x :: vs, n => by rw [nmK, List.map_cons, noLs, nmK_noL vs]; rfl
def nmOf (vs : List Int) : Nat → Int := fun c => vs.getD (c - 97) 0
def gvOf (gs : List Int) : Nat → Int := fun k => gs.getD k 0
abbrev Thou (vs : List Int) : Prop := ∀ v ∈ vs, 0 ≤ v ∧ v < 1000
theorem Thou.app {vs : List Int} (h : Thou vs) {v : Int} (h0 : 0 ≤ v) (h1 : v < 1000) : Thou (vs ++ [v]) := fun x hx => by
  rcases List.mem_append.mp hx with hx | hx
  · exact h x hx
  · rw [List.mem_singleton.mp hx]; exact ⟨h0, h1⟩
theorem thou_nil : Thou [] := fun v hv => by cases hv
theorem getD_rng {vs : List Int} (h : Thou vs) (k : Nat) : 0 ≤ vs.getD k 0 ∧ vs.getD k 0 < 1000 := by
  rw [List.getD_eq_getElem?_getD]
  cases e : vs[k]? with
  | none => exact ⟨by decide, by decide⟩
  | some x => exact h x (List.mem_of_getElem? e)
theorem ng_ok {vs gs : List Int} (h1 : Thou vs) (h2 : Thou gs) : NgOk (nmOf vs) (gvOf gs) := ⟨fun c _ _ => getD_rng h1 _, fun k => getD_rng h2 _⟩
theorem nm_get {vs : List Int} (h : vs.length = 6) {c : Nat} (h0 : 97 ≤ c) (h1 : c < 103) : valD (nmK 97 vs) (.inr ⟨#[c]⟩) = some (.int (nmOf vs c)) := by
  have := nmK_val vs 97 (c - 97)
  rw [show 97 + (c - 97) = c by omega] at this
  rw [this]
  unfold nmOf
  rw [List.getElem?_eq_getElem (by omega), List.getD_eq_getElem?_getD, List.getElem?_eq_getElem (by omega)]
  rfl
theorem gv_get {gs : List Int} {k : Nat} (h : k < gs.length) : atI (gs.map D.int) (k : Int) = some (.int (gvOf gs k)) := atI_nat (by
  rw [List.getElem?_map, List.getElem?_eq_getElem h]
  unfold gvOf
  rw [List.getD_eq_getElem?_getD, List.getElem?_eq_getElem h]
  rfl)
theorem ints_noL' (m : List Int) : noLs (m.map D.int) = true := noLs_of fun d hd => by
  obtain ⟨i, _, rfl⟩ := List.mem_map.mp hd
  rfl
theorem run_said_len {nm gv : Nat → Int} : ∀ (s : Sm) (k : Nat), (s.run nm gv k).2.1.length ≤ s.sz
  | .num _, _ => Nat.zero_le _
  | .nam _, _ => Nat.zero_le _
  | .ask, _ => Nat.zero_le _
  | .say a, k => by
    have := run_said_len (nm := nm) (gv := gv) a k
    simp only [Sm.run, Sm.sz, List.length_append, List.length_singleton]
    omega
  | .bin o a b, k => by
    have h1 := run_said_len (nm := nm) (gv := gv) a k
    have h2 := run_said_len (nm := nm) (gv := gv) b (a.run nm gv k).2.2
    simp only [Sm.run, Sm.sz, List.length_append]
    omega
theorem fmod_of (x : Int) : x - x.fdiv 1000 * 1000 = x.fmod 1000 := by
  have := Int.mul_fdiv_add_fmod x 1000
  omega
/-- the law's own way to join two numbers -/
theorem jn_law (o : Wd) (x y : Int) : jn o x y = (if decide (o.word = "times") = true then x * y else x + y * (if decide (o.word = "less") = true then 0 - 1 else 1)).fmod 1000 := by
  cases o with
  | add =>
    rw [if_neg (by decide +kernel), if_neg (by decide +kernel), Int.mul_one]
    rfl
  | less =>
    rw [if_neg (by decide +kernel), if_pos (by decide +kernel), show x + y * (0 - 1) = x - y by omega]
    rfl
  | times =>
    rw [if_pos (by decide +kernel)]
    rfl
end DL

/-! Letters and asks of a sum, of steps -/
namespace DL
open PySem L2
theorem all_ok : ∀ {s : Sm}, s.ok → ∀ t ∈ s.all, t.ok
  | .num n, h, t, m => by rw [List.mem_singleton.mp m]; exact h
  | .nam n, h, t, m => by rw [List.mem_singleton.mp m]; exact h
  | .ask, h, t, m => by rw [List.mem_singleton.mp m]; exact h
  | .say a, h, t, m => by
    rcases List.mem_cons.mp m with rfl | m
    · exact h
    · exact all_ok (s := a) h t m
  | .bin o a b, h, t, m => by
    rcases List.mem_cons.mp m with rfl | m
    · exact h
    · rcases List.mem_append.mp m with m | m
      · exact all_ok h.1 t m
      · exact all_ok h.2 t m
def Sm.isNam : Sm → Bool
  | .nam _ => true
  | _ => false
def Sm.isAsk : Sm → Bool
  | .ask => true
  | _ => false
def Sm.letD : Sm → D
  | .nam c => .str ⟨#[c]⟩
  | _ => .non
def Sm.nam? : Sm → Option Nat
  | .nam c => some c
  | _ => none
def sgD (c : Nat) : D := .str ⟨#[c]⟩
theorem nams_map : ∀ l : List Sm, (l.filter Sm.isNam).map Sm.letD = (l.filterMap Sm.nam?).map sgD
  | [] => rfl
  | t :: l => by
    cases t <;> simp only [List.filter_cons, Sm.isNam, List.filterMap_cons, Sm.nam?, if_true, List.map_cons, Sm.letD, nams_map l, Bool.false_eq_true, if_false] <;> rfl
theorem asks_all : ∀ s : Sm, (s.all.filter Sm.isAsk).length = s.asks
  | .num _ => rfl
  | .nam _ => rfl
  | .ask => rfl
  | .say a => by
    rw [Sm.all, List.filter_cons]
    exact asks_all a
  | .bin o a b => by
    rw [Sm.all, List.filter_cons, List.filter_append]
    show (a.all.filter Sm.isAsk ++ b.all.filter Sm.isAsk).length = _
    rw [List.length_append, asks_all a, asks_all b]
    rfl
theorem nams_ok {l : List Sm} (h : ∀ t ∈ l, t.ok) : ∀ c ∈ l.filterMap Sm.nam?, 97 ≤ c ∧ c < 103 := fun c hc => by
  obtain ⟨t, ht, e⟩ := List.mem_filterMap.mp hc
  cases t with
  | nam d =>
    cases e
    exact h _ ht
  | _ => cases e
def Stp.isNam : Stp → Bool
  | .nam _ _ => true
  | _ => false
def Stp.letD : Stp → D
  | .nam _ c => .str ⟨#[c]⟩
  | _ => .non
def Stp.nam? : Stp → Option Nat
  | .nam _ c => some c
  | _ => none
theorem snams_map : ∀ l : List Stp, (l.filter Stp.isNam).map Stp.letD = (l.filterMap Stp.nam?).map sgD
  | [] => rfl
  | t :: l => by
    cases t <;> simp only [List.filter_cons, Stp.isNam, List.filterMap_cons, Stp.nam?, if_true, List.map_cons, Stp.letD, snams_map l, Bool.false_eq_true, if_false] <;> rfl
theorem okSt_fit : ∀ {put : List Int} {l : List Stp}, okSt put l → ∀ t ∈ l, t.fit
  | _, [], _, t, m => by cases m
  | put, a :: l, h, t, m => by
    rcases List.mem_cons.mp m with rfl | m
    · exact h.1.fit
    · exact okSt_fit h.2 t m
theorem snams_ok {l : List Stp} (h : ∀ t ∈ l, t.fit) : ∀ c ∈ l.filterMap Stp.nam?, 97 ≤ c ∧ c < 103 := fun c hc => by
  obtain ⟨t, ht, e⟩ := List.mem_filterMap.mp hc
  cases t with
  | nam b d =>
    cases e
    exact h _ ht
  | _ => cases e
def Stp.wd : Stp → Str
  | .num _ _ => "num"
  | .nam _ _ => "name"
  | .ask _ => "ask"
  | .say _ _ => "say"
  | .bin _ o _ _ => o.word
def Stp.tl : Stp → List D
  | .num _ v => [.int v]
  | .nam _ c => [.str ⟨#[c]⟩]
  | .ask _ => []
  | .say _ x => [.int x]
  | .bin _ _ x y => [.int x, .int y]
theorem encS_eq (t : Stp) : encS t = .tup (.int t.box :: .str t.wd :: t.tl) := by cases t <;> rfl
theorem swd_nam (t : Stp) : decide (t.wd = "name") = t.isNam := by
  cases t with
  | bin b o x y => cases o <;> rfl
  | _ => rfl
theorem swd_ask (t : Stp) : decide (t.wd = "ask") = t.isAsk := by
  cases t with
  | bin b o x y => cases o <;> rfl
  | _ => rfl
theorem wd_nam (s : Sm) : decide (s.wd = "name") = s.isNam := by
  cases s with
  | bin o a b => cases o <;> rfl
  | _ => rfl
theorem wd_ask (s : Sm) : decide (s.wd = "ask") = s.isAsk := by
  cases s with
  | bin o a b => cases o <;> rfl
  | _ => rfl
/-- what a dict by numbers holds -/
def TbOk (kvs : List (Key × D)) (L : Tb) : Prop := ∀ j : Int, valD kvs (.inl j) = (L j).map D.int
theorem TbOk.put {kvs : List (Key × D)} {L : Tb} (h : TbOk kvs L) (j k : Int) : TbOk (putD kvs (.inl j) (.int k)) (putT L j k) := fun x => by
  rw [valD_put]
  by_cases e : j = x
  · rw [e, if_pos rfl, putT_eq]
    rfl
  · rw [if_neg (fun z => e (Sum.inl.inj z)), putT_ne e]
    exact h x
def toldD (r : R3) : D := .tup [.int r.1, .lst .own (r.2.1.map .int), .int (r.2.2 : Nat)]
def lastBox (l : List Stp) : Int := (l.getLast?.map Stp.box).getD 0
def runR (nm gv : Nat → Int) (l : List Stp) : R3 := (((srun nm gv l (fun _ => none, [], 0)).1 (lastBox l)).getD 0, (srun nm gv l (fun _ => none, [], 0)).2.1, (srun nm gv l (fun _ => none, [], 0)).2.2)
theorem does_run {nm gv : Nat → Int} {s : Sm} {l : List Stp} {b lo : Int} (h : Does nm gv s l b lo) (hb : lastBox l = b) : runR nm gv l = s.run nm gv 0 := by
  unfold runR
  rw [hb, h.at_, h.sd, h.ak]
  rfl
theorem lastBox_app {l : List Stp} {t : Stp} : lastBox (l ++ [t]) = t.box := by
  unfold lastBox
  rw [List.getLast?_append]
  rfl
theorem tst_lastB (s : Sm) (b : Int) : lastBox (s.tst b) = b := by
  cases s with
  | say a => exact lastBox_app
  | bin o a c => exact lastBox_app
  | _ => rfl
theorem lst_lastB (s : Sm) (b : Int) : lastBox (s.lst b) = b := by
  cases s with
  | say a => exact lastBox_app
  | bin o a c => unfold Sm.lst; split <;> exact lastBox_app
  | _ => rfl
theorem cst_lastB (s : Sm) (n : Int) : lastBox (s.cst n) = n + s.sz - 1 := by
  cases s with
  | say a => rw [show n + ((Sm.say a).sz : Int) - 1 = n + a.sz by simp only [Sm.sz]; omega]; exact lastBox_app
  | bin o a c => rw [show n + ((Sm.bin o a c).sz : Int) - 1 = n + a.sz + c.sz by simp only [Sm.sz]; omega]; exact lastBox_app
  | num v => rw [show n + ((Sm.num v).sz : Int) - 1 = n by simp only [Sm.sz]; omega]; rfl
  | nam v => rw [show n + ((Sm.nam v).sz : Int) - 1 = n by simp only [Sm.sz]; omega]; rfl
  | ask => rw [show n + (Sm.ask.sz : Int) - 1 = n by simp only [Sm.sz]; omega]; rfl
theorem one_lastB (s : Sm) : lastBox s.one = ((s.ons ([], [])).2 : Nat) := by
  have z : ∀ s : Sm, look [] s = none := fun _ => rfl
  unfold Sm.one
  cases s <;> simp only [Sm.ons, z, fin1] <;> exact lastBox_app
theorem one_run {nm gv : Nat → Int} {s : Sm} (h : s.ok) : runR nm gv s.one = s.run nm gv 0 := by
  have w := ons_does (nm := nm) (gv := gv) s ([], []) h on_start ⟨fun p hp => by simp at hp⟩
  unfold runR
  rw [one_lastB]
  unfold Sm.one
  rw [w.at_, w.sd, w.ak]
  rfl
theorem one_ask {s : Sm} (h : s.ok) : nAsk s.one = s.asks := by
  have w := (ons_does (nm := fun _ => 0) (gv := fun _ => 0) s ([], []) h on_start ⟨fun p hp => by simp at hp⟩).ak
  have e : (srun (fun _ => 0) (fun _ => 0) ([] : List Stp) (fun _ => none, [], 0)).2.2 = 0 := rfl
  rw [srun_asked, run_asked, e] at w
  simpa [Sm.one] using w
theorem srun_take {nm gv : Nat → Int} {l : List Stp} {i : Nat} {t : Stp} (h : l[i]? = some t) (S : HS) : srun nm gv (l.take (i + 1)) S = t.put nm gv (srun nm gv (l.take i) S) := by
  rw [List.take_add_one, h, Option.toList_some, srun_app]
  rfl
theorem nAsk_take {l : List Stp} {i : Nat} {t : Stp} (h : l[i]? = some t) (ht : t.isAsk = true) : nAsk (l.take i) < nAsk l := by
  have hi := (List.getElem?_eq_some_iff.mp h).1
  have e : l = l.take i ++ (t :: l.drop (i + 1)) := by
    rw [← drop_get h, List.take_append_drop]
  have h2 : nAsk l = nAsk (l.take i ++ (t :: l.drop (i + 1))) := by rw [← e]
  rw [h2]
  unfold nAsk
  rw [List.filter_append, List.length_append, List.filter_cons, if_pos ht, List.length_cons]
  omega
theorem atI_last {α : Type} {l : List α} {t : α} : atI (l ++ [t]) (-1) = some t := by
  have h : ixN (l ++ [t]).length (-1) = some l.length := by
    unfold ixN
    rw [List.length_append, List.length_singleton, if_neg (by decide), if_pos (by omega)]
    congr 1
    omega
  unfold atI
  rw [h]
  simp
theorem d1_neg {P : Pr} {M : Mp} {Q : D → Mp → Prop} {i : Int} (q : Q (.int (-i)) M) : D1 P (rU fun i => .int (-i)) (.int i) M Q := fun vx H R rx gd k => by
  cases tr_int rx
  exact ⟨i, rfl, k.here (.int _) gd q⟩
theorem putFD_len {f : Str} {v : D} : ∀ {fs : List (Str × D)}, (putFD f v fs).length ≤ fs.length + 1
  | [] => Nat.le_refl 1
  | (g, x) :: r => by
    unfold putFD
    split
    · simp
    · have := putFD_len (f := f) (v := v) (fs := r)
      simp only [List.length_cons]
      omega
theorem putFD_lt {f : Str} {v : D} {fs : List (Str × D)} {n : Nat} (h : fs.length + 1 < n) : (putFD f v fs).length < n := Nat.lt_of_le_of_lt putFD_len h
end DL

/-! The text by which a sum is known: no two alike -/
namespace DL
open PySem L2
abbrev cl (x : Str) : List Nat := x.cps.toList
theorem cl_app (a b : Str) : cl (a ++ b) = cl a ++ cl b := Array.toList_append
theorem cl_inj {a b : Str} (h : cl a = cl b) : a = b := by
  cases a with
  | mk x =>
    cases b with
    | mk y =>
      have : x = y := Array.ext' h
      rw [this]
def dgS (n : Int) : Str := Str.ofString (toString n)
def decD (l : List Nat) : Int := l.foldl (fun (a : Int) (d : Nat) => a * 10 + ((d : Int) - 48)) 0
theorem dgN (n : Nat) : cl (dgS (n : Int)) = (Nat.toDigits 10 n).map Char.toNat := by
  show (cpsOfBytes 0 0 _).toArray.toList = _
  rw [List.toList_toArray, cpsOfBytes_string]
  show (Nat.repr n).toList.map Char.toNat = _
  rw [Nat.repr, String.toList_ofList]
theorem dg_fin : ∀ n : Fin 1000, (∀ d ∈ (Nat.toDigits 10 n.val).map Char.toNat, 48 ≤ d ∧ d < 58) ∧ decD ((Nat.toDigits 10 n.val).map Char.toNat) = (n.val : Int) ∧ ((Nat.toDigits 10 n.val).map Char.toNat).length ≤ 3 ∧ 1 ≤ ((Nat.toDigits 10 n.val).map Char.toNat).length := by decide +kernel
theorem dg_ok {n : Int} (h0 : 0 ≤ n) (h1 : n < 1000) : (∀ d ∈ cl (dgS n), 48 ≤ d ∧ d < 58) ∧ decD (cl (dgS n)) = n ∧ (cl (dgS n)).length ≤ 3 ∧ 1 ≤ (cl (dgS n)).length := by
  obtain ⟨m, rfl⟩ : ∃ m : Nat, n = m := ⟨n.toNat, by omega⟩
  rw [dgN]
  exact dg_fin ⟨m, by omega⟩
def Sm.faces : Sm → List Str
  | .num n => ["num", dgS n]
  | .nam c => ["name", ⟨#[c]⟩]
  | .ask => ["ask"]
  | .say a => ["say", Txt.join " " a.faces]
  | .bin o a b => [o.word, Txt.join " " a.faces, Txt.join " " b.faces]
def Sm.face (s : Sm) : Str := Txt.join " " s.faces
theorem join1 (a : Str) : Txt.join " " [a] = a := by rw [Txt.join, StrLaws.glued_eq_join]; rfl
theorem join2 (a b : Str) : Txt.join " " [a, b] = a ++ " " ++ b := by rw [Txt.join, StrLaws.glued_eq_join]; rfl
theorem join3 (a b c : Str) : Txt.join " " [a, b, c] = a ++ " " ++ (b ++ " " ++ c) := by rw [Txt.join, StrLaws.glued_eq_join]; rfl
theorem cl_blank : cl " " = [32] := by rfl
theorem fc_num (n : Int) : cl (Sm.num n).face = cl "num" ++ 32 :: cl (dgS n) := by
  rw [Sm.face, Sm.faces, join2, cl_app, cl_app, cl_blank, List.append_assoc]; rfl
theorem fc_nam (c : Nat) : cl (Sm.nam c).face = cl "name" ++ 32 :: [c] := by
  rw [Sm.face, Sm.faces, join2, cl_app, cl_app, cl_blank, List.append_assoc]; rfl
theorem fc_ask : cl Sm.ask.face = cl "ask" ++ [] := by
  rw [Sm.face, Sm.faces, join1, List.append_nil]
theorem fc_say (a : Sm) : cl (Sm.say a).face = cl "say" ++ 32 :: cl a.face := by
  rw [Sm.face, Sm.faces, join2, cl_app, cl_app, cl_blank, List.append_assoc]; rfl
theorem fc_bin (o : Wd) (a b : Sm) : cl (Sm.bin o a b).face = cl o.word ++ 32 :: (cl a.face ++ 32 :: cl b.face) := by
  rw [Sm.face, Sm.faces, join3, cl_app, cl_app, cl_app, cl_app, cl_blank]
  simp only [List.append_assoc, List.singleton_append]
  rfl
def NoB (l : List Nat) : Prop := ∀ d ∈ l, d ≠ 32
def Bl (x : List Nat) : Prop := x = [] ∨ ∃ y, x = 32 :: y
theorem bl_cons (x : List Nat) : Bl (32 :: x) := .inr ⟨x, rfl⟩
theorem span_eq : ∀ {u v x y : List Nat}, NoB u → NoB v → Bl x → Bl y → u ++ x = v ++ y → u = v ∧ x = y
  | [], [], x, y, _, _, _, _, h => ⟨rfl, h⟩
  | [], b :: v, x, y, _, hv, hx, _, h => by
    exfalso
    rcases hx with rfl | ⟨z, rfl⟩
    · cases h
    · have := hv b (by simp)
      simp only [List.nil_append, List.cons_append, List.cons.injEq] at h
      exact this h.1.symm
  | a :: u, [], x, y, hu, _, _, hy, h => by
    exfalso
    rcases hy with rfl | ⟨z, rfl⟩
    · cases h
    · have := hu a (by simp)
      simp only [List.nil_append, List.cons_append, List.cons.injEq] at h
      exact this h.1
  | a :: u, b :: v, x, y, hu, hv, hx, hy, h => by
    simp only [List.cons_append, List.cons.injEq] at h
    obtain ⟨h1, h2⟩ := span_eq (fun d hd => hu d (by simp [hd])) (fun d hd => hv d (by simp [hd])) hx hy h.2
    exact ⟨by rw [h.1, h1], h2⟩
theorem nob_wd (o : Wd) : NoB (cl o.word) := by cases o <;> (unfold NoB; decide +kernel)
theorem nob_num : NoB (cl "num") := by unfold NoB; decide +kernel
theorem nob_name : NoB (cl "name") := by unfold NoB; decide +kernel
theorem nob_ask : NoB (cl "ask") := by unfold NoB; decide +kernel
theorem nob_say : NoB (cl "say") := by unfold NoB; decide +kernel
theorem wd_ne (o : Wd) : cl o.word ≠ cl "num" ∧ cl o.word ≠ cl "name" ∧ cl o.word ≠ cl "ask" ∧ cl o.word ≠ cl "say" := by cases o <;> decide +kernel
theorem wd_inj {o p : Wd} (h : cl o.word = cl p.word) : o = p := by
  revert h
  cases o <;> cases p <;> decide +kernel
theorem nob_dg {n : Int} (h0 : 0 ≤ n) (h1 : n < 1000) : NoB (cl (dgS n)) := fun d hd => by
  have := (dg_ok h0 h1).1 d hd
  omega
theorem dg_inj {n m : Int} (h0 : 0 ≤ n) (h1 : n < 1000) (k0 : 0 ≤ m) (k1 : m < 1000) (h : cl (dgS n) = cl (dgS m)) : n = m := by
  rw [← (dg_ok h0 h1).2.1, ← (dg_ok k0 k1).2.1, h]
/-- word and rest -/
def Sm.fw : Sm → List Nat
  | .num _ => cl "num"
  | .nam _ => cl "name"
  | .ask => cl "ask"
  | .say _ => cl "say"
  | .bin o _ _ => cl o.word
def Sm.fr : Sm → List Nat
  | .num n => 32 :: cl (dgS n)
  | .nam c => 32 :: [c]
  | .ask => []
  | .say a => 32 :: cl a.face
  | .bin o a b => 32 :: (cl a.face ++ 32 :: cl b.face)
theorem fc_eq (s : Sm) : cl s.face = s.fw ++ s.fr := by
  cases s with
  | num n => exact fc_num n
  | nam n => exact fc_nam n
  | ask => exact fc_ask
  | say a => exact fc_say a
  | bin o a b => exact fc_bin o a b
def tagOf (l : List Nat) : Nat := if l = cl "num" then 0 else if l = cl "name" then 1 else if l = cl "ask" then 2 else if l = cl "say" then 3 else 4
def Sm.tag : Sm → Nat
  | .num _ => 0
  | .nam _ => 1
  | .ask => 2
  | .say _ => 3
  | .bin _ _ _ => 4
theorem tag_fw (s : Sm) : tagOf s.fw = s.tag := by
  cases s with
  | bin o a b => cases o <;> rfl
  | _ => rfl
theorem tag_ne {s t : Sm} (h : s.fw = t.fw) : s.tag = t.tag := by rw [← tag_fw, ← tag_fw, h]
theorem fw_nob (s : Sm) : NoB s.fw := by
  cases s with
  | num n => exact nob_num
  | nam n => exact nob_name
  | ask => exact nob_ask
  | say a => exact nob_say
  | bin o a b => exact nob_wd o
theorem fr_bl (s : Sm) {x : List Nat} (hx : Bl x) : Bl (s.fr ++ x) := by
  cases s <;> first | exact hx | exact bl_cons _
theorem face_inj : ∀ (s t : Sm) (x y : List Nat), s.ok → t.ok → Bl x → Bl y → cl s.face ++ x = cl t.face ++ y → s = t ∧ x = y := by
  intro s
  induction s with
  | num n =>
    intro t x y hs ht hx hy h
    rw [fc_eq, fc_eq, List.append_assoc, List.append_assoc] at h
    obtain ⟨h1, h2⟩ := span_eq (fw_nob _) (fw_nob _) (fr_bl _ hx) (fr_bl _ hy) h
    cases t with
    | num m =>
      simp only [Sm.fr, List.cons_append, List.cons.injEq, true_and] at h2
      obtain ⟨h3, h4⟩ := span_eq (nob_dg hs.1 hs.2) (nob_dg ht.1 ht.2) hx hy h2
      exact ⟨by rw [dg_inj hs.1 hs.2 ht.1 ht.2 h3], h4⟩
    | _ => exact absurd (tag_ne h1) (by simp [Sm.tag])
  | nam c =>
    intro t x y hs ht hx hy h
    rw [fc_eq, fc_eq, List.append_assoc, List.append_assoc] at h
    obtain ⟨h1, h2⟩ := span_eq (fw_nob _) (fw_nob _) (fr_bl _ hx) (fr_bl _ hy) h
    cases t with
    | nam m =>
      simp only [Sm.fr, List.cons_append, List.nil_append, List.cons.injEq, true_and] at h2
      exact ⟨by rw [h2.1], h2.2⟩
    | _ => exact absurd (tag_ne h1) (by simp [Sm.tag])
  | ask =>
    intro t x y hs ht hx hy h
    rw [fc_eq, fc_eq, List.append_assoc, List.append_assoc] at h
    obtain ⟨h1, h2⟩ := span_eq (fw_nob _) (fw_nob _) (fr_bl _ hx) (fr_bl _ hy) h
    cases t with
    | ask => exact ⟨rfl, h2⟩
    | _ => exact absurd (tag_ne h1) (by simp [Sm.tag])
  | say a ih =>
    intro t x y hs ht hx hy h
    rw [fc_eq, fc_eq, List.append_assoc, List.append_assoc] at h
    obtain ⟨h1, h2⟩ := span_eq (fw_nob _) (fw_nob _) (fr_bl _ hx) (fr_bl _ hy) h
    cases t with
    | say b =>
      simp only [Sm.fr, List.cons_append, List.cons.injEq, true_and] at h2
      obtain ⟨h3, h4⟩ := ih b x y hs ht hx hy h2
      exact ⟨by rw [h3], h4⟩
    | _ => exact absurd (tag_ne h1) (by simp [Sm.tag])
  | bin o a b iha ihb =>
    intro t x y hs ht hx hy h
    rw [fc_eq, fc_eq, List.append_assoc, List.append_assoc] at h
    obtain ⟨h1, h2⟩ := span_eq (fw_nob _) (fw_nob _) (fr_bl _ hx) (fr_bl _ hy) h
    cases t with
    | bin p c d =>
      simp only [Sm.fr, List.cons_append, List.cons.injEq, true_and, List.append_assoc] at h2
      obtain ⟨h3, h4⟩ := iha c _ _ hs.1 ht.1 (bl_cons _) (bl_cons _) h2
      simp only [List.cons.injEq, true_and] at h4
      obtain ⟨h5, h6⟩ := ihb d x y hs.2 ht.2 hx hy h4
      have h7 := wd_inj h1
      exact ⟨by rw [h7, h3, h5], h6⟩
    | num n => exact absurd h1 (wd_ne o).1
    | nam n => exact absurd h1 (wd_ne o).2.1
    | ask => exact absurd h1 (wd_ne o).2.2.1
    | say a => exact absurd h1 (wd_ne o).2.2.2
theorem face_eq {s t : Sm} (hs : s.ok) (ht : t.ok) : s.face = t.face ↔ s = t := ⟨fun h => (face_inj s t [] [] hs ht (.inl rfl) (.inl rfl) (by rw [h])).1, fun h => by rw [h]⟩
theorem face_len : ∀ s : Sm, s.ok → s.face.length ≤ 10 * s.sz
  | .num n, h => by
    show (cl (Sm.num n).face).length ≤ _
    have := (dg_ok h.1 h.2).2.2
    rw [fc_num, List.length_append, List.length_cons, show (cl "num").length = 3 by rfl]
    simp only [Sm.sz]
    omega
  | .nam c, h => by
    show (cl (Sm.nam c).face).length ≤ _
    rw [fc_nam, List.length_append, List.length_cons, show (cl "name").length = 4 by rfl]
    simp [Sm.sz]
  | .ask, h => by
    show (cl Sm.ask.face).length ≤ _
    rw [fc_ask, List.length_append, show (cl "ask").length = 3 by rfl]
    simp [Sm.sz]
  | .say a, h => by
    show (cl (Sm.say a).face).length ≤ _
    have h1 : (cl a.face).length ≤ 10 * a.sz := face_len a h
    rw [fc_say, List.length_append, List.length_cons, show (cl "say").length = 3 by rfl]
    simp only [Sm.sz]
    omega
  | .bin o a b, h => by
    show (cl (Sm.bin o a b).face).length ≤ _
    have h1 : (cl a.face).length ≤ 10 * a.sz := face_len a h.1
    have h2 : (cl b.face).length ≤ 10 * b.sz := face_len b h.2
    have h3 : (cl o.word).length ≤ 5 := by cases o <;> decide +kernel
    rw [fc_bin, List.length_append, List.length_cons, List.length_append, List.length_cons]
    simp only [Sm.sz]
    omega
theorem log2_small {n : Int} (h0 : 0 ≤ n) (h1 : n < 1000) : n.natAbs.log2 < 1920 := by
  by_cases e : n.natAbs = 0
  · rw [e]; decide
  · exact Nat.lt_of_lt_of_le ((Nat.log2_lt e).mpr (show n.natAbs < 2 ^ 10 by omega)) (by decide)
theorem look_none {kn : List (Sm × Nat)} {s : Sm} (h : look kn s = none) : ∀ p ∈ kn, p.1 ≠ s := fun p hp e => by
  unfold look at h
  cases z : kn.find? (fun p => decide (p.1 = s)) with
  | none =>
    have := List.find?_eq_none.mp z p hp
    exact this (decide_eq_true e)
  | some q => rw [z] at h; cases h
structure KnOk (S : OS) : Prop where
  ok : ∀ p ∈ S.2, p.1.ok
  le : S.2.length ≤ S.1.length
theorem fin1_kn {s : Sm} {t : Stp} {S : OS} (h : KnOk S) (hs : s.ok) : KnOk (fin1 s t S).1 := by
  refine ⟨fun p hp => ?_, ?_⟩
  · unfold fin1 at hp
    dsimp only at hp
    split at hp
    · exact h.ok p hp
    · rcases List.mem_append.mp hp with hp | hp
      · exact h.ok p hp
      · rw [List.mem_singleton.mp hp]; exact hs
  · have := h.le
    unfold fin1
    dsimp only
    rw [List.length_append, List.length_singleton]
    split
    · omega
    · rw [List.length_append, List.length_singleton]; omega
theorem ons_kn : ∀ (s : Sm) (S : OS), s.ok → KnOk S → KnOk (s.ons S).1
  | .num v, S, h, i => by
    unfold Sm.ons
    split
    · exact i
    · exact fin1_kn i h
  | .nam v, S, h, i => by
    unfold Sm.ons
    split
    · exact i
    · exact fin1_kn i h
  | .ask, S, h, i => by
    unfold Sm.ons
    split
    · exact i
    · exact fin1_kn i h
  | .say a, S, h, i => by
    unfold Sm.ons
    split
    · exact i
    · exact fin1_kn (ons_kn a S h i) h
  | .bin o a c, S, h, i => by
    unfold Sm.ons
    split
    · exact i
    · exact fin1_kn (ons_kn c _ h.2 (ons_kn a S h.1 i)) h
theorem ons_len : ∀ (s : Sm) (S : OS), (s.ons S).1.1.length ≤ S.1.length + s.sz
  | .num v, S => by
    unfold Sm.ons
    split
    · simp
    · simp [fin1, Sm.sz]
  | .nam v, S => by
    unfold Sm.ons
    split
    · simp
    · simp [fin1, Sm.sz]
  | .ask, S => by
    unfold Sm.ons
    split
    · simp
    · simp [fin1, Sm.sz]
  | .say a, S => by
    have := ons_len a S
    unfold Sm.ons
    split
    · simp
    · simp only [fin1, List.length_append, List.length_singleton, Sm.sz]; omega
  | .bin o a c, S => by
    have := ons_len a S
    have := ons_len c (a.ons S).1
    unfold Sm.ons
    split
    · simp
    · simp only [fin1, List.length_append, List.length_singleton, Sm.sz]; omega
theorem look_none_of {kn : List (Sm × Nat)} {s : Sm} (h : ∀ p ∈ kn, p.1 ≠ s) : look kn s = none := by
  unfold look
  rw [List.find?_eq_none.mpr fun p hp => by simpa using h p hp]
  rfl
theorem fin1_new {s : Sm} {t : Stp} {S S2 : OS} (h : ∀ p ∈ S2.2, p ∈ S.2 ∨ p.1.sz ≤ s.sz) : ∀ p ∈ (fin1 s t S2).1.2, p ∈ S.2 ∨ p.1.sz ≤ s.sz := fun p hp => by
  unfold fin1 at hp
  dsimp only at hp
  split at hp
  · exact h p hp
  · rcases List.mem_append.mp hp with hp | hp
    · exact h p hp
    · rw [List.mem_singleton.mp hp]; exact .inr (Nat.le_refl _)
theorem ons_new : ∀ (s : Sm) (S : OS), ∀ p ∈ (s.ons S).1.2, p ∈ S.2 ∨ p.1.sz ≤ s.sz
  | .num v, S => by
    unfold Sm.ons
    split
    · exact fun p hp => .inl hp
    · exact fin1_new fun p hp => .inl hp
  | .nam v, S => by
    unfold Sm.ons
    split
    · exact fun p hp => .inl hp
    · exact fin1_new fun p hp => .inl hp
  | .ask, S => by
    unfold Sm.ons
    split
    · exact fun p hp => .inl hp
    · exact fin1_new fun p hp => .inl hp
  | .say a, S => by
    have h := ons_new a S
    unfold Sm.ons
    split
    · exact fun p hp => .inl hp
    · refine fin1_new fun p hp => (h p hp).imp id fun z => ?_
      simp only [Sm.sz]
      omega
  | .bin o a c, S => by
    have h := ons_new a S
    have h2 := ons_new c (a.ons S).1
    unfold Sm.ons
    split
    · exact fun p hp => .inl hp
    · refine fin1_new fun p hp => ?_
      simp only [Sm.sz]
      rcases h2 p hp with z | z
      · exact (h p z).imp id fun z => by omega
      · exact .inr (by omega)
theorem ons_say {a : Sm} {S : OS} (h : look S.2 (.say a) = none) : (Sm.say a).ons S = fin1 (.say a) (.say (a.ons S).1.1.length (a.ons S).2) (a.ons S).1 := by
  rw [Sm.ons]
  rw [h]
theorem ons_bin {o : Wd} {a c : Sm} {S : OS} (h : look S.2 (.bin o a c) = none) : (Sm.bin o a c).ons S = fin1 (.bin o a c) (.bin (c.ons (a.ons S).1).1.1.length o (a.ons S).2 (c.ons (a.ons S).1).2) (c.ons (a.ons S).1).1 := by
  rw [Sm.ons]
  rw [h]
/-- the dict of what is known -/
def kdOf (kn : List (Sm × Nat)) : List (Key × D) := kn.map fun p => (.inr p.1.face, .int (p.2 : Nat))
theorem kd_val : ∀ (kn : List (Sm × Nat)) (s : Sm), (∀ p ∈ kn, p.1.ok) → s.ok → valD (kdOf kn) (.inr s.face) = (look kn s).map fun b => D.int (b : Nat)
  | [], s, _, _ => rfl
  | p :: kn, s, h, hs => by
    have ih := kd_val kn s (fun q hq => h q (by simp [hq])) hs
    have hp := h p (by simp)
    show valD ((.inr p.1.face, .int (p.2 : Nat)) :: kdOf kn) _ = _
    rw [valD_cons, ih]
    unfold look
    rw [List.find?_cons]
    by_cases e : p.1 = s
    · rw [if_pos (by rw [e]), decide_eq_true e]
      rfl
    · rw [if_neg (fun z => e ((face_eq hp hs).mp (Sum.inr.inj z))), decide_eq_false e]
theorem kd_put {kn : List (Sm × Nat)} {s : Sm} {b : Nat} (h : ∀ p ∈ kn, p.1.ok) (hs : s.ok) (hl : look kn s = none) : putD (kdOf kn) (.inr s.face) (.int (b : Nat)) = kdOf (kn ++ [(s, b)]) := by
  have := kd_val kn s h hs
  rw [hl] at this
  unfold putD
  rw [← valD_some, this]
  unfold kdOf
  rw [List.map_append]
  rfl
structure Tells (s : Sm) (l : List Stp) : Prop where
  ne : l ≠ []
  len : l.length ≤ s.sz
  ok : okSt [] l
  ask : nAsk l = s.asks
  run : ∀ nm gv, runR nm gv l = s.run nm gv 0
theorem lst_len' (s : Sm) (b : Int) : (s.lst b).length = s.sz := by
  have := lsteps_len s b
  rw [← lst_enc, List.length_map] at this
  exact this
theorem tst_len' (s : Sm) (b : Int) : (s.tst b).length = s.sz := by
  have := tights_len s b
  rw [← tst_enc, List.length_map] at this
  exact this
theorem cst_len' (s : Sm) (b : Int) : (s.cst b).length = s.sz := by
  have := cuts_len s b
  rw [← cst_enc, List.length_map] at this
  exact this
theorem ne_of_len {l : List Stp} {s : Sm} (h : l.length = s.sz) : l ≠ [] := fun z => by
  have := s.sz_pos
  rw [z] at h
  simp at h
  omega
theorem tells_lst {s : Sm} (g : s.good) : Tells s (s.lst 0) := ⟨ne_of_len (lst_len' s 0), Nat.le_of_eq (lst_len' s 0), lst_ok s 0 [] g.ok (Int.le_refl 0) (by have := g.dp; omega), does_ask_n (lst_does (nm := fun _ => 0) (gv := fun _ => 0) s 0), fun nm gv => does_run (lst_does s 0) (lst_lastB s 0)⟩
theorem tells_tst {s : Sm} (g : s.good) : Tells s (s.tst 0) := ⟨ne_of_len (tst_len' s 0), Nat.le_of_eq (tst_len' s 0), tst_ok s 0 [] g.ok (Int.le_refl 0) (by have := g.dp; omega), does_ask_n (tst_does (nm := fun _ => 0) (gv := fun _ => 0) s 0), fun nm gv => does_run (tst_does s 0) (tst_lastB s 0)⟩
theorem tells_cst {s : Sm} (g : s.good) : Tells s (s.cst 0) := ⟨ne_of_len (cst_len' s 0), Nat.le_of_eq (cst_len' s 0), cst_ok s 0 [] g.ok (Int.le_refl 0) (by have := g.sz; omega), does_ask_n (cst_does (nm := fun _ => 0) (gv := fun _ => 0) s 0), fun nm gv => does_run (cst_does s 0) (cst_lastB s 0)⟩
theorem tells_one {s : Sm} (g : s.good) : Tells s s.one where
  ne := fun z => by
    have := (one_len g.ok).2
    rw [z] at this
    exact absurd this (by decide)
  len := (one_len g.ok).1
  ok := one_ok g.ok (by have := g.sz; omega)
  ask := one_ask g.ok
  run := fun nm gv => one_run g.ok
end DL

/-! What may be refused: raise, a lambda handed to the law's own asker -/
namespace DL
open PySem PySem.Spec PyProof.Rows L2
/-! ### raise -/
def tRaise (E : XK) (C : Addr) : TS := fun _ _ H => E (.ref C) none H
structure EK (K : PySem.W.Frag) (mg : Str → Option Value) (x : Str) (C : Addr) : Prop where
  ex : PySem.W.excIn K C [.type "ValueError", .type "Exception", .type "BaseException", .type "object"] "ValueError.__new__" = true
  gl : mg x = some (.ref C)
  kp : PySem.W.keepIn K (.ref C) = true
  sb : PySem.W.subIn K (.ref C) (.type "BaseException") = some true
  ty : PySem.W.typeIn K (.ref C) = some (.type "type")
theorem ps_raise1 {X : Cx} {E : XK} {C : Addr} {x m : Str} {j : Nat} {p p2 pos pos2 : Pos} (tk : Takes X (fun cls d _ H => E cls d H)) (e : EK X.K X.mg x C) (hg : Gl X x) (hc : X.calm = true := by rfl) (hdb : (x == ("__debug__" : Str)) = false := by decide) :
    PS X (.Raise (some (.Call (.Name x p) [.Constant (.str m) j p2] [] pos)) none pos2) (tRaise E C) :=
  ps_raise hc tk (pmk_own PySem.F.excBase_ValueError e.ex e.gl e.kp (raises_own e.sb e.ty) hg hdb)
theorem ds_raise {P : Pr} {C : Addr} {G : DEnds} {ε : DSt} {M : Mp} (h : P.X (.ref C) none M) : DS P (tRaise P.E C) G ε M := fun σ H E a l => a.link (.ref C) none M H a.good (Ext.refl M H) h
/-! ### count of flat items -/
def rCountF (K : PySem.W.Frag) : V → List V → Hp → VK → Prop := fun x xs H Q => ∃ (a : Addr) (ys : List V) (y : V), x = V.ref a ∧ xs = [y] ∧ SqL K H a ys ∧ flatV y = true ∧ ys.all flatV = true ∧ Q (.int ((ys.countP fun z => eqV z y : Nat) : Int)) H
theorem countU {y : V} {uy : Value} (ry : RelV y uy) : ∀ {ys : List V} {us : List Value}, Vals ys us → ys.all flatV = true → us.countP (eqU y) = ys.countP fun z => eqV z y
  | _, _, .nil, _ => rfl
  | z :: ys, u :: us, .cons r t, f => by
    rw [List.all_cons, Bool.and_eq_true] at f
    rw [List.countP_cons, List.countP_cons, countU ry t f.2, eqU_of r f.1]
theorem mt_countF {X : Cx} : MtR X "list.count" (rCountF X.K) := by
  intro pins s σ H x xs v us Q I rx rxs h
  obtain ⟨a, ys, y, rfl, rfl, hs, fy, fys, q⟩ := h
  cases rx
  cases rxs with
  | cons ry rt =>
    rename_i uy ut
    cases rt
    obtain ⟨its, rv, ⟨⟨cls, dd, data, sl⟩, n, ho, hc, hdn, hd⟩, hlen⟩ := I.list hs
    simp only at hc hd
    subst hc hd
    refine call_meets PySem.F.slot_list_count ⟨_, ho, rfl⟩ PySem.F.entry_list_count (PySem.F.args_list_count_2 _ _) (SeqAt.list_countAt a its.toArray n dd sl uy (eqU y)) ⟨ho, fun w hw => mem_eqAt ry fy rv fys w (by simpa using hw), ?_⟩
    have e : its.toArray.toList.countP (eqU y) = ys.countP fun z => eqV z y := countU ry rv fys
    rw [e]
    exact ⟨.int _, H, I.tok _, ⟨_, rfl⟩, q⟩
theorem mt_countFk {X : Cx} (K : PySem.W.Frag) (h : X.K = K := by rfl) : MtR X "list.count" (rCountF K) := by subst h; exact mt_countF
theorem mt_indexk {X : Cx} (K : PySem.W.Frag) (h : X.K = K := by rfl) : MtR X "list.index" (rIndex K) := by subst h; exact mt_index
section
variable {P : Pr} {M : Mp} {Q : D → Mp → Prop}
theorem dm_count {x y : D} {xs : List D} (hx : IsL M x xs) (fx : xs.all flatD = true) (fy : flatD y = true) (q : Q (.int (((xs.map flatOf).countP fun z => eqV z (flatOf y) : Nat) : Int)) M) : DM P (rCountF P.K) x [y] M Q := by
  intro vx vs H R rx rs gd k
  obtain ⟨v, rfl, t⟩ := trs1 rs
  obtain ⟨p, ws, rfl, h1, h2⟩ := hx.at rx gd
  obtain ⟨e1, f1⟩ := flat_trs fx h2
  obtain ⟨e2, f2⟩ := flat_tr fy t
  subst e1 e2
  exact ⟨p, _, _, rfl, rfl, SqL.of h1, f2, f1, k.here (.int _) gd q⟩
theorem dm_index {x y : D} {xs : List D} {j : Nat} {z : D} (hx : IsL M x xs) (fx : xs.all flatD = true) (fy : flatD y = true) (hj : xs[j]? = some z) (he : eqV (flatOf z) (flatOf y) = true) (hn : ∀ (m : Nat) (z' : D), m < j → xs[m]? = some z' → eqV (flatOf z') (flatOf y) = false) (q : Q (.int (j : Nat)) M) : DM P (rIndex P.K) x [y] M Q := by
  intro vx vs H R rx rs gd k
  obtain ⟨v, rfl, t⟩ := trs1 rs
  obtain ⟨p, ws, rfl, h1, h2⟩ := hx.at rx gd
  obtain ⟨e1, f1⟩ := flat_trs fx h2
  obtain ⟨e2, f2⟩ := flat_tr fy t
  subst e1 e2
  refine ⟨p, _, _, j, flatOf z, rfl, rfl, SqL.of h1, f2, f1, by rw [List.getElem?_map, hj]; rfl, he, fun m z' hm hz => ?_, k.here (.int _) gd q⟩
  rw [List.getElem?_map] at hz
  cases e : xs[m]? with
  | none => rw [e] at hz; cases hz
  | some d => rw [e] at hz; cases hz; exact hn m d hm e
end
/-! ### a lambda is made: one table grows -/
structure Grow (H H1 : Hp) (p : Addr) (q : Str) (ps ps1 : Array Value) (c1 : Addr) : Prop where
  els : ∀ b, b ≠ p → b ≠ c1 → H1 b = H b
  new : H c1 = none ∨ (H1 = H ∧ ps1 = ps)
  tab : H1 p = some (.tbl ps1)
  tri : TriplesOk ps1.toList
  cod : ∀ (pos : Pos) (cv : Value), codeAmong pos ps1.toList = some cv → codeAmong pos ps.toList = some cv ∨ (cv = .ref c1 ∧ H1 c1 = some (LamX.CodeO c1 q) ∧ H c1 = none)
section
variable {X : Cx} {pins : List (Addr × Obj)} {σ : L2.St} {H : Hp} {s : Shared}
theorem lam_made {c p : Addr} {prm : Arguments} {bdy : Expr} {scp : Scope} {pos : Pos} {ps : Array Value} {E : Value → Shared → Prop} {Q : Value → Shared → Prop} (I : Inv X pins σ H s) (B : LamX.TabB X.base X.mg c p) (hcode : X.env.code = .ref c) (hp : H p = some (.tbl ps)) (htr : TriplesOk ps.toList)
    (hcod : ∀ (pos : Pos) (cv : Value), codeAmong pos ps.toList = some cv → ∃ d, cv = .ref d ∧ H d = some (LamX.CodeO d (X.env.qual ++ "<lambda>"))) (hdf : defaultsOf prm X.env = ([], [])) (hfr : ∀ y ∈ scp.names, y.2 = .free → ∃ d, X.env.cells.lookup y.1 = some d)
    (go : ∀ (f c1 : Addr) (m1 m2 : Value) (H1 : Hp) (ps1 : Array Value) (s1 : Shared), Inv X pins σ H1 s1 → Grow H H1 p (X.env.qual ++ "<lambda>") ps ps1 c1 →
      s1.heap.get? f = some (PySem.W.kla_obj "<lambda>" (X.env.qual ++ "<lambda>") prm bdy scp (cloFrom X.env.cells scp.names []) m1 c1 m2) → H1 f = none → f ∉ frs X.stack → H1 c1 = some (LamX.CodeO c1 (X.env.qual ++ "<lambda>")) → Q (.ref f) s1) :
    wpAny (model X.prog X.w) X.A (eval (.Lambda prm bdy scp pos) X.env) Q E s := by
  refine PySem.W.kla_eval hdf ?_
  have hbi := B.bm.keeps I.bk
  have hpo : s.heap.get? p = some { cls := .none, data := .fields ps } := I.hok p _ hp
  have out : ∀ g, s.heap.objs.size ≤ g → g ∉ frs X.stack := fun g hg hin => by
    rcases List.mem_cons.mp (I.stkSub _ hin) with z | z
    · have := I.lt
      rw [← z] at this
      exact absurd hg (Nat.not_le_of_lt this)
    · exact I.nofs hg z
  cases hit : codeAmong pos ps.toList with
  | some cv =>
    obtain ⟨d, rfl, hd⟩ := hcod pos cv hit
    refine PySem.W.kla_makeFunctionHit (mg := X.mg) (c := c) (P := p) (ps := ps) (closure_ok hfr) I.ok.glob (I.mod.glob.keeps I.bk) hcode (B.code.keeps I.bk) hpo htr hit hbi fun m2 h2 tk keep hsz => ?_
    refine go h2.objs.size d _ m2 H ps _ (I.kept fun b o e => Heap.get?_push_of_some _ (keep b o e)) ⟨fun _ _ _ => rfl, .inr ⟨rfl, rfl⟩, hp, htr, fun _ _ e => .inl e⟩ (Heap.get?_push_size _ rfl) (I.hok.fresh hsz) (out _ hsz) hd
  | none =>
    refine PySem.W.kla_makeFunction (mg := X.mg) (c := c) (P := p) (ps := ps) (closure_ok hfr) I.ok.glob (I.mod.glob.keeps I.bk) hcode (B.code.keeps I.bk) hpo htr hit B.gP hbi fun d m2 h2 tk keep hge hlt hrec htb => ?_
    obtain ⟨d2, od, vs, t, e2, hod, hd, hv⟩ := hrec
    cases e2
    have hsz : s.heap.objs.size ≤ h2.objs.size := Nat.le_trans hge (Nat.le_of_lt hlt)
    have hn : H d = none := I.hok.fresh hge
    have hdp : p ≠ d := ne_of_none hp hn
    have J := LamX.inv_table (t' := tk) (more := #[rawInt pos.line, rawInt pos.col, .ref d]) (h' := h2.push (PySem.W.kla_obj "<lambda>" (X.env.qual ++ "<lambda>") prm bdy scp (cloFrom X.env.cells scp.names []) ((X.mg "__name__").getD .none) d m2)) I hp (fun b o hb e => Heap.get?_push_of_some _ (keep b o hb e)) (Heap.get?_push_of_some _ htb) hge ⟨od, vs, t, Heap.get?_push_of_some _ hod, hd, hv⟩
    refine go h2.objs.size d _ m2 _ _ _ J ⟨fun b h1 h3 => by rw [upd_ne h3, upd_ne h1], .inl hn, by rw [upd_ne hdp, upd_same], ?_, fun p2 cv hc => ?_⟩ (Heap.get?_push_size _ rfl) ?_ (out _ hsz) upd_same
    · have := PySem.TriplesOk_snoc pos.line pos.col (.ref d) ps.toList htr
      simpa using this
    · have hc' : codeAmong p2 (ps.toList ++ [rawInt pos.line, rawInt pos.col, .ref d]) = some cv := by simpa using hc
      rcases LamX.among_app ps.toList htr hc' with z | z
      · exact .inl z
      · exact .inr ⟨z, upd_same, hn⟩
    · have n1 : h2.objs.size ≠ d := Nat.ne_of_gt hlt
      have n2 : h2.objs.size ≠ p := Nat.ne_of_gt (Nat.lt_of_lt_of_le (Heap.lt_size hpo) hsz)
      rw [upd_ne n1, upd_ne n2]
      exact I.hok.fresh hsz
end
/-! ### what the asker makes of it -/
abbrev Gv := (XK → Hp → VK → Prop) → Hp → VK → Prop
def tKind (p : Addr) (q : Str) (TT : Gv) (t : XK → TE) : TE := fun σ H Q => ∃ ps : Array Value, H p = some (.tbl ps) ∧ TriplesOk ps.toList ∧ (∀ (pos : Pos) (cv : Value), codeAmong pos ps.toList = some cv → ∃ d, cv = .ref d ∧ H d = some (LamX.CodeO d q)) ∧
  ∀ (H1 : Hp) (c1 : Addr) (ps1 : Array Value), Grow H H1 p q ps ps1 c1 → TT (fun E H' Q' => t E σ H' Q') H1 Q
section
variable {X : Cx}
theorem pe_kind {TT : Gv} {x a : Str} {g c p : Addr} {k : Nat} {pg : Arguments} {bg : List Stmt} {sg : Scope} {dV kV doc pm cdv ct oc : Value} {an od : Option Addr} {osl : Array (Option Value)} {Ng : List Str} {prm : Arguments} {bdy : Expr} {scp : Scope} {t : XK → TE} {p1 lp pos : Pos}
    (hg : Gl X x) (hm : X.mg x = some (.ref g)) (hk : PySem.W.keepIn X.K (.ref g) = true) (lk : X.K.lookup g = some ⟨oc, od, .func (PySem.W.fnOf x x pg bg sg dV kV doc pm an cdv ct), osl⟩) (hcg : PySem.W.codeIn X.K cdv x = true)
    (hb : L2.Binds X.K (PySem.W.fnOf x x pg bg sg dV kV doc pm an cdv ct) [a] []) (Sg : FnScope Ng [a] sg) (hNg : Ng[0]? = some a) (hva : Vis sg a) (hG : LamX.GivesTo X Ng x sg g cdv bg a (X.env.qual ++ "<lambda>") TT)
    (B : LamX.TabB X.base X.mg c p) (hcode : X.env.code = .ref c) (hr : Room (k + 2) X.A) (L : LamX.LamS X.env.scope scp) (hdf : defaultsOf prm X.env = ([], []))
    (hbd : ∀ (q : Str) (l : List (Str × Addr)) (m1 m2 m3 : Value), bindArgs (PySem.W.kla_fn "<lambda>" q prm bdy scp l m1 m2 m3) ⟨[], []⟩ = pure [])
    (hbody : ∀ (A : Around) (outer : List Env) (s : Shared) (H : Hp) (E : XK) (f c1 : Addr), Room k (A.deeper (LamX.lamEnv X scp s.heap.objs.size f c1)) → PE (LamX.lamCx X A outer s H E scp f c1) bdy (t E))
    (hdb : (x == ("__debug__" : Str)) = false := by decide) (hd : (a == ("__debug__" : Str)) = false := by decide) (hcd : (a == ("__classdict__" : Str)) = false := by decide) :
    PE X (.Call (.Name x p1) [.Lambda prm bdy scp lp] [] pos) (tKind p (X.env.qual ++ "<lambda>") TT t) := by
  refine ⟨fun pins s σ H Q I ⟨ps, hp, htr, hcod, h⟩ => wpAny_Call_Name_kw (ld_glob I hg hm (PySem.W.callWith_K (h₀ := X.base) I.ok.mod.kin hk ?_ (by rfl) (by rfl)) hdb)⟩
  refine Calls.spliced_cons (lam_made I B hcode hp htr hcod hdf (L.has I.ok) fun f c1 m1 m2 H1 ps1 s1 J grow hf hfn hff hc1 => ?_)
  refine Calls.spliced_nil ⟨J.kIn, wpAny_call (codeAny_mono (R := CR C8.CX0 X.stack X.prog X.w H1 s1 Q C8.E0) ?_ fun r s2 hq => ?_)⟩
  · exact LamX.run_ofS (CX := C8.CX0) (E := C8.E0) (Q := Q) (H := H1) (N := Ng) (ps := [a]) (us := [.ref f]) (vs := [.ref f]) lk hcg Sg hr J.env0 (hb s1 [.ref f] J.kIn rfl) (.cons rfl .nil) rfl fun hr2 => by
      obtain ⟨t2, h1, h2⟩ := hG f c1 s1 H1 Q (fun E H' Q' => t E σ H' Q') (fun W pn xe E q1 q2 tk hW => LamX.pe_act (i := 0) J L hf hfn hff (hbd _ _ _ _ _) tk hW hr2 (fun A outer s H hr3 => hbody A outer s H E f c1 hr3) hNg hva hd hcd) hc1 (h H1 c1 ps1 grow)
      exact ⟨t2, h1.nox, h2⟩
  match r, hq with
  | .error e, hq => exact (show False from hq).elim
  | .ok (.ret u), hq => exact J.after hq
  | .ok .next, hq => exact False.elim hq
  | .ok .brk, hq => exact False.elim hq
  | .ok .cont, hq => exact False.elim hq
end
theorem pss_ex {X : Cx} {b : List Stmt} {α : Type} {Pp : α → Prop} {t : α → TS} (h : ∀ x, Pp x → PSs X b (t x)) : PSs X b (fun D σ H => ∃ x, Pp x ∧ t x D σ H) := ⟨fun pins s σ H D I ⟨x, hx, z⟩ => (h x hx).run pins s σ H D I z⟩
/-- a class of refusals as the law's own asker knows it: its word -/
structure KindC (K : PySem.W.Frag) (CS : Addr) (ks : List Addr) (bs : List Bool) (C : Addr) : Prop where
  ec : ExcC K C
  ex : PySem.W.exmOne K (.ref C) (.ref CS) = some true
  is : ∀ (j : Nat) (k : Addr) (b : Bool), ks[j]? = some k → bs[j]? = some b → PySem.W.kitOne K (.ref C) (.ref k) = some b
  ve : PySem.W.kitOne K (.ref C) (.type "ValueError") = some true
section
variable {P : Pr} {M : Mp} {Q : D → Mp → Prop}
theorem call_isEk {X : Cx} {a D : Addr} {oe : Obj} {pn : List (Addr × Obj)} (K : PySem.W.Frag) (C : ExcC X.K D) (hz : Zc (.ref D) none oe) (hf : ∃ vs, oe.data = .fields vs) (h : X.K = K := by rfl) : CallR (X.suite a ((a, oe) :: pn)) (.builtin "isinstance") (rIsE K D a) := by subst h; exact call_isE C hz hf
theorem dl_isE {C a k : Addr} {b : Bool} (h : PySem.W.kitOne P.K (.ref C) (.ref k) = some b) (q : Q (.bl b) M) : DL' P (rIsE P.K C a) [.val (.ref a), .val (.ref k)] M Q := by
  intro vs H R r gd kk
  obtain ⟨v, w, rfl, t1, t2⟩ := trs2 r
  cases tr_val t1
  cases tr_val t2
  exact ⟨.ref k, .ref k, b, rfl, fun u r => r, h, kk.here (.bl _) gd q⟩
theorem dl_isEt {C a : Addr} {T : String} {b : Bool} (h : PySem.W.kitOne P.K (.ref C) (.type T) = some b) (q : Q (.bl b) M) : DL' P (rIsE P.K C a) [.val (.ref a), .val (.ty T)] M Q := by
  intro vs H R r gd kk
  obtain ⟨v, w, rfl, t1, t2⟩ := trs2 r
  cases tr_val t1
  cases tr_val t2
  exact ⟨.ty T, .type T, b, rfl, fun u r => r, h, kk.here (.bl _) gd q⟩
end
/-- what the asker tells of a refusal -/
def TTk (K : PySem.W.Frag) (CS : Addr) (Kd : Addr → Str → Prop) : Gv := fun tl H Q => tl (fun cls d H' => ∃ C w, cls = .ref C ∧ d = none ∧ Kd C w ∧ PySem.W.exmOne K cls (.ref CS) = some true ∧ ∀ H'', Same H' H'' → Q (.str w) H'') H Q
theorem good_grow {K : PySem.W.Frag} {B : Hp} {M : Mp} {H H1 : Hp} {p c1 : Addr} {q : Str} {ps ps1 : Array Value} (g : Good K B M H) (hM : M p = some (.tab q)) (hp : H p = some (.tbl ps)) (hcod : ∀ (pos : Pos) (cv : Value), codeAmong pos ps.toList = some cv → ∃ d, cv = .ref d ∧ H d = some (LamX.CodeO d q) ∧ M d = none) (w : Grow H H1 p q ps ps1 c1) : Good K B M H1 ∧ Ext M H M H1 := by
  rcases w.new with hn | ⟨rfl, rfl⟩
  · have e : Ext M H M H1 := fun b o m ho => ⟨m, by rw [w.els b (fun z => by rw [z, hM] at m; cases m) (fun z => by rw [z, hn] at ho; cases ho)]; exact ho⟩
    have hd : p ≠ c1 := ne_of_none hp hn
    refine ⟨⟨fun b hb => ?_, fun b c hc => ?_⟩, e⟩
    · by_cases h1 : b = p
      · rw [h1, w.tab] at hb; cases hb
      · by_cases h2 : b = c1
        · rw [h2]; exact g.base _ hn
        · rw [w.els b h1 h2] at hb; exact g.base _ hb
    · by_cases h1 : b = p
      · subst h1
        rw [hM] at hc
        cases hc
        refine ⟨ps1, w.tab, w.tri, fun pos cv hh => ?_⟩
        rcases w.cod pos cv hh with z | ⟨z, z2, z3⟩
        · obtain ⟨d, e1, e2, e3⟩ := hcod pos cv z
          exact ⟨d, e1, (e d _ e3 e2).2, e3⟩
        · exact ⟨c1, z, z2, g.free z3⟩
      · obtain ⟨o, ho⟩ := (g.cell b c hc).there
        exact (g.cell b c hc).mono e (w.els b h1 (fun z => by rw [z, hn] at ho; cases ho))
  · exact ⟨g, Ext.refl M H1⟩
theorem de_kind {P : Pr} {M : Mp} {Q : D → Mp → Prop} {ε : DSt} {p CS : Addr} {q : Str} {Kd : Addr → Str → Prop} {t : XK → TE} (hM : M p = some (.tab q))
    (h : ∀ E', DE ⟨P.K, P.B, E', fun cls fs M' => ∃ C w, cls = .ref C ∧ fs = none ∧ Kd C w ∧ PySem.W.exmOne P.K cls (.ref CS) = some true ∧ Q (.str w) M'⟩ (t E') ε M Q) : DE P (tKind p q (TTk P.K CS Kd) t) ε M Q := fun σ H R a k => by
  obtain ⟨ps, h1, h2, h3⟩ := a.good.cell p _ hM
  refine ⟨ps, h1, h2, fun pos cv hc => ?_, fun H1 c1 ps1 w => ?_⟩
  · obtain ⟨d, e1, e2, _⟩ := h3 pos cv hc
    exact ⟨d, e1, e2⟩
  · obtain ⟨g, e⟩ := good_grow a.good hM h1 h3 w
    refine h _ σ H1 R ⟨a.env.ext e, g, fun cls fs M' H' g' e' ⟨C, wd, h4, h5, h6, h7, h8⟩ => ?_⟩ (k.ext e)
    subst h5
    exact ⟨C, wd, h4, rfl, h6, h7, fun H'' s => k _ _ M' H'' (.str _) (g'.same s) (e.trans (e'.trans (same_ext g' s))) h8⟩
/-! in an except suite: numbers, texts compared -/
section
variable {P : Pr} {M : Mp} {Q : D → Mp → Prop}
theorem d2_eq0_str {i j : Str} (q : Q (.bl (decide (i = j))) M) : D2 P rEq (.str i) (.str j) M Q := fun vx vy H R rx ry gd k => by
  cases tr_str rx
  cases tr_str ry
  exact ⟨rfl, by rw [show decide (V.str i = V.str j) = decide (i = j) by simp]; exact k.here (.bl _) gd q⟩
theorem d2_ne0_int {i j : Int} (q : Q (.bl (!decide (i = j))) M) : D2 P rNe (.int i) (.int j) M Q := fun vx vy H R rx ry gd k => by
  cases tr_int rx
  cases tr_int ry
  exact ⟨rfl, by rw [show decide (V.int i = V.int j) = decide (i = j) by simp]; exact k.here (.bl _) gd q⟩
end
/-- the classes of refusals, as the top has them -/
structure Ks (K : PySem.W.Frag) (mg : Str → Option Value) (CS E0 E1 E2 E3 E4 E5 : Addr) : Prop where
  g_StepError : mg "StepError" = some (.ref CS)
  g_BadSum : mg "BadSum" = some (.ref E0)
  g_BadSteps : mg "BadSteps" = some (.ref E1)
  g_NoName : mg "NoName" = some (.ref E2)
  g_NoMore : mg "NoMore" = some (.ref E3)
  g_NoSum : mg "NoSum" = some (.ref E4)
  g_BadText : mg "BadText" = some (.ref E5)
  b_ValueError : mg "ValueError" = none
  b_isinstance : mg "isinstance" = none
def kWords : List Str := ["BadSum", "BadSteps", "NoName", "NoMore", "NoSum", "BadText"]
def kBits (j : Nat) : List Bool := [j == 0, j == 1, j == 2, j == 3, j == 4, j == 5]
/-- refused with no more than a text: its word -/
def KdW (K : PySem.W.Frag) (CS E0 E1 E2 E3 E4 E5 C : Addr) (w : Str) : Prop := ∃ j : Nat, (j = 0 ∨ j = 2 ∨ j = 3 ∨ j = 4) ∧ KindC K CS [E0, E1, E2, E3, E4, E5] (kBits j) C ∧ kWords[j]? = some w
theorem kd_ec {K : PySem.W.Frag} {CS E0 E1 E2 E3 E4 E5 C : Addr} {w : Str} (h : KdW K CS E0 E1 E2 E3 E4 E5 C w) : ExcC K C := by
  obtain ⟨_, _, h, _⟩ := h
  exact h.ec
theorem zc_of {cls c : Value} {d : Option Addr} {o : Obj} (h : Zc cls d o) (e : cls = c) (e2 : d = none) : Zc c none o := by
  subst e e2
  exact h
theorem takes_len {X : Cx} {W : WX} (t : Takes X W) : Takes X (fun c d σ H => σ.length = X.N.length → W c d σ H) := fun u s' ⟨a, B, sI, pins, σ, H, cls, d, e, I, nb, up, sky, na, os, ag, w⟩ =>
  t u s' ⟨a, B, sI, pins, σ, H, cls, d, e, I, nb, up, sky, na, os, ag, w I.len⟩
theorem eqB (a b : Bool) : eqV (.bl a) (.bl b) = (a == b) := by cases a <;> cases b <;> rfl
end DL

/-! A dict walked by its keys, locked meanwhile; list(range); pop at a place; sorted -/
namespace DL
open PySem L2 PyProof.Rows
section
variable {P : Pr} {M : Mp} {ε : DSt} {Q : D → Mp → Prop} {G : DEnds} {t : TS} {te : TE} {QI : List D → (Mp → Prop) → Mp → Prop}
theorem ds_lock {d : Addr} {kvs : List (Key × D)} (hM : M d = some (.dic kvs)) (h : ∀ (o : Obj) (ws : List (Key × V)), DS P t { nx := fun ε' M' => M' d = some (.dfz o ws kvs) ∧ G.nx ε' (updM M' d (.dic kvs)), rt := fun _ _ => False } ε (updM M d (.dfz o ws kvs))) : DS P (tLock t) G ε M := fun σ H E a l => by
  obtain ⟨ws, h1, h2, h3⟩ := a.good.cell _ _ hM
  refine ⟨d, .dK ws, h1, trivial, fun od => ?_⟩
  have e1 : Ext M H (updM M d (.dfz od ws kvs)) (upd H d (.frz od (.dK ws))) := ext_set hM
  have g1 : Good P.K P.B (updM M d (.dfz od ws kvs)) (upd H d (.frz od (.dK ws))) := a.good.set hM ⟨upd_same, h2, h3.ext e1⟩
  refine h od ws σ _ _ (a.ext g1 e1) ⟨fun σ2 ε2 M2 H2 r2 g2 e2 q => ?_, fun _ _ _ _ _ _ _ q => q.elim, fun _ _ _ _ _ _ _ q => q.elim, fun _ _ _ _ _ _ _ q => q.elim⟩
  obtain ⟨m2, q⟩ := q
  obtain ⟨k1, k2, k3⟩ := g2.cell _ _ m2
  have e3 : Ext M2 H2 (updM M2 d (.dic kvs)) (upd H2 d (.dK ws)) := ext_set m2
  have g3 : Good P.K P.B (updM M2 d (.dic kvs)) (upd H2 d (.dK ws)) := g2.set m2 ⟨ws, upd_same, k2, k3.ext e3⟩
  exact ⟨k1, l.nx σ2 ε2 _ _ (r2.ext e3) g3 (e1.trans (e2.trans e3)) q⟩
theorem itok_keys {d : Addr} {o : Obj} {ws : List (Key × V)} {kvs : List (Key × D)} {H : Hp} : ItOk P (Itk d o ws) (kvs.map fun kv => keyD kv.1) (fun M => M d = some (.dfz o ws kvs)) M H := by
  have len : ∀ {M' H'}, Good P.K P.B M' H' → M' d = some (.dfz o ws kvs) → H' d = some (.frz o (.dK ws)) ∧ ws.map (·.1) = kvs.map (·.1) ∧ ws.length = kvs.length := fun g e => by
    obtain ⟨h1, h2, _⟩ := g.cell _ _ e
    exact ⟨h1, h2, by have := congrArg List.length h2; simpa using this⟩
  refine ⟨fun i M' H' g e ok hi => ?_, fun i M' H' g e ok y H'' h hi => ?_, fun M' H' g e ok => ?_⟩
  · obtain ⟨h1, h2, h3⟩ := len g ok
    rw [List.length_map] at hi
    exact ⟨h1, by omega⟩
  · obtain ⟨h1, h2, h3⟩ := len g ok
    obtain ⟨rfl, k, v, hk, rfl⟩ := h
    have e2 : kvs[i]?.map (·.1) = some k := by
      rw [← List.getElem?_map, ← h2, List.getElem?_map, hk]; rfl
    refine ⟨keyD k, ?_, ?_, g, Ext.refl _ _⟩
    · rw [List.getElem?_map]
      cases z : kvs[i]? with
      | none => rw [z] at e2; cases e2
      | some p =>
        rw [z] at e2
        have e3 : p.1 = k := Option.some.inj e2
        rw [Option.map_some, e3]
    · cases k with
      | inl i => exact .int i
      | inr x => exact .str x
  · obtain ⟨h1, h2, h3⟩ := len g ok
    rw [List.length_map]
    exact ⟨h1, by omega⟩
theorem di_keys (h : DE P te ε M fun x M1 => ∃ d o ws kvs, x = .val (.ref d) ∧ M1 d = some (.dfz o ws kvs) ∧ QI (kvs.map fun kv => keyD kv.1) (fun M => M d = some (.dfz o ws kvs)) M1) : DI P (iKeys te) ε M QI := fun σ H R a k => by
  refine h σ H _ a fun v dd M1 H1 t1 g1 e1 h1 => ?_
  obtain ⟨d, o, ws, kvs, rfl, hm, q⟩ := h1
  cases tr_val t1
  exact ⟨d, o, rfl, .inl ⟨ws, (g1.cell _ _ hm).1, k _ _ _ M1 H1 g1 e1 itok_keys q⟩⟩
theorem de_dgetF {td ty : TE} (h : DE P td ε M fun x M1 => DE P ty ε M1 fun y M2 => ∃ p o ws kvs k d, x = .val (.ref p) ∧ M2 p = some (.dfz o ws kvs) ∧ y = keyD k ∧ valD kvs k = some d ∧ Q d M2) : DE P (tDGet td ty) ε M Q := fun σ H R a k => by
  refine h σ H _ a fun v d M1 H1 t1 g1 e1 h1 => ?_
  refine h1 σ H1 _ (a.ext g1 e1) fun w e M2 H2 t2 g2 e2 h2 => ?_
  obtain ⟨p, o, ws, kvs, ky, dd, rfl, hm, rfl, hv, q⟩ := h2
  cases tr_val t1
  cases key_tr t2
  obtain ⟨h3, h4, h5⟩ := g2.cell _ _ hm
  obtain ⟨u, hu, tu⟩ := (Tab.val ky (⟨h4, h5⟩ : Tab P.K P.B M2 H2 ws kvs)).1 dd hv
  exact ⟨p, u, rfl, .inl ⟨ws, ky, .inr ⟨o, h3⟩, rfl, hu.symm⟩, k u dd M2 H2 tu g2 (e1.trans e2) q⟩
end
section
variable {P : Pr} {M : Mp} {ε : DSt} {Q : D → Mp → Prop} {ta : TE}
def rgD (n : Nat) : List Int := (List.range n).map fun i => ((i : Nat) : Int)
theorem de_listRg (h : DE P ta ε M fun x M1 => ∃ n : Nat, x = .int n ∧ n ≤ 100000 ∧ ∀ p, M1 p = none → P.B p = none → Q (.val (.ref p)) (updM M1 p (.lst ((rgD n).map .int)))) : DE P (tLstRg (tRg1 ta)) ε M Q := fun σ H R a k => by
  refine h σ H _ a fun v d M1 H1 t1 g1 e1 h1 => ?_
  obtain ⟨n, rfl, hn, q⟩ := h1
  cases tr_int t1
  refine ⟨n, rfl, RgOk.of_le (Int.le_refl 0) (by omega) (by decide) (by omega), fun p hp => ?_⟩
  have e : rgV 0 (n : Int) = ((rgD n).map V.int) := by
    unfold rgV rgD
    rw [List.map_map, show ((n : Int) - 0).toNat = n by omega]
    exact List.map_congr_left fun i _ => by simp
  rw [e]
  exact k _ _ _ _ (.val _) (g1.newCell (c := .lst _) hp ⟨_, upd_same, ints_trs _⟩) (e1.trans (ext_cell hp)) (q p (g1.free hp) (g1.base _ hp))
theorem dm_popAt {p : Addr} {xs : List D} {i : Int} {j : Nat} {y : D} (h : M p = some (.lst xs)) (h0 : 0 ≤ i) (hj : i = (j : Int)) (hl : xs.length < 100000) (hy : xs[j]? = some y) (q : Q y (updM M p (.lst (xs.eraseIdx j)))) : DM P rPopAt (.val (.ref p)) [.int i] M Q := by
  intro vx vs H R rx rs gd k
  cases tr_val rx
  obtain ⟨v, rfl, t⟩ := trs1 rs
  cases tr_int t
  obtain ⟨ws, h1, h2⟩ := gd.cell _ _ h
  obtain ⟨u, hu, tu⟩ := h2.get hy
  have hjl := (List.getElem?_eq_some_iff.mp hy).1
  have e1 : Ext M H (updM M p (.lst (xs.eraseIdx j))) (upd H p (.lst (ws.eraseIdx j))) := ext_set h
  have sx : seqIndex? i ws.length = some j := (ixN_seq (by
    unfold ixN
    rw [if_pos h0, if_pos (by rw [h2.length]; omega)]
    congr 1
    omega)).1
  refine ⟨p, ws, i, j, u, rfl, rfl, h1, by omega, by omega, sx, hu, ?_⟩
  have er : Trs P.K P.B M H (ws.eraseIdx j) (xs.eraseIdx j) := by
    rw [List.eraseIdx_eq_take_drop_succ, List.eraseIdx_eq_take_drop_succ]
    exact (h2.take j).append (h2.drop (j + 1))
  exact k u y _ _ (tu.ext e1) (gd.set h ⟨_, upd_same, er.ext e1⟩) e1 q
theorem cr_sortedIk {X : Cx} (K : PySem.W.Frag) (h : X.K = K := by rfl) : CallR X (.builtin "sorted") (rSortedI K) := by subst h; exact cr_sortedI
theorem dl_sortedI {x : D} {xs : List Int} (hx : IsL M x (xs.map .int)) (q : ∀ ys : List Int, ys.Perm xs → ys.Pairwise (· ≤ ·) → Q (.lst .own (ys.map .int)) M) : DL' P (rSortedI P.K) [x] M Q := by
  intro vs H R r gd k
  obtain ⟨v, rfl, t⟩ := trs1 r
  obtain ⟨p, ws, rfl, h1, h2⟩ := hx.at t gd
  have e := trs_ints h2
  subst e
  refine ⟨p, xs, rfl, SqL.of h1, fun ys a hp hs ha => ?_⟩
  exact k _ (.lst .own _) M _ (.lst (k := .own) ⟨gd.free ha, upd_same, gd.base _ ha⟩ (ints_trs _)) (gd.new ha) (ext_new ha) (q ys hp hs)
end
/-! lists of flat tuples compared -/
def flat2 : D → Bool
  | .tup ds => ds.all flatD
  | d => flatD d
def toP2 : D → PyData
  | .tup ds => .tuple (ds.map toPf)
  | d => toPf d
theorem dp_flat2 {K : PySem.W.Frag} {B : Hp} {M : Mp} {H : Hp} {v : V} {d : D} (h : flat2 d = true) (t : Tr K B M H v d) : Dp K H v (toP2 d) := by
  cases d with
  | tup ds =>
    obtain ⟨a, vs, rfl, h1, r⟩ := tup_at t
    exact .tup h1 (dps_flat h r)
  | non => exact dp_flat (d := .non) rfl t
  | bl b => exact dp_flat (d := .bl b) rfl t
  | int b => exact dp_flat (d := .int b) rfl t
  | str b => exact dp_flat (d := .str b) rfl t
  | lst k ds => cases h
  | dic k => cases h
  | val k => cases h
theorem dps_flat2 {K : PySem.W.Frag} {B : Hp} {M : Mp} {H : Hp} {vs : List V} {ds : List D} (h : ds.all flat2 = true) (t : Trs K B M H vs ds) : DpAll K H vs (ds.map toP2) := by
  induction ds generalizing vs with
  | nil => cases t; exact .nil
  | cons d ds ih =>
    rw [List.all_cons, Bool.and_eq_true] at h
    cases t with
    | cons t1 t2 => exact .cons (dp_flat2 h.1 t1) (ih h.2 t2)
/-- the same list twice: alike -/
theorem d2_neSame {P : Pr} {M : Mp} {Q : D → Mp → Prop} {x y : D} {xs : List D} (hx : IsL M x xs) (hy : IsL M y xs) (f : xs.all flat2 = true) (s : SeqAt.shaped (.list (xs.map toP2)) = true) (q : Q (.bl false) M) : D2 P (rNe3 P.K) x y M Q :=
  fun vx vy H R rx ry gd k => by
    obtain ⟨a, us, rfl, a1, a2⟩ := hx.at rx gd
    obtain ⟨b, ws, rfl, b1, b2⟩ := hy.at ry gd
    refine .inr (.inr ⟨_, _, .lst (SqL.of a1) (dps_flat2 f a2), .lst (SqL.of b1) (dps_flat2 f b2), s, s, ?_⟩)
    rw [SeqAt.eqv_refl _ (SeqAt.canLay_of_shaped s)]
    exact k.here (.bl _) gd q
theorem encS_flat (t : Stp) : flat2 (encS t) = true := by cases t <;> rfl
theorem strOk_small {c : Nat} (h : c < 103) : PyData.strOk ⟨#[c]⟩ = true := by
  unfold PyData.strOk
  simp
  omega
theorem encS_lay {t : Stp} (h : t.fit) : (toP2 (encS t)).canLay0 = true ∧ (toP2 (encS t)).depth ≤ 2 := by
  cases t with
  | nam b c =>
    have := strOk_small h.2
    refine ⟨?_, by simp [encS, toP2, toPf, PyData.depth, PyData.depthAll]⟩
    simp only [encS, toP2, List.map_cons, List.map_nil, toPf, PyData.canLay0, PyData.canLayAll0, this, Bool.and_true]
    decide +kernel
  | num b v => exact ⟨by simp only [encS, toP2, List.map_cons, List.map_nil, toPf, PyData.canLay0, PyData.canLayAll0, Bool.and_true]; decide +kernel, by simp [encS, toP2, toPf, PyData.depth, PyData.depthAll]⟩
  | ask b => exact ⟨by simp only [encS, toP2, List.map_cons, List.map_nil, toPf, PyData.canLay0, PyData.canLayAll0, Bool.and_true]; decide +kernel, by simp [encS, toP2, toPf, PyData.depth, PyData.depthAll]⟩
  | say b x => exact ⟨by simp only [encS, toP2, List.map_cons, List.map_nil, toPf, PyData.canLay0, PyData.canLayAll0, Bool.and_true]; decide +kernel, by simp [encS, toP2, toPf, PyData.depth, PyData.depthAll]⟩
  | bin b o x y => exact ⟨by simp only [encS, toP2, List.map_cons, List.map_nil, toPf, PyData.canLay0, PyData.canLayAll0, Bool.and_true]; cases o <;> decide +kernel, by simp [encS, toP2, toPf, PyData.depth, PyData.depthAll]⟩
theorem encs_shaped {l : List Stp} (h : ∀ t ∈ l, t.fit) : SeqAt.shaped (.list ((l.map encS).map toP2)) = true := by
  have key : PyData.canLayAll0 ((l.map encS).map toP2) = true ∧ PyData.depthAll ((l.map encS).map toP2) ≤ 2 := by
    induction l with
    | nil => exact ⟨rfl, by decide⟩
    | cons t l ih =>
      obtain ⟨h1, h2⟩ := ih fun t ht => h t (by simp [ht])
      obtain ⟨h3, h4⟩ := encS_lay (h t (by simp))
      simp only [List.map_cons, PyData.canLayAll0, PyData.depthAll, h1, h3]
      exact ⟨rfl, by omega⟩
  unfold SeqAt.shaped
  rw [Bool.and_eq_true]
  refine ⟨key.1, decide_eq_true ?_⟩
  have h2 := key.2
  show PyData.depthAll ((l.map encS).map toP2) + 1 ≤ 64
  omega
end DL

/-! Steps put back to a sum -/
namespace DL
open PySem L2
abbrev BV := Sm × List Int
abbrev Bk := Int → Option BV
def takeB (H : Bk) (x : Int) : Bk := fun y => if x = y then none else H y
def putB (H : Bk) (x : Int) (v : BV) : Bk := fun y => if x = y then some v else H y
theorem takeB_eq {H : Bk} {x : Int} : takeB H x x = none := if_pos rfl
theorem takeB_ne {H : Bk} {x y : Int} (h : x ≠ y) : takeB H x y = H y := if_neg h
theorem putB_eq {H : Bk} {x : Int} {v : BV} : putB H x v x = some v := if_pos rfl
theorem putB_ne {H : Bk} {x y : Int} {v : BV} (h : x ≠ y) : putB H x v y = H y := if_neg h
def dfB : BV := (.ask, [])
def Stp.bval (n : Int) (H : Bk) : Stp → BV
  | .num _ v => (.num v, [])
  | .nam _ c => (.nam c, [])
  | .ask _ => (.ask, [n])
  | .say _ x => (.say ((H x).getD dfB).1, ((H x).getD dfB).2 ++ [n])
  | .bin _ o x y => (.bin o ((H x).getD dfB).1 ((H y).getD dfB).1, ((H x).getD dfB).2 ++ ((H y).getD dfB).2)
def Stp.bleft (H : Bk) : Stp → Bk
  | .say _ x => takeB H x
  | .bin _ _ x y => takeB (takeB H x) y
  | _ => H
def Stp.bk (t : Stp) (n : Int) (H : Bk) : Bk := putB (t.bleft H) t.box (t.bval n H)
structure Stp.can (t : Stp) (H : Bk) : Prop where
  us : ∀ x ∈ t.uses, ∃ r, H x = some r
  nd : t.uses.Nodup
  fr : t.bleft H t.box = none
abbrev SL := List (Stp × Int)
def brun : SL → Bk → Bk
  | [], H => H
  | z :: zs, H => brun zs (z.1.bk z.2 H)
def bcan : SL → Bk → Prop
  | [], _ => True
  | z :: zs, H => z.1.can H ∧ bcan zs (z.1.bk z.2 H)
theorem brun_app : ∀ (a b : SL) (H : Bk), brun (a ++ b) H = brun b (brun a H)
  | [], _, _ => rfl
  | z :: a, b, H => brun_app a b _
theorem bcan_app : ∀ (a b : SL) (H : Bk), bcan (a ++ b) H ↔ bcan a H ∧ bcan b (brun a H)
  | [], b, H => by simp [bcan, brun]
  | z :: a, b, H => by
    show z.1.can H ∧ bcan (a ++ b) _ ↔ (z.1.can H ∧ bcan a _) ∧ bcan b _
    rw [bcan_app a b, and_assoc]
    rfl
def Stp.loud : Stp → Bool
  | .say _ _ => true
  | .ask _ => true
  | _ => false
def louds (zs : SL) : List Int := (zs.filter fun z => z.1.loud).map (·.2)
theorem louds_app (a b : SL) : louds (a ++ b) = louds a ++ louds b := by unfold louds; rw [List.filter_append, List.map_append]
/-- steps that are put back to a sum, in a box -/
def Backs (s : Sm) (l : List Stp) (b lo : Int) : Prop := ∀ (zs : SL) (H : Bk), zs.map (·.1) = l → (∀ x, lo ≤ x → H x = none) → bcan zs H ∧ brun zs H = putB H b (s, louds zs)
theorem map_app {zs : SL} {l m : List Stp} (h : zs.map (·.1) = l ++ m) : ∃ a b, zs = a ++ b ∧ a.map (·.1) = l ∧ b.map (·.1) = m := by
  refine ⟨zs.take l.length, zs.drop l.length, (List.take_append_drop _ _).symm, ?_, ?_⟩
  · rw [List.map_take, h, List.take_left]
  · rw [List.map_drop, h, List.drop_left]
theorem map_one {zs : SL} {t : Stp} (h : zs.map (·.1) = [t]) : ∃ n, zs = [(t, n)] := by
  match zs, h with
  | [(u, n)], h => exact ⟨n, by simp at h; rw [h]⟩
theorem backs_leaf {s : Sm} {t : Stp} {b : Int} (hu : t.uses = []) (hl : ∀ H, t.bleft H = H) (hb : t.box = b) (hv : ∀ n H, t.bval n H = (s, if t.loud = true then [n] else [])) : Backs s [t] b b := fun zs H hz hH => by
  obtain ⟨n, rfl⟩ := map_one hz
  refine ⟨⟨⟨fun x hx => (by rw [hu] at hx; cases hx), by rw [hu]; exact List.nodup_nil, by rw [hl, hb]; exact hH b (Int.le_refl b)⟩, trivial⟩, ?_⟩
  show putB (t.bleft H) t.box (t.bval n H) = _
  rw [hl, hb, hv]
  unfold louds
  cases e : t.loud <;> simp [List.filter_cons, e]
theorem backs_say {a : Sm} {l : List Stp} {b c lo : Int} (h : Backs a l b lo) (hc : lo ≤ c) (hb : lo ≤ b) : Backs (.say a) (l ++ [.say c b]) c lo := fun zs H hz hH => by
  obtain ⟨z1, z2, rfl, h1, h2⟩ := map_app hz
  obtain ⟨n, rfl⟩ := map_one h2
  obtain ⟨k1, k2⟩ := h z1 H h1 hH
  have e0 : takeB (putB H b (a, louds z1)) b = H := by
    funext y
    by_cases e : b = y
    · rw [← e, takeB_eq, hH b hb]
    · rw [takeB_ne e, putB_ne e]
  rw [bcan_app, brun_app, k2, louds_app]
  refine ⟨⟨k1, ⟨⟨fun x hx => ?_, by simp [Stp.uses], ?_⟩, trivial⟩⟩, ?_⟩
  · rw [List.mem_singleton.mp hx]; exact ⟨_, putB_eq⟩
  · show takeB _ b c = none
    rw [e0]; exact hH c hc
  · show putB (takeB _ b) c _ = _
    rw [e0]
    simp only [Stp.bval, putB_eq, Option.getD_some]
    rfl
theorem backs_bin {o : Wd} {a c : Sm} {l m : List Stp} {b1 b2 b lo lo2 : Int} (h : Backs a l b1 lo) (k : Backs c m b2 lo2) (h1 : b1 < lo2) (h2 : lo ≤ lo2) (h3 : lo ≤ b) (h4 : lo ≤ b1) (h5 : lo2 ≤ b2) : Backs (.bin o a c) (l ++ m ++ [.bin b o b1 b2]) b lo := fun zs H hz hH => by
  obtain ⟨z12, z3, rfl, g1, g2⟩ := map_app hz
  obtain ⟨z1, z2, rfl, g3, g4⟩ := map_app g1
  obtain ⟨n, rfl⟩ := map_one g2
  obtain ⟨k1, k2⟩ := h z1 H g3 hH
  obtain ⟨k3, k4⟩ := k z2 (putB H b1 (a, louds z1)) g4 (fun x hx => by rw [putB_ne (by omega)]; exact hH x (by omega))
  have ne : b1 ≠ b2 := by omega
  have e0 : takeB (takeB (putB (putB H b1 (a, louds z1)) b2 (c, louds z2)) b1) b2 = H := by
    funext y
    by_cases e : b2 = y
    · rw [← e, takeB_eq, hH b2 (by omega)]
    · rw [takeB_ne e]
      by_cases e' : b1 = y
      · rw [← e', takeB_eq, hH b1 h4]
      · rw [takeB_ne e', putB_ne e, putB_ne e']
  have r12 : brun (z1 ++ z2) H = putB (putB H b1 (a, louds z1)) b2 (c, louds z2) := by rw [brun_app, k2, k4]
  rw [bcan_app, bcan_app, r12, brun_app, r12, k2, louds_app, louds_app]
  refine ⟨⟨⟨k1, k3⟩, ⟨⟨fun x hx => ?_, by simp [Stp.uses, ne], ?_⟩, trivial⟩⟩, ?_⟩
  · simp only [Stp.uses, List.mem_cons, List.not_mem_nil, or_false] at hx
    rcases hx with rfl | rfl
    · exact ⟨_, (putB_ne ne.symm).trans putB_eq⟩
    · exact ⟨_, putB_eq⟩
  · show takeB (takeB _ b1) b2 b = none
    rw [e0]; exact hH b h3
  · show putB (takeB (takeB _ b1) b2) b _ = _
    rw [e0]
    simp only [Stp.bval, putB_ne ne.symm, putB_eq, Option.getD_some]
    rw [show louds [(Stp.bin b o b1 b2, n)] = [] from rfl, List.append_nil]
theorem backs_rev {o : Wd} {a c : Sm} {l m : List Stp} {b1 b2 b lo lo2 : Int} (hq : (a.eff && c.eff) = false) (ha : ∀ t ∈ l, t.loud = true → a.eff = true) (hc : ∀ t ∈ m, t.loud = true → c.eff = true) (k : Backs c m b2 lo) (h : Backs a l b1 lo2) (h1 : b2 < lo2) (h2 : lo ≤ lo2) (h3 : lo ≤ b) (h4 : lo ≤ b2) (h5 : lo2 ≤ b1) : Backs (.bin o a c) (m ++ l ++ [.bin b o b1 b2]) b lo := fun zs H hz hH => by
  obtain ⟨z12, z3, rfl, g1, g2⟩ := map_app hz
  obtain ⟨z1, z2, rfl, g3, g4⟩ := map_app g1
  obtain ⟨n, rfl⟩ := map_one g2
  obtain ⟨k1, k2⟩ := k z1 H g3 hH
  obtain ⟨k3, k4⟩ := h z2 (putB H b2 (c, louds z1)) g4 (fun x hx => by rw [putB_ne (by omega)]; exact hH x (by omega))
  have ne : b2 ≠ b1 := by omega
  have e0 : takeB (takeB (putB (putB H b2 (c, louds z1)) b1 (a, louds z2)) b1) b2 = H := by
    funext y
    by_cases e : b2 = y
    · rw [← e, takeB_eq, hH b2 h4]
    · rw [takeB_ne e]
      by_cases e' : b1 = y
      · rw [← e', takeB_eq, hH b1 (by omega)]
      · rw [takeB_ne e', putB_ne e', putB_ne e]
  have none_of : ∀ {zs : SL} {l : List Stp}, zs.map (·.1) = l → (∀ t ∈ l, t.loud = false) → louds zs = [] := fun {zs l} hz hl => by
    unfold louds
    rw [List.filter_eq_nil_iff.mpr (fun z hz' => by rw [hl z.1 (by rw [← hz]; exact List.mem_map.mpr ⟨z, hz', rfl⟩)]; exact Bool.false_ne_true)]
    rfl
  have sw : louds z2 ++ louds z1 = louds z1 ++ louds z2 := by
    cases ea : a.eff with
    | false =>
      rw [none_of g4 (fun t ht => by cases z : t.loud with | false => rfl | true => exact absurd (ha t ht z) (by rw [ea]; exact Bool.false_ne_true))]
      simp
    | true =>
      rw [ea, Bool.true_and] at hq
      rw [none_of g3 (fun t ht => by cases z : t.loud with | false => rfl | true => exact absurd (hc t ht z) (by rw [hq]; exact Bool.false_ne_true))]
      simp
  have r12 : brun (z1 ++ z2) H = putB (putB H b2 (c, louds z1)) b1 (a, louds z2) := by rw [brun_app, k2, k4]
  rw [bcan_app, bcan_app, r12, brun_app, r12, k2, louds_app, louds_app]
  refine ⟨⟨⟨k1, k3⟩, ⟨⟨fun x hx => ?_, by simp [Stp.uses, ne.symm], ?_⟩, trivial⟩⟩, ?_⟩
  · simp only [Stp.uses, List.mem_cons, List.not_mem_nil, or_false] at hx
    rcases hx with rfl | rfl
    · exact ⟨_, putB_eq⟩
    · exact ⟨_, (putB_ne ne.symm).trans putB_eq⟩
  · show takeB (takeB _ b1) b2 b = none
    rw [e0]; exact hH b h3
  · show putB (takeB (takeB _ b1) b2) b _ = _
    rw [e0]
    simp only [Stp.bval, putB_ne ne.symm, putB_eq, Option.getD_some]
    rw [show louds [(Stp.bin b o b1 b2, n)] = [] from rfl, List.append_nil, sw]
theorem lst_loud : ∀ (s : Sm) (b : Int), ∀ t ∈ s.lst b, t.loud = true → s.eff = true
  | .num _, _, t, h, e => by rw [List.mem_singleton.mp h] at e; cases e
  | .nam _, _, t, h, e => by rw [List.mem_singleton.mp h] at e; cases e
  | .ask, _, t, h, e => rfl
  | .say a, _, t, h, e => rfl
  | .bin o a c, b, t, h, e => by
    show (a.eff || c.eff) = true
    rw [Bool.or_eq_true]
    unfold Sm.lst at h
    split at h
    · simp only [List.mem_append, List.mem_singleton] at h
      rcases h with (h | h) | rfl
      · exact .inr (lst_loud c b t h e)
      · exact .inl (lst_loud a _ t h e)
      · cases e
    · simp only [List.mem_append, List.mem_singleton] at h
      rcases h with (h | h) | rfl
      · exact .inl (lst_loud a b t h e)
      · exact .inr (lst_loud c _ t h e)
      · cases e
theorem tst_backs : ∀ (s : Sm) (b : Int), Backs s (s.tst b) b b
  | .num _, _ => backs_leaf rfl (fun _ => rfl) rfl (fun _ _ => rfl)
  | .nam _, _ => backs_leaf rfl (fun _ => rfl) rfl (fun _ _ => rfl)
  | .ask, _ => backs_leaf rfl (fun _ => rfl) rfl (fun _ _ => rfl)
  | .say a, b => backs_say (tst_backs a b) (Int.le_refl b) (Int.le_refl b)
  | .bin o a c, b => backs_bin (tst_backs a b) (tst_backs c (b + 1)) (by omega) (by omega) (Int.le_refl b) (Int.le_refl b) (Int.le_refl _)
theorem lst_backs : ∀ (s : Sm) (b : Int), Backs s (s.lst b) b b
  | .num _, _ => backs_leaf rfl (fun _ => rfl) rfl (fun _ _ => rfl)
  | .nam _, _ => backs_leaf rfl (fun _ => rfl) rfl (fun _ _ => rfl)
  | .ask, _ => backs_leaf rfl (fun _ => rfl) rfl (fun _ _ => rfl)
  | .say a, b => backs_say (lst_backs a b) (Int.le_refl b) (Int.le_refl b)
  | .bin o a c, b => by
    unfold Sm.lst
    split
    · rename_i ht
      have hq : (a.eff && c.eff) = false := by
        unfold turned at ht
        cases h : a.eff && c.eff with
        | false => rfl
        | true => rw [h] at ht; cases ht
      exact backs_rev hq (lst_loud a _) (lst_loud c _) (lst_backs c b) (lst_backs a (b + 1)) (by omega) (by omega) (Int.le_refl b) (Int.le_refl b) (Int.le_refl _)
    · exact backs_bin (lst_backs a b) (lst_backs c (b + 1)) (by omega) (by omega) (Int.le_refl b) (Int.le_refl b) (Int.le_refl _)
theorem cst_backs : ∀ (s : Sm) (n : Int), Backs s (s.cst n) (n + s.sz - 1) n
  | .num v, n => by rw [show n + ((Sm.num v).sz : Int) - 1 = n by simp only [Sm.sz]; omega]; exact backs_leaf rfl (fun _ => rfl) rfl (fun _ _ => rfl)
  | .nam v, n => by rw [show n + ((Sm.nam v).sz : Int) - 1 = n by simp only [Sm.sz]; omega]; exact backs_leaf rfl (fun _ => rfl) rfl (fun _ _ => rfl)
  | .ask, n => by rw [show n + (Sm.ask.sz : Int) - 1 = n by simp only [Sm.sz]; omega]; exact backs_leaf rfl (fun _ => rfl) rfl (fun _ _ => rfl)
  | .say a, n => by
    rw [show n + ((Sm.say a).sz : Int) - 1 = n + a.sz by simp only [Sm.sz]; omega]
    have := a.sz_pos
    exact backs_say (cst_backs a n) (by omega) (by omega)
  | .bin o a c, n => by
    rw [show n + ((Sm.bin o a c).sz : Int) - 1 = n + a.sz + c.sz by simp only [Sm.sz]; omega]
    have := a.sz_pos
    have := c.sz_pos
    exact backs_bin (cst_backs a n) (cst_backs c (n + a.sz)) (by omega) (by omega) (by omega) (by omega) (by omega)
/-! labels: places -/
def labs : Int → List Stp → SL
  | _, [] => []
  | k, t :: l => (t, k) :: labs (k + 1) l
theorem labs_map : ∀ (l : List Stp) (k : Int), (labs k l).map (·.1) = l
  | [], _ => rfl
  | t :: l, k => by rw [labs, List.map_cons, labs_map l]
theorem labs_app : ∀ (l m : List Stp) (k : Int), labs k (l ++ m) = labs k l ++ labs (k + l.length) m
  | [], m, k => by simp [labs]
  | t :: l, m, k => by
    rw [List.cons_append, labs, labs, labs_app l m, List.cons_append, show k + 1 + (l.length : Int) = k + ((t :: l).length : Nat) by rw [List.length_cons]; omega]
theorem louds_labs : ∀ (l : List Stp) (k : Int), (louds (labs k l)).Pairwise (· < ·) ∧ ∀ x ∈ louds (labs k l), k ≤ x ∧ x < k + l.length
  | [], k => ⟨List.Pairwise.nil, fun x hx => by cases hx⟩
  | t :: l, k => by
    obtain ⟨h1, h2⟩ := louds_labs l (k + 1)
    have e : louds (labs k (t :: l)) = (if t.loud = true then [k] else []) ++ louds (labs (k + 1) l) := by
      unfold louds
      rw [labs, List.filter_cons]
      dsimp only
      cases t.loud <;> rfl
    rw [e, List.length_cons]
    cases t.loud with
    | false =>
      rw [if_neg Bool.false_ne_true, List.nil_append]
      exact ⟨h1, fun x hx => by have := h2 x hx; omega⟩
    | true =>
      rw [if_pos rfl, List.singleton_append]
      refine ⟨List.pairwise_cons.mpr ⟨fun x hx => by have := h2 x hx; omega, h1⟩, fun x hx => ?_⟩
      rcases List.mem_cons.mp hx with rfl | hx
      · omega
      · have := h2 x hx
        omega
abbrev noB : Bk := fun _ => none
theorem backs_all {s : Sm} {l : List Stp} {b lo : Int} (h : Backs s l b lo) : bcan (labs 0 l) noB ∧ brun (labs 0 l) noB = putB noB b (s, louds (labs 0 l)) := h _ _ (labs_map l 0) fun _ _ => rfl
/-! ### boxes by other numbers -/
def Stp.mv (π : Int → Int) : Stp → Stp
  | .num b v => .num (π b) v
  | .nam b c => .nam (π b) c
  | .ask b => .ask (π b)
  | .say b x => .say (π b) (π x)
  | .bin b o x y => .bin (π b) o (π x) (π y)
structure Mv (π : Int → Int) (m : Int) (H G : Bk) : Prop where
  on : ∀ x, 0 ≤ x → x < m → G (π x) = H x
  off : ∀ y, (∀ x, 0 ≤ x → x < m → π x ≠ y) → G y = none
structure Inj (π : Int → Int) (m : Int) : Prop where
  inj : ∀ x y, 0 ≤ x → x < m → 0 ≤ y → y < m → π x = π y → x = y
  lo : ∀ x, 0 ≤ x → x < m → 0 ≤ π x ∧ π x < 200
theorem Mv.put {π : Int → Int} {m : Int} {H G : Bk} (i : Inj π m) (h : Mv π m H G) {b : Int} (h0 : 0 ≤ b) (h1 : b < m) (v : BV) : Mv π m (putB H b v) (putB G (π b) v) := by
  refine ⟨fun x k0 k1 => ?_, fun y hy => ?_⟩
  · by_cases e : b = x
    · rw [e, putB_eq, putB_eq]
    · rw [putB_ne e, putB_ne (fun z => e (i.inj _ _ h0 h1 k0 k1 z)), h.on x k0 k1]
  · rw [putB_ne (hy b h0 h1)]
    exact h.off y hy
theorem Mv.take {π : Int → Int} {m : Int} {H G : Bk} (i : Inj π m) (h : Mv π m H G) {b : Int} (h0 : 0 ≤ b) (h1 : b < m) : Mv π m (takeB H b) (takeB G (π b)) := by
  refine ⟨fun x k0 k1 => ?_, fun y hy => ?_⟩
  · by_cases e : b = x
    · rw [e, takeB_eq, takeB_eq]
    · rw [takeB_ne e, takeB_ne (fun z => e (i.inj _ _ h0 h1 k0 k1 z)), h.on x k0 k1]
  · rw [takeB_ne (hy b h0 h1)]
    exact h.off y hy
def Stp.inD (m : Int) (t : Stp) : Prop := (0 ≤ t.box ∧ t.box < m) ∧ ∀ x ∈ t.uses, 0 ≤ x ∧ x < m
theorem mv_step {π : Int → Int} {m : Int} {H G : Bk} (i : Inj π m) (h : Mv π m H G) {t : Stp} (d : t.inD m) (c : t.can H) (n : Int) : (t.mv π).can G ∧ Mv π m (t.bk n H) ((t.mv π).bk n G) := by
  obtain ⟨⟨b0, b1⟩, du⟩ := d
  obtain ⟨us, nd, fr⟩ := c
  cases t with
  | num b v => exact ⟨⟨fun x hx => (by cases hx), List.nodup_nil, (h.on b b0 b1).trans fr⟩, h.put i b0 b1 _⟩
  | nam b v => exact ⟨⟨fun x hx => (by cases hx), List.nodup_nil, (h.on b b0 b1).trans fr⟩, h.put i b0 b1 _⟩
  | ask b => exact ⟨⟨fun x hx => (by cases hx), List.nodup_nil, (h.on b b0 b1).trans fr⟩, h.put i b0 b1 _⟩
  | say b x =>
    have dx := du x (by simp [Stp.uses])
    have h2 := h.take i dx.1 dx.2
    have ex := h.on x dx.1 dx.2
    refine ⟨⟨fun y hy => ?_, by simp [Stp.mv, Stp.uses], (h2.on b b0 b1).trans fr⟩, ?_⟩
    · rw [List.mem_singleton.mp hy, ex]
      exact us x (by simp [Stp.uses])
    · have := h2.put i b0 b1 (((Stp.say b x).bval n H))
      show Mv π m (putB (takeB H x) b _) (putB (takeB G (π x)) (π b) (.say ((G (π x)).getD dfB).1, ((G (π x)).getD dfB).2 ++ [n]))
      rw [ex]
      exact this
  | bin b o x y =>
    have dx := du x (by simp [Stp.uses])
    have dy := du y (by simp [Stp.uses])
    have h2 := (h.take i dx.1 dx.2).take i dy.1 dy.2
    have ex := h.on x dx.1 dx.2
    have ey := h.on y dy.1 dy.2
    have ne : x ≠ y := by simpa [Stp.uses] using nd
    refine ⟨⟨fun z hz => ?_, ?_, (h2.on b b0 b1).trans fr⟩, ?_⟩
    · simp only [Stp.mv, Stp.uses, List.mem_cons, List.not_mem_nil, or_false] at hz
      rcases hz with rfl | rfl
      · rw [ex]; exact us x (by simp [Stp.uses])
      · rw [ey]; exact us y (by simp [Stp.uses])
    · simp only [Stp.mv, Stp.uses, List.nodup_cons, List.mem_singleton, List.not_mem_nil, not_false_eq_true, List.nodup_nil, and_true]
      exact fun z => ne (i.inj _ _ dx.1 dx.2 dy.1 dy.2 z)
    · have := h2.put i b0 b1 (((Stp.bin b o x y).bval n H))
      show Mv π m (putB (takeB (takeB H x) y) b _) (putB (takeB (takeB G (π x)) (π y)) (π b) (.bin o ((G (π x)).getD dfB).1 ((G (π y)).getD dfB).1, ((G (π x)).getD dfB).2 ++ ((G (π y)).getD dfB).2))
      rw [ex, ey]
      exact this
theorem mv_run {π : Int → Int} {m : Int} (i : Inj π m) : ∀ (l : List Stp) (k : Int) (H G : Bk), Mv π m H G → (∀ t ∈ l, t.inD m) → bcan (labs k l) H → bcan (labs k (l.map (Stp.mv π))) G ∧ Mv π m (brun (labs k l) H) (brun (labs k (l.map (Stp.mv π))) G)
  | [], k, H, G, h, _, _ => ⟨trivial, h⟩
  | t :: l, k, H, G, h, d, c => by
    obtain ⟨c1, h1⟩ := mv_step i h (d t (by simp)) c.1 k
    obtain ⟨c2, h2⟩ := mv_run i l (k + 1) _ _ h1 (fun u hu => d u (by simp [hu])) c.2
    exact ⟨⟨c1, c2⟩, h2⟩
theorem mv_loud {π : Int → Int} : ∀ (l : List Stp) (k : Int), louds (labs k (l.map (Stp.mv π))) = louds (labs k l)
  | [], _ => rfl
  | t :: l, k => by
    have := mv_loud (π := π) l (k + 1)
    have e : (t.mv π).loud = t.loud := by cases t <;> rfl
    unfold louds at *
    simp only [List.map_cons, labs, List.filter_cons, e]
    cases t.loud with
    | true => rw [if_pos rfl, if_pos rfl, List.map_cons, List.map_cons, this]
    | false => rw [if_neg Bool.false_ne_true, if_neg Bool.false_ne_true, this]
theorem mv_all {π : Int → Int} {m : Int} (i : Inj π m) {s : Sm} {l : List Stp} {b lo : Int} (h : Backs s l b lo) (d : ∀ t ∈ l, t.inD m) (h0 : 0 ≤ b) (h1 : b < m) : bcan (labs 0 (l.map (Stp.mv π))) noB ∧ brun (labs 0 (l.map (Stp.mv π))) noB = putB noB (π b) (s, louds (labs 0 (l.map (Stp.mv π)))) := by
  obtain ⟨c, r⟩ := backs_all h
  obtain ⟨c2, r2⟩ := mv_run i l 0 noB noB ⟨fun _ _ _ => rfl, fun _ _ => rfl⟩ d c
  refine ⟨c2, ?_⟩
  rw [mv_loud]
  funext y
  by_cases hy : ∃ x, 0 ≤ x ∧ x < m ∧ π x = y
  · obtain ⟨x, x0, x1, rfl⟩ := hy
    rw [r2.on x x0 x1, r]
    by_cases e : b = x
    · rw [e, putB_eq, putB_eq]
    · rw [putB_ne e, putB_ne (fun z => e (i.inj _ _ h0 h1 x0 x1 z))]
  · have hn : ∀ x, 0 ≤ x → x < m → π x ≠ y := fun x x0 x1 e => hy ⟨x, x0, x1, e⟩
    rw [r2.off y hn, putB_ne (hn b h0 h1)]
theorem mv_ok {π : Int → Int} {m : Int} (i : Inj π m) : ∀ (l : List Stp) (put put' : List Int), (∀ t ∈ l, t.inD m) → (∀ x ∈ put, π x ∈ put') → okSt put l → okSt put' (l.map (Stp.mv π))
  | [], _, _, _, _, _ => trivial
  | t :: l, put, put', d, hp, h => by
    obtain ⟨⟨b0, b1⟩, du⟩ := d t (by simp)
    have eb : (t.mv π).box = π t.box := by cases t <;> rfl
    have eu : (t.mv π).uses = t.uses.map π := by cases t <;> rfl
    have hb := i.lo t.box b0 b1
    refine ⟨⟨by rw [eb]; exact hb.1, by rw [eb]; exact hb.2, by have := h.1.fit; cases t <;> exact this, fun x hx => ?_⟩, mv_ok i l (t.box :: put) _ (fun u hu => d u (by simp [hu])) (fun x hx => ?_) h.2⟩
    · rw [eu] at hx
      obtain ⟨y, hy, rfl⟩ := List.mem_map.mp hx
      have dy := du y hy
      have ly := i.lo y dy.1 dy.2
      exact ⟨ly.1, ly.2, hp y (h.1.us y hy).2.2⟩
    · rw [eb]
      rcases List.mem_cons.mp hx with rfl | hx
      · exact List.mem_cons_self
      · exact List.mem_cons_of_mem _ (hp x hx)
/-! ### two exchanged -/
theorem swap_ok {put P S : List Stp} {pt : List Int} {one oth : Stp} (hu : oth.uses = []) (h : okSt pt (P ++ one :: oth :: S)) : okSt pt (P ++ oth :: one :: S) := by
  rw [okSt_app] at h ⊢
  obtain ⟨h1, h2, h3, h4⟩ := h
  refine ⟨h1, ⟨h3.lo, h3.hi, h3.fit, fun x hx => (by rw [hu] at hx; cases hx)⟩, ok_mono (fun x hx => List.mem_cons_of_mem _ hx) h2, okSt_mono (fun x hx => ?_) h4⟩
  simp only [List.mem_cons] at hx ⊢
  rcases hx with rfl | rfl | hx
  · exact .inr (.inl rfl)
  · exact .inl rfl
  · exact .inr (.inr hx)
theorem swap_two {one oth : Stp} {p q : Int} {H : Bk} (hu : oth.uses = []) (hne : one.box ≠ oth.box) (hun : ∀ x ∈ one.uses, x ≠ oth.box) (c : bcan [(one, p), (oth, q)] H) : bcan [(oth, q), (one, p)] H ∧ brun [(oth, q), (one, p)] H = brun [(one, p), (oth, q)] H := by
  obtain ⟨c1, c2, _⟩ := c
  have hl : ∀ G, oth.bleft G = G := fun G => by cases oth <;> first | rfl | (simp [Stp.uses] at hu)
  have hv : ∀ n G, oth.bval n G = oth.bval n noB := fun n G => by cases oth <;> first | rfl | (simp [Stp.uses] at hu)
  have lk : ∀ G y, (∀ x ∈ one.uses, x ≠ y) → one.bleft G y = G y := fun G y hy => by
    cases one with
    | say b x => exact takeB_ne (hy x (by simp [Stp.uses]))
    | bin b o x z => exact (takeB_ne (hy z (by simp [Stp.uses]))).trans (takeB_ne (hy x (by simp [Stp.uses])))
    | _ => rfl
  have f2 : H oth.box = none := by
    have := c2.fr
    rw [hl] at this
    rw [show one.bk p H oth.box = one.bleft H oth.box from putB_ne hne, lk H _ hun] at this
    exact this
  have lp : ∀ v, one.bleft (putB H oth.box v) = putB (one.bleft H) oth.box v := fun v => by
    funext y
    by_cases e : oth.box = y
    · rw [← e, putB_eq, lk _ _ hun, putB_eq]
    · rw [putB_ne e]
      cases one with
      | say b x =>
        show takeB _ x y = takeB _ x y
        unfold takeB
        rw [putB_ne e]
      | bin b o x z =>
        show takeB (takeB _ x) z y = takeB (takeB _ x) z y
        unfold takeB
        rw [putB_ne e]
      | num b v => exact putB_ne e
      | nam b v => exact putB_ne e
      | ask b => exact putB_ne e
  have vp : ∀ v, one.bval p (putB H oth.box v) = one.bval p H := fun v => by
    cases one with
    | say b x => simp only [Stp.bval, putB_ne (hun x (by simp [Stp.uses])).symm]
    | bin b o x z => simp only [Stp.bval, putB_ne (hun x (by simp [Stp.uses])).symm, putB_ne (hun z (by simp [Stp.uses])).symm]
    | _ => rfl
  have e1 : oth.bk q H = putB H oth.box (oth.bval q noB) := by
    show putB (oth.bleft H) _ _ = _
    rw [hl, hv]
  refine ⟨⟨⟨fun x hx => (by rw [hu] at hx; cases hx), (by rw [hu]; exact List.nodup_nil), (by rw [hl]; exact f2)⟩, ⟨fun x hx => ?_, c1.nd, ?_⟩, trivial⟩, ?_⟩
  · show ∃ r, oth.bk q H x = some r
    rw [e1, putB_ne (hun x hx).symm]
    exact c1.us x hx
  · show one.bleft (oth.bk q H) one.box = none
    rw [e1, lp, putB_ne hne.symm]
    exact c1.fr
  · show one.bk p (oth.bk q H) = oth.bk q (one.bk p H)
    have r1 : one.bk p (oth.bk q H) = putB (putB (one.bleft H) oth.box (oth.bval q noB)) one.box (one.bval p H) := by
      show putB (one.bleft (oth.bk q H)) one.box (one.bval p (oth.bk q H)) = _
      rw [e1, lp, vp]
    have r2 : oth.bk q (one.bk p H) = putB (putB (one.bleft H) one.box (one.bval p H)) oth.box (oth.bval q noB) := by
      show putB (oth.bleft (one.bk p H)) oth.box (oth.bval q (one.bk p H)) = _
      rw [hl, hv]
      rfl
    rw [r1, r2]
    funext y
    by_cases e : one.box = y
    · rw [← e, putB_eq, putB_ne hne.symm, putB_eq]
    · rw [putB_ne e]
      by_cases e2 : oth.box = y
      · rw [← e2, putB_eq, putB_eq]
      · rw [putB_ne e2, putB_ne e2, putB_ne e]
theorem swap_all {s : Sm} {P S : List Stp} {one oth : Stp} {b lo : Int} (h : Backs s (P ++ one :: oth :: S) b lo) (hu : oth.uses = []) (hne : one.box ≠ oth.box) (hun : ∀ x ∈ one.uses, x ≠ oth.box) :
    bcan (labs 0 (P ++ oth :: one :: S)) noB ∧ brun (labs 0 (P ++ oth :: one :: S)) noB = putB noB b (s, louds (labs 0 P) ++ (louds [(one, (P.length : Int) + 1)] ++ (louds [(oth, (P.length : Int))] ++ louds (labs ((P.length : Int) + 2) S)))) := by
  have e1 : labs 0 (P ++ oth :: one :: S) = labs 0 P ++ ([(oth, (P.length : Int)), (one, (P.length : Int) + 1)] ++ labs ((P.length : Int) + 2) S) := by
    rw [labs_app, Int.zero_add]
    simp only [labs, List.cons_append, List.nil_append]
    rw [show (P.length : Int) + 1 + 1 = P.length + 2 by omega]
  have hz := h (labs 0 P ++ ([(one, (P.length : Int) + 1), (oth, (P.length : Int))] ++ labs ((P.length : Int) + 2) S)) noB (by simp [labs_map]) fun _ _ => rfl
  obtain ⟨c, r⟩ := hz
  rw [bcan_app, bcan_app] at c
  rw [brun_app, brun_app] at r
  obtain ⟨k1, k2⟩ := swap_two hu hne hun c.2.1
  rw [e1, bcan_app, bcan_app, brun_app, brun_app, k2]
  refine ⟨⟨c.1, k1, c.2.2⟩, ?_⟩
  rw [r]
  simp only [louds_app]
  rw [show louds [(one, (P.length : Int) + 1), (oth, (P.length : Int))] = louds [(one, (P.length : Int) + 1)] ++ louds [(oth, (P.length : Int))] from by rw [← louds_app]; rfl, List.append_assoc]
theorem psE {X : Cx} {E : XK} (hs : X.stack = X.env :: X.outer := by rfl) (hf : X.env.frame = some X.env.locals := by rfl) (hex : X.ex = [] := by rfl) {E₁ : Value → Shared → Prop} (hx : X.xe = fun e s' => wpAny (model X.prog X.w) X.A (PySem.leaving X.env e) (fun _ s'' => L2.CX X.prog X.w X.outer X.H_0 X.s_0 E e s'') E₁ s' := by rfl) : Passes (L2.CX X.prog X.w) X E := passes_call (takes_of hs hf hex hx) fun _ _ _ _ h => h
/-! the dict of what is held -/
def encB (v : BV) : D := .tup [enc v.1, .lst .own (v.2.map .int)]
def bD : Option BV → D
  | some v => encB v
  | none => .non
structure Hk (kvs : List (Key × D)) (H : Bk) : Prop where
  val : ∀ j : Int, (valD kvs (.inl j)).getD .non = bD (H j)
  nd : (kvs.map (·.1)).Nodup
  ky : ∀ k ∈ kvs.map (·.1), ∃ j : Int, k = .inl j
theorem hk_nil : Hk [] noB := ⟨fun _ => rfl, List.nodup_nil, fun _ h => by cases h⟩
theorem putD_keys {kvs : List (Key × D)} {k : Key} {v : D} : (putD kvs k v).map (·.1) = if (valD kvs k).isSome = true then kvs.map (·.1) else kvs.map (·.1) ++ [k] := by
  unfold putD
  rw [valD_some]
  split
  · rw [List.map_map]
    refine List.map_congr_left fun p _ => ?_
    show (if p.1 = k then (p.1, v) else p).1 = p.1
    split <;> rfl
  · rw [List.map_append]; rfl
theorem valD_key {kvs : List (Key × D)} {k : Key} : (valD kvs k).isSome = true ↔ k ∈ kvs.map (·.1) := by
  rw [valD_some, List.any_eq_true, List.mem_map]
  constructor
  · rintro ⟨p, hp, e⟩
    exact ⟨p, hp, of_decide_eq_true e⟩
  · rintro ⟨p, hp, e⟩
    exact ⟨p, hp, decide_eq_true e⟩
theorem hk_put {kvs : List (Key × D)} {H H' : Bk} {b : Int} {d : D} (h : Hk kvs H) (e1 : d = bD (H' b)) (e2 : ∀ j, b ≠ j → H' j = H j) : Hk (putD kvs (.inl b) d) H' := by
  refine ⟨fun j => ?_, ?_, fun k hk => ?_⟩
  · rw [valD_put]
    by_cases e : b = j
    · rw [e, if_pos rfl, ← e, e1]; rfl
    · rw [if_neg (fun z => e (Sum.inl.inj z)), h.val, e2 j e]
  · rw [putD_keys]
    split
    · exact h.nd
    · rename_i hn
      rw [List.nodup_append]
      refine ⟨h.nd, by simp, fun x hx y hy => ?_⟩
      rw [List.mem_singleton.mp hy]
      intro e
      exact hn (valD_key.mpr (by rw [← e]; exact hx))
  · rw [putD_keys] at hk
    split at hk
    · exact h.ky k hk
    · rcases List.mem_append.mp hk with hk | hk
      · exact h.ky k hk
      · exact ⟨b, List.mem_singleton.mp hk⟩
theorem hk_get {kvs : List (Key × D)} {H : Bk} {x : Int} {v : BV} (h : Hk kvs H) (hx : H x = some v) : valD kvs (.inl x) = some (encB v) := by
  have := h.val x
  rw [hx] at this
  cases e : valD kvs (.inl x) with
  | none => rw [e] at this; cases this
  | some d => rw [e] at this; exact congrArg some this
theorem putD_same {kvs : List (Key × D)} {k : Key} {v : D} (h : (valD kvs k).isSome = true) : (putD kvs k v).length = kvs.length := by
  have := congrArg List.length (putD_keys (kvs := kvs) (k := k) (v := v))
  rw [if_pos h] at this
  simpa using this
/-- the numbers of effects: each once -/
structure Ef (i : Int) (H : Bk) : Prop where
  rg : ∀ x v, H x = some v → ∀ e ∈ v.2, 0 ≤ e ∧ e < i
  nd : ∀ x v, H x = some v → v.2.Nodup
  dj : ∀ x y v w, x ≠ y → H x = some v → H y = some w → ∀ e ∈ v.2, e ∉ w.2
theorem ef_len {i : Nat} {H : Bk} (h : Ef i H) {x : Int} {v : BV} (hx : H x = some v) : v.2.length ≤ i := by
  have := nodup_len (m := v.2.map (· + 1)) (n := i) (by
    unfold List.Nodup
    rw [List.pairwise_map]
    exact (h.nd x v hx).imp fun hn e => hn (by omega)) fun y hy => by
      obtain ⟨e, he, rfl⟩ := List.mem_map.mp hy
      have := h.rg x v hx e he
      omega
  rw [List.length_map] at this
  exact this
theorem bleft_sub {t : Stp} {H : Bk} {y : Int} {v : BV} (h : t.bleft H y = some v) : H y = some v ∧ y ∉ t.uses := by
  cases t with
  | say b x =>
    by_cases e : x = y
    · rw [← e] at h; rw [show (Stp.say b x).bleft H x = none from takeB_eq] at h; cases h
    · rw [show (Stp.say b x).bleft H y = H y from takeB_ne e] at h
      exact ⟨h, by simp [Stp.uses]; exact fun z => e z.symm⟩
  | bin b o x z =>
    have h' : takeB (takeB H x) z y = some v := h
    by_cases e : z = y
    · rw [← e, takeB_eq] at h'; cases h'
    · rw [takeB_ne e] at h'
      by_cases e2 : x = y
      · rw [← e2, takeB_eq] at h'; cases h'
      · rw [takeB_ne e2] at h'
        exact ⟨h', by simp [Stp.uses]; exact ⟨fun z => e2 z.symm, fun z => e z.symm⟩⟩
  | num b v => exact ⟨h, by simp [Stp.uses]⟩
  | nam b v => exact ⟨h, by simp [Stp.uses]⟩
  | ask b => exact ⟨h, by simp [Stp.uses]⟩
theorem ef_bval {t : Stp} {H : Bk} {i : Int} (h : Ef i H) (h0 : 0 ≤ i) (c : t.can H) : (∀ e ∈ (t.bval i H).2, 0 ≤ e ∧ e < i + 1) ∧ (t.bval i H).2.Nodup ∧ ∀ y w, y ∉ t.uses → H y = some w → ∀ e ∈ w.2, e ∉ (t.bval i H).2 := by
  cases t with
  | num b v => exact ⟨fun e he => (by cases he), List.nodup_nil, fun y w _ _ e _ he => (by cases he)⟩
  | nam b v => exact ⟨fun e he => (by cases he), List.nodup_nil, fun y w _ _ e _ he => (by cases he)⟩
  | ask b =>
    refine ⟨fun e he => ?_, by simp [Stp.bval], fun y w _ hy e he he2 => ?_⟩
    · rw [List.mem_singleton.mp he]; omega
    · have := h.rg y w hy e he
      rw [List.mem_singleton.mp he2] at this
      omega
  | say b x =>
    obtain ⟨v, hv⟩ := c.us x (by simp [Stp.uses])
    have e0 : (Stp.say b x).bval i H = (.say v.1, v.2 ++ [i]) := by simp only [Stp.bval, hv, Option.getD_some]
    rw [e0]
    refine ⟨fun e he => ?_, ?_, fun y w hy hw e he he2 => ?_⟩
    · rcases List.mem_append.mp he with he | he
      · have := h.rg x v hv e he; omega
      · rw [List.mem_singleton.mp he]; omega
    · rw [List.nodup_append]
      refine ⟨h.nd x v hv, by simp, fun a ha b hb => ?_⟩
      have := h.rg x v hv a ha
      rw [List.mem_singleton.mp hb]
      omega
    · rcases List.mem_append.mp he2 with he2 | he2
      · exact h.dj y x w v (fun z => hy (by rw [z]; simp [Stp.uses])) hw hv e he he2
      · have := h.rg y w hw e he
        rw [List.mem_singleton.mp he2] at this
        omega
  | bin b o x z =>
    obtain ⟨v, hv⟩ := c.us x (by simp [Stp.uses])
    obtain ⟨u, hu⟩ := c.us z (by simp [Stp.uses])
    have ne : x ≠ z := by have := c.nd; simpa [Stp.uses] using this
    have e0 : (Stp.bin b o x z).bval i H = (.bin o v.1 u.1, v.2 ++ u.2) := by simp only [Stp.bval, hv, hu, Option.getD_some]
    rw [e0]
    refine ⟨fun e he => ?_, ?_, fun y w hy hw e he he2 => ?_⟩
    · rcases List.mem_append.mp he with he | he
      · have := h.rg x v hv e he; omega
      · have := h.rg z u hu e he; omega
    · rw [List.nodup_append]
      exact ⟨h.nd x v hv, h.nd z u hu, fun a ha b hb e => h.dj x z v u ne hv hu a ha (by rw [e]; exact hb)⟩
    · rcases List.mem_append.mp he2 with he2 | he2
      · exact h.dj y x w v (fun q => hy (by rw [q]; simp [Stp.uses])) hw hv e he he2
      · exact h.dj y z w u (fun q => hy (by rw [q]; simp [Stp.uses])) hw hu e he he2
theorem ef_step {t : Stp} {H : Bk} {i : Int} (h : Ef i H) (h0 : 0 ≤ i) (c : t.can H) : Ef (i + 1) (t.bk i H) := by
  obtain ⟨b1, b2, b3⟩ := ef_bval h h0 c
  have old : ∀ y v, t.box ≠ y → t.bk i H y = some v → H y = some v ∧ y ∉ t.uses := fun y v hy hv => bleft_sub ((putB_ne hy).symm.trans hv)
  have new : ∀ v, t.bk i H t.box = some v → v = t.bval i H := fun v hv => (Option.some.inj (putB_eq.symm.trans hv)).symm
  refine ⟨fun x v hx e he => ?_, fun x v hx => ?_, fun x y v w hxy hx hy e he he2 => ?_⟩
  · by_cases hb : t.box = x
    · rw [← hb] at hx
      rw [new v hx] at he
      exact b1 e he
    · have := h.rg x v (old x v hb hx).1 e he
      omega
  · by_cases hb : t.box = x
    · rw [← hb] at hx
      rw [new v hx]
      exact b2
    · exact h.nd x v (old x v hb hx).1
  · by_cases hb : t.box = x
    · have hby : t.box ≠ y := fun z => hxy (hb.symm.trans z)
      rw [← hb] at hx
      rw [new v hx] at he
      obtain ⟨k1, k2⟩ := old y w hby hy
      exact b3 y w k2 k1 e he2 he
    · obtain ⟨k1, k2⟩ := old x v hb hx
      by_cases hb2 : t.box = y
      · rw [← hb2] at hy
        rw [new w hy] at he2
        exact b3 x v k2 k1 e he he2
      · exact h.dj x y v w hxy k1 (old y w hb2 hy).1 e he he2
theorem ef_nil : Ef 0 noB := ⟨fun _ _ h => (by cases h), fun _ _ h => (by cases h), fun _ _ _ _ _ h => (by cases h)⟩
/-! numbers compared as lists -/
theorem eqv_ints : ∀ xs ys : List Int, PyData.eqvAll ((xs.map D.int).map toPf) ((ys.map D.int).map toPf) = decide (xs = ys)
  | [], [] => rfl
  | [], y :: ys => rfl
  | x :: xs, [] => rfl
  | x :: xs, y :: ys => by
    show ((x == y) && PyData.eqvAll _ _) = _
    rw [eqv_ints xs ys]
    by_cases e : x = y <;> by_cases e2 : xs = ys <;> simp [e, e2]
theorem ints_shaped (xs : List Int) : SeqAt.shaped (.list ((xs.map D.int).map toPf)) = true := by
  have key : PyData.canLayAll0 ((xs.map D.int).map toPf) = true ∧ PyData.depthAll ((xs.map D.int).map toPf) = 0 := by
    induction xs with
    | nil => exact ⟨rfl, rfl⟩
    | cons x xs ih =>
      simp only [List.map_cons, toPf, PyData.canLayAll0, PyData.depthAll, ih.1, ih.2]
      exact ⟨rfl, rfl⟩
  unfold SeqAt.shaped
  rw [Bool.and_eq_true]
  refine ⟨key.1, decide_eq_true ?_⟩
  show PyData.depthAll ((xs.map D.int).map toPf) + 1 ≤ 64
  rw [key.2]
  decide
theorem sorted_is {xs ys : List Int} (hp : ys.Perm xs) (hs : ys.Pairwise (· ≤ ·)) : xs = ys ↔ xs.Pairwise (· ≤ ·) := by
  constructor
  · rintro rfl; exact hs
  · intro h
    exact (List.Perm.eq_of_pairwise (fun a b _ _ h1 h2 => Int.le_antisymm h1 h2) h hs hp.symm)
theorem left_one {kvs : List (Key × D)} {H : Bk} (h : Hk kvs H) {b : Int} {v : BV} (hH : H = putB noB b v) (p : D → Bool) (hp : ∀ j : Int, p (.int j) = true → ∃ w, H j = some w) : ((kvs.map fun kv => keyD kv.1).filter p).length ≤ 1 := by
  have hn : ((kvs.map fun kv => keyD kv.1).filter p).Pairwise (· ≠ ·) := by
    refine List.Pairwise.filter _ ?_
    rw [List.pairwise_map]
    have := h.nd
    unfold List.Nodup at this
    rw [List.pairwise_map] at this
    refine List.Pairwise.imp_of_mem (fun {a c} ha hc hne e => ?_) this
    obtain ⟨i, hi⟩ := h.ky a.1 (List.mem_map.mpr ⟨a, ha, rfl⟩)
    obtain ⟨j, hj⟩ := h.ky c.1 (List.mem_map.mpr ⟨c, hc, rfl⟩)
    rw [hi, hj] at e hne
    exact hne (congrArg Sum.inl (D.int.inj e))
  have hall : ∀ d ∈ (kvs.map fun kv => keyD kv.1).filter p, d = .int b := fun d hd => by
    obtain ⟨h1, h2⟩ := List.mem_filter.mp hd
    obtain ⟨kv, hkv, rfl⟩ := List.mem_map.mp h1
    obtain ⟨j, hj⟩ := h.ky kv.1 (List.mem_map.mpr ⟨kv, hkv, rfl⟩)
    rw [hj] at h2 ⊢
    obtain ⟨w, hw⟩ := hp j h2
    rw [hH] at hw
    by_cases e : b = j
    · rw [e]; rfl
    · rw [putB_ne e] at hw; cases hw
  generalize (kvs.map fun kv => keyD kv.1).filter p = m at hn hall
  match m, hn, hall with
  | [], _, _ => exact Nat.zero_le _
  | [x], _, _ => exact Nat.le_refl _
  | x :: y :: r, hn, hall => exact absurd ((hall x (by simp)).trans (hall y (by simp)).symm) ((List.pairwise_cons.mp hn).1 y (by simp))
theorem swd_loud (t : Stp) : inV (.str t.wd) [.str "say", .str "ask"] = t.loud := by
  cases t with
  | bin b o x y => cases o <;> rfl
  | _ => rfl
def Stp.lf : Stp → Bool
  | .num _ _ => true
  | .nam _ _ => true
  | _ => false
theorem swd_lf (t : Stp) : inV (.str t.wd) [.str "num", .str "name"] = t.lf := by
  cases t with
  | bin b o x y => cases o <;> rfl
  | _ => rfl
/-- what the parts of a step come to -/
structure PartsOf (t : Stp) (n : Int) (G : Bk) (vs : List BV) : Prop where
  few : vs.length ≤ 2
  sm : enc (t.bval n G).1 = .tup (.str t.wd :: vs.map fun v => enc v.1)
  ef : (t.bval n G).2 = vs.flatMap (·.2) ++ if t.loud = true then [n] else []
theorem encB_ne {v : BV} : ∃ ds, encB v = .tup ds := ⟨_, rfl⟩
end DL

/-! A def whose code is known; cuts; boxes moved -/
namespace DL
open PySem L2 PyProof.Rows
theorem fnIc {P : Program} {w : World} {K : PySem.W.Frag} {mg : Str → Option Value} {base : Heap} {x qual : Str} {st : Stmt} {f c : Addr} {oc kV doc pm ct : Value} {od an : Option Addr} {osl : Array (Option Value)} {N ps : List Str} {k : Nat} {S : Sq}
    (lk : K.lookup f = some ⟨oc, od, .func (PySem.W.fnOf x qual (defArgs st) (defBody st) (defScope st) .none kV doc pm an (.ref c) ct), osl⟩) (hcd : PySem.W.codeIn K (.ref c) qual = true) (sc : FnScope N ps (defScope st)) (hl : ∀ ds M Q X, S ds M Q X → ds.length = ps.length)
    (hb : ∀ (A : Around) (outer : List Env) (s : Shared) (H : Hp) (E : XK), Room k (A.deeper (envOfC qual (defScope st) s.heap.objs.size f (.ref c))) →
      ∃ t, PSs (cxOf CX0 P w K mg base N qual (defScope st) f (.ref c) A outer s H E).nox (defBody st) t ∧ ∀ B ds M Qd Xd, S ds M Qd Xd → DS ⟨K, B, E, Xd⟩ t { nx := fun _ M' => Qd .non M', rt := Qd } (startD N ds) M) :
    FnOk P w K mg base (L2.CX P w) (k + 1) f (PySem.W.fnOf x qual (defArgs st) (defBody st) (defScope st) .none kV doc pm an (.ref c) ct) ps (spI K S) := by
  refine ok_cx (fn_of (CX := CX0) lk hcd sc (fun vs H Q E h => ?_) fun A outer s H vs Q E hr h => ?_)
  · obtain ⟨B, ds, M, Qd, Xd, t1, g, hs, _⟩ := h
    exact len_of t1 (hl _ _ _ _ hs)
  · obtain ⟨t, h1, h2⟩ := hb A outer s H E hr
    exact ⟨t, h1.nox, runI (B := H) h h2⟩
def lamQ : Str := ("law" : Str) ++ ".<locals>." ++ "<lambda>"
theorem cut_take {xs : List D} {k : Nat} : cutD xs none (some (k : Int)) = xs.take k := by
  unfold cutD
  rw [HT.sIx_none, HT.sIx_nat, List.drop_zero, Nat.sub_zero, List.take_eq_take_iff]
  omega
theorem cut_drop {xs : List D} {k : Nat} : cutD xs (some (k : Int)) none = xs.drop k := by
  unfold cutD
  rw [HT.sIx_none, HT.sIx_nat]
  by_cases h : k ≤ xs.length
  · rw [Nat.min_eq_left h, ← List.length_drop, List.take_length]
  · rw [Nat.min_eq_right (by omega), List.drop_eq_nil_of_le (Nat.le_refl _), List.drop_eq_nil_of_le (by omega), List.take_nil]
def piOf (os : List Int) (x : Int) : Int := os.getD x.toNat 0
theorem pi_get {os : List Int} {x : Int} (h0 : 0 ≤ x) (h1 : x < os.length) : atI (os.map D.int) x = some (.int (piOf os x)) := by
  have hj : x.toNat < os.length := by omega
  have := atI_nat (xs := os.map D.int) (j := x.toNat) (v := .int (piOf os x)) (by
    rw [List.getElem?_map, List.getElem?_eq_getElem hj]
    unfold piOf
    rw [List.getD_eq_getElem?_getD, List.getElem?_eq_getElem hj]
    rfl)
  rw [show ((x.toNat : Nat) : Int) = x by omega] at this
  exact this
theorem pi_inj {os : List Int} (hn : os.Nodup) (hr : ∀ x ∈ os, 0 ≤ x ∧ x < 200) : Inj (piOf os) os.length := by
  refine ⟨fun x y x0 x1 y0 y1 e => ?_, fun x x0 x1 => ?_⟩
  · have hx : x.toNat < os.length := by omega
    have hy : y.toNat < os.length := by omega
    unfold piOf at e
    rw [List.getD_eq_getElem?_getD, List.getD_eq_getElem?_getD, List.getElem?_eq_getElem hx, List.getElem?_eq_getElem hy, Option.getD_some, Option.getD_some] at e
    have key : ∀ (i j : Nat) (hi : i < os.length) (hj : j < os.length), i < j → os[i] ≠ os[j] := List.pairwise_iff_getElem.mp hn
    rcases Nat.lt_trichotomy x.toNat y.toNat with z | z | z
    · exact absurd e (key _ _ hx hy z)
    · omega
    · exact absurd e.symm (key _ _ hy hx z)
  · have hx : x.toNat < os.length := by omega
    unfold piOf
    rw [List.getD_eq_getElem?_getD, List.getElem?_eq_getElem hx, Option.getD_some]
    exact hr _ (List.getElem_mem hx)
theorem swd_use (t : Stp) : inV (.str t.wd) [.str "add", .str "less", .str "times", .str "say"] = !t.uses.isEmpty := by
  cases t with
  | bin b o x y => cases o <;> rfl
  | _ => rfl
theorem swd_leaf (t : Stp) : inV (.str t.wd) [.str "num", .str "name", .str "ask"] = t.uses.isEmpty := by
  cases t with
  | bin b o x y => cases o <;> rfl
  | _ => rfl
theorem tl_use {t : Stp} (h : t.uses ≠ []) : t.tl = t.uses.map D.int := by cases t <;> first | rfl | exact absurd rfl h
theorem mv_enc (π : Int → Int) (t : Stp) : encS (t.mv π) = .tup ([.int (π t.box), .str t.wd] ++ if t.uses.isEmpty = true then t.tl else (t.uses.map π).map D.int) := by cases t <;> rfl
/-- a telling of a sum that is put back to it -/
structure BackOk (s : Sm) (l : List Stp) : Prop where
  ne : l ≠ []
  len : l.length ≤ 200
  ok : okSt [] l
  can : bcan (labs 0 l) noB
  run : brun (labs 0 l) noB = putB noB (lastBox l) (s, louds (labs 0 l))
theorem back_cst {s : Sm} (g : s.good) : BackOk s (s.cst 0) := by
  obtain ⟨h1, h2⟩ := backs_all (cst_backs s 0)
  have t := tells_cst g
  exact ⟨t.ne, by have := t.len; have := g.sz; omega, t.ok, h1, by rw [h2, cst_lastB]⟩
theorem back_tst {s : Sm} (g : s.good) : BackOk s (s.tst 0) := by
  obtain ⟨h1, h2⟩ := backs_all (tst_backs s 0)
  have t := tells_tst g
  exact ⟨t.ne, by have := t.len; have := g.sz; omega, t.ok, h1, by rw [h2, tst_lastB]⟩
theorem back_lst {s : Sm} (g : s.good) : BackOk s (s.lst 0) := by
  obtain ⟨h1, h2⟩ := backs_all (lst_backs s 0)
  have t := tells_lst g
  exact ⟨t.ne, by have := t.len; have := g.sz; omega, t.ok, h1, by rw [h2, lst_lastB]⟩
theorem lastBox_mv {π : Int → Int} {l : List Stp} (h : l ≠ []) : lastBox (l.map (Stp.mv π)) = π (lastBox l) := by
  obtain ⟨l', t, rfl⟩ : ∃ l' t, l = l' ++ [t] := ⟨l.dropLast, l.getLast h, (List.dropLast_concat_getLast h).symm⟩
  rw [List.map_append, List.map_singleton, lastBox_app, lastBox_app]
  cases t <;> rfl
/-- all boxes, and all that are used, within m -/
theorem okSt_inD {l : List Stp} {m : Int} : ∀ {put : List Int}, okSt put l → (∀ x ∈ put, 0 ≤ x ∧ x < m) → (∀ t ∈ l, 0 ≤ t.box ∧ t.box < m) → ∀ t ∈ l, t.inD m := by
  induction l with
  | nil => exact fun _ _ _ t ht => by cases ht
  | cons a l ih =>
    intro put h hp hb t ht
    rcases List.mem_cons.mp ht with rfl | ht
    · exact ⟨hb t (by simp), fun x hx => hp x (h.1.us x hx).2.2⟩
    · refine ih h.2 (fun x hx => ?_) (fun u hu => hb u (by simp [hu])) t ht
      rcases List.mem_cons.mp hx with rfl | hx
      · exact hb a (by simp)
      · exact hp x hx
theorem cst_inD {s : Sm} (g : s.good) : ∀ t ∈ s.cst 0, t.inD 60 := okSt_inD (tells_cst g).ok (fun x hx => by cases hx) fun t ht => by
  have := (cst_boxes s 0 t.box).mp (List.mem_map.mpr ⟨t, ht, rfl⟩)
  have := g.sz
  omega
theorem tst_inD {s : Sm} (g : s.good) : ∀ t ∈ s.tst 0, t.inD 60 := okSt_inD (tells_tst g).ok (fun x hx => by cases hx) fun t ht => by
  have h1 := (tst_boxes s 0 t.box).mp (List.mem_map.mpr ⟨t, ht, rfl⟩)
  have h2 := (tw_le s).2.1
  have := g.dp
  omega
theorem back_mv {s : Sm} {l : List Stp} {b lo : Int} {π : Int → Int} (i : Inj π 60) (hB : Backs s l b lo) (hl : lastBox l = b) (k : BackOk s l) (d : ∀ t ∈ l, t.inD 60) (h0 : 0 ≤ b) (h1 : b < 60) : BackOk s (l.map (Stp.mv π)) := by
  obtain ⟨g1, g2⟩ := mv_all i hB d h0 h1
  exact ⟨fun z => k.ne (List.map_eq_nil_iff.mp z), by rw [List.length_map]; exact k.len, mv_ok i l [] [] d (fun x hx => by cases hx) k.ok, g1, by rw [g2, lastBox_mv k.ne, hl]⟩
theorem back_sorted {s : Sm} {l : List Stp} (k : BackOk s l) : (louds (labs 0 l)).Pairwise (· ≤ ·) := (louds_labs l 0).1.imp Int.le_of_lt
/-- two neighbours of a cut, the second with no part -/
structure SwapOk (s : Sm) (l : List Stp) (k : Nat) (one oth : Stp) : Prop where
  ne : l.take k ++ oth :: one :: l.drop (k + 2) ≠ []
  len : (l.take k ++ oth :: one :: l.drop (k + 2)).length ≤ 200
  ok : okSt [] (l.take k ++ oth :: one :: l.drop (k + 2))
  can : bcan (labs 0 (l.take k ++ oth :: one :: l.drop (k + 2))) noB
theorem Up.get {l : List Stp} (h : Up l) {i : Nat} {t : Stp} (e : l[i]? = some t) : t.box = (i : Int) := by
  have h1 : (l.map Stp.box)[i]? = some t.box := by rw [List.getElem?_map, e]; rfl
  have hi := (List.getElem?_eq_some_iff.mp e).1
  rw [h, List.getElem?_map, List.getElem?_range hi] at h1
  exact (Option.some.inj h1).symm
theorem cst_up : ∀ (s : Sm) (n : Nat), (s.cst n).map Stp.box = (List.range (s.cst n).length).map fun i : Nat => ((n + i : Nat) : Int)
  | .num v, n => by simp [Sm.cst, Stp.box]
  | .nam v, n => by simp [Sm.cst, Stp.box]
  | .ask, n => by simp [Sm.cst, Stp.box]
  | .say a, n => by
    have h := cst_up a n
    have hl := cst_len' a n
    simp only [Sm.cst, List.map_append, List.length_append, List.length_singleton, List.map_cons, List.map_nil, Stp.box, List.range_succ, h, hl]
    simp
  | .bin o a c, n => by
    have h := cst_up a n
    have h2 := cst_up c (n + a.sz)
    have hl := cst_len' a n
    have hl2 := cst_len' c ((n + a.sz : Nat) : Int)
    rw [Int.natCast_add] at h2 hl2
    simp only [Sm.cst, List.map_append, List.length_append, List.length_singleton, List.map_cons, List.map_nil, Stp.box, List.range_succ, h, h2, hl, hl2, List.range_add, List.map_map]
    simp only [List.append_assoc, List.append_cancel_left_eq]
    congr 1
    · refine List.map_congr_left fun i _ => ?_
      show ((n + a.sz + i : Nat) : Int) = ((n + (a.sz + i) : Nat) : Int)
      omega
    · simp
      omega
theorem swap_back {s : Sm} (g : s.good) {k : Nat} {one oth : Stp} (h1 : (s.cst 0)[k]? = some one) (h2 : (s.cst 0)[k + 1]? = some oth) (hu : oth.uses = []) : SwapOk s (s.cst 0) k one oth ∧
    brun (labs 0 ((s.cst 0).take k ++ oth :: one :: (s.cst 0).drop (k + 2))) noB = putB noB ((s.sz : Int) - 1) (s, louds (labs 0 ((s.cst 0).take k)) ++ (louds [(one, (k : Int) + 1)] ++ (louds [(oth, (k : Int))] ++ louds (labs ((k : Int) + 2) ((s.cst 0).drop (k + 2)))))) := by
  have hk := (List.getElem?_eq_some_iff.mp h2).1
  have hlen := cst_len' s 0
  have hz := g.sz
  have e : s.cst 0 = (s.cst 0).take k ++ one :: oth :: (s.cst 0).drop (k + 2) := by
    have e1 := drop_get h1
    have e2 := drop_get h2
    rw [e2] at e1
    rw [← e1, List.take_append_drop]
  have up : Up (s.cst 0) := by
    have := cst_up s 0
    simp only [Nat.zero_add] at this
    exact this
  have b1 := up.get h1
  have b2 := up.get h2
  have ho := okSt_get (tells_cst g).ok h1
  have hB := cst_backs s 0
  rw [Int.zero_add] at hB
  rw [e] at hB
  have hlk : ((s.cst 0).take k).length = k := by rw [List.length_take]; omega
  have hun : ∀ x ∈ one.uses, x ≠ oth.box := fun x hx z => by
    have hm := (ho.us x hx).2.2
    rw [List.append_nil, List.mem_reverse] at hm
    obtain ⟨u, hu1, hu2⟩ := List.mem_map.mp hm
    obtain ⟨j, hj⟩ := List.mem_iff_getElem?.mp hu1
    have hjk := (List.getElem?_eq_some_iff.mp hj).1
    rw [List.getElem?_take_of_lt (by omega)] at hj
    have := up.get hj
    omega
  obtain ⟨g1, g2⟩ := swap_all hB hu (by rw [b1, b2]; omega) hun
  rw [hlk] at g2
  refine ⟨⟨by simp, ?_, ?_, g1⟩, g2⟩
  · simp only [List.length_append, List.length_cons, List.length_drop, hlk]
    omega
  · have := (tells_cst g).ok
    rw [e] at this
    exact swap_ok (put := []) hu this
theorem swap_last {s : Sm} (g : s.good) {k : Nat} {one oth : Stp} (h1 : (s.cst 0)[k]? = some one) (h2 : (s.cst 0)[k + 1]? = some oth) (hu : oth.uses = []) (hs : k + 2 < s.sz) : lastBox ((s.cst 0).take k ++ oth :: one :: (s.cst 0).drop (k + 2)) = (s.sz : Int) - 1 := by
  have hlen := cst_len' s 0
  have hb := cst_lastB s 0
  unfold lastBox at *
  have e : ((s.cst 0).take k ++ oth :: one :: (s.cst 0).drop (k + 2)).getLast? = (s.cst 0).getLast? := by
    rw [List.getLast?_append, List.getLast?_cons_cons, List.getLast?_cons, List.getLast?_drop, if_neg (by omega)]
    cases z : (s.cst 0).getLast? with
    | none => rw [List.getLast?_eq_none_iff] at z; rw [z] at hlen; simp at hlen; omega
    | some t => simp
  rw [e, hb]
  omega
/-- the last step of a cut of more than one is no leaf -/
theorem cst_end {s : Sm} {t : Stp} (h : (s.cst 0)[s.sz - 1]? = some t) (hs : 1 < s.sz) : t.uses ≠ [] := by
  have key : ∀ (l : List Stp) (u : Stp), s.cst 0 = l ++ [u] → t = u := fun l u e => by
    have hl := cst_len' s 0
    rw [e] at h hl
    rw [List.length_append, List.length_singleton] at hl
    rw [List.getElem?_append_right (by omega), show s.sz - 1 - l.length = 0 by omega] at h
    exact (Option.some.inj h).symm
  cases s with
  | num v => simp [Sm.sz] at hs
  | nam v => simp [Sm.sz] at hs
  | ask => simp [Sm.sz] at hs
  | say a => rw [key _ _ rfl]; simp [Stp.uses]
  | bin o a c => rw [key _ _ rfl]; simp [Stp.uses]
theorem swap_sort {s : Sm} {k : Nat} {one oth : Stp} (hk : k ≤ (s.cst 0).length) : (louds (labs 0 ((s.cst 0).take k)) ++ (louds [(one, (k : Int) + 1)] ++ (louds [(oth, (k : Int))] ++ louds (labs ((k : Int) + 2) ((s.cst 0).drop (k + 2)))))).Pairwise (· ≤ ·) ↔ (one.loud && oth.loud) = false := by
  obtain ⟨p1, p2⟩ := louds_labs ((s.cst 0).take k) 0
  obtain ⟨q1, q2⟩ := louds_labs ((s.cst 0).drop (k + 2)) ((k : Int) + 2)
  have hlk : ((s.cst 0).take k).length = k := by rw [List.length_take]; omega
  rw [hlk] at p2
  have e1 : ∀ (t : Stp) (n : Int), louds [(t, n)] = if t.loud = true then [n] else [] := fun t n => by
    unfold louds
    rw [List.filter_cons]
    dsimp only
    cases t.loud <;> rfl
  rw [e1, e1]
  generalize louds (labs 0 ((s.cst 0).take k)) = A at p1 p2 ⊢
  generalize louds (labs ((k : Int) + 2) ((s.cst 0).drop (k + 2))) = C at q1 q2 ⊢
  have p1' := p1.imp (S := (· ≤ ·)) Int.le_of_lt
  have q1' := q1.imp (S := (· ≤ ·)) Int.le_of_lt
  cases one.loud <;> cases oth.loud <;> simp only [Bool.false_eq_true, if_false, if_true, List.nil_append, List.singleton_append, Bool.and_false, Bool.and_true, Bool.true_and, iff_true, reduceCtorEq, iff_false]
  · exact List.pairwise_append.mpr ⟨p1', q1', fun x hx y hy => by have := p2 x hx; have := q2 y hy; omega⟩
  · refine List.pairwise_append.mpr ⟨p1', List.pairwise_cons.mpr ⟨fun y hy => by have := q2 y hy; omega, q1'⟩, fun x hx y hy => ?_⟩
    have := p2 x hx
    rcases List.mem_cons.mp hy with rfl | hy
    · omega
    · have := q2 y hy; omega
  · refine List.pairwise_append.mpr ⟨p1', List.pairwise_cons.mpr ⟨fun y hy => by have := q2 y hy; omega, q1'⟩, fun x hx y hy => ?_⟩
    have := p2 x hx
    rcases List.mem_cons.mp hy with rfl | hy
    · omega
    · have := q2 y hy; omega
  · intro h
    have h2 := (List.pairwise_append.mp h).2.1
    have := (List.pairwise_cons.mp h2).1 (k : Int) (by simp)
    omega
theorem ints_erase (xs : List Int) (j : Nat) : (xs.map D.int).eraseIdx j = (xs.eraseIdx j).map D.int := by
  rw [List.eraseIdx_eq_take_drop_succ, List.eraseIdx_eq_take_drop_succ, List.map_append, List.map_take, List.map_drop]
theorem erase_perm {lf os : List Int} {j : Nat} {x : Int} (h : lf[j]? = some x) : (lf.eraseIdx j ++ (os ++ [x])).Perm (lf ++ os) := by
  have e : lf = lf.take j ++ x :: lf.drop (j + 1) := by rw [← drop_get h, List.take_append_drop]
  have e2 : lf.eraseIdx j = lf.take j ++ lf.drop (j + 1) := List.eraseIdx_eq_take_drop_succ _ _
  rw [e2]
  have p1 : (lf.take j ++ lf.drop (j + 1) ++ (os ++ [x])).Perm (x :: (lf.take j ++ lf.drop (j + 1) ++ os)) := by
    rw [← List.append_assoc]
    exact List.perm_append_singleton x _
  refine p1.trans ?_
  have p2 : (lf ++ os).Perm (x :: (lf.take j ++ lf.drop (j + 1) ++ os)) := by
    have : lf ++ os = lf.take j ++ x :: (lf.drop (j + 1) ++ os) := by
      rw [← List.cons_append, ← List.append_assoc, ← e]
    rw [this, List.append_assoc]
    exact List.perm_middle
  exact p2.symm
theorem rg_nodup (n : Nat) : (rgD n).Nodup := by
  unfold rgD List.Nodup
  rw [List.pairwise_map]
  exact (List.nodup_range (n := n)).imp fun h e => h (by omega)
theorem rg_mem {n : Nat} {x : Int} (h : x ∈ rgD n) : 0 ≤ x ∧ x < n := by
  obtain ⟨i, hi, rfl⟩ := List.mem_map.mp h
  have := List.mem_range.mp hi
  omega
theorem order_inj {lf os : List Int} (h : (lf ++ os).Perm (rgD 200)) (hl : os.length = 60) : Inj (piOf os) 60 := by
  have hn := (h.nodup_iff.mpr (rg_nodup 200))
  have h2 := (List.nodup_append.mp hn).2.1
  have := pi_inj h2 fun x hx => rg_mem (h.mem_iff.mp (List.mem_append_right _ hx))
  rw [hl] at this
  exact this
end DL

/-! A set of the texts of a list, sorted: which texts are told -/
namespace L2
open PySem PyProof.Rows
structure TxR (P : Program) (w : World) (D : Froz.SD) (l : List Str) : Prop where
  ok : Froz.TxOk P w D l
  ris : Ris D.2.2.place.toList
  led : w.params.followText "set-order" = true ∨ D.2.2.led = true
  nd : l.Nodup
theorem nodup_le {α : Type} [DecidableEq α] : ∀ {l m : List α}, l.Nodup → (∀ x ∈ l, x ∈ m) → l.length ≤ m.length
  | [], _, _, _ => Nat.zero_le _
  | x :: l, m, h, k => by
    obtain ⟨h1, h2⟩ := List.nodup_cons.mp h
    have hx := k x List.mem_cons_self
    have q := nodup_le (m := m.erase x) h2 fun y hy => (List.mem_erase_of_ne fun z : y = x => h1 (z ▸ hy)).mpr (k y (List.mem_cons_of_mem _ hy))
    rw [List.length_erase_of_mem hx] at q
    have := List.length_pos_of_mem hx
    rw [List.length_cons]
    omega
def SetS (P : Program) (w : World) (hp : Heap) (a : Addr) (l : List Str) : Prop := ∃ D, hp.get? a = some (Froz.sObj "set" D) ∧ TxR P w D l
section
variable {P : Program} {w : World} {A : Around} {E : Value → Shared → Prop} {s : Shared}
theorem tailR {F : Prop} {ep : Nat} {es1 : Array (Int × Value)} {t2 : SetTable} {wd : Bool} (h1 : Ris t2.place.toList) (h2 : F ∨ t2.led = true) : Ris (Froz.tailTx ep es1 t2 wd).2.2.place.toList ∧ (F ∨ (Froz.tailTx ep es1 t2 wd).2.2.led = true) := by
  unfold Froz.tailTx
  split
  · exact ⟨relayAll_ris _ _ _, h2.imp id fun z => (relayAll_led _ _ _).trans z⟩
  · exact ⟨h1, h2⟩
theorem TxR.add {D : Froz.SD} {l : List Str} {k : Str} (u : Tok) (R : TxR P w D l) (hk : k ∉ l) : TxR P w (Froz.addTx (hashStr w k) (.str k u) D) (k :: l) := by
  obtain ⟨es, ep, t⟩ := D
  have r1 := layNew_ris t es (hashStr w k) (.str k u) R.ris
  have l1 : w.params.followText "set-order" = true ∨ (layNew t es (hashStr w k) (.str k u)).2.1.led = true := R.led.imp id fun z => (layNew_led t es (hashStr w k) (.str k u)).trans z
  have q : Ris (Froz.addTx (hashStr w k) (.str k u) (es, ep, t)).2.2.place.toList ∧ (w.params.followText "set-order" = true ∨ (Froz.addTx (hashStr w k) (.str k u) (es, ep, t)).2.2.led = true) := by
    unfold Froz.addTx
    refine tailR ?_ ?_
    · split <;> exact r1
    · split <;> exact l1
  exact ⟨Froz.add_ok u R.ok, q.1, q.2, List.nodup_cons.mpr ⟨hk, R.nd⟩⟩
theorem TxR.new {t : SetTable} {ep : Nat} (hf : t.fits 0 = true) (hr : Ris t.place.toList) (hl : w.params.followText "set-order" = true ∨ t.led = true) : TxR P w (#[], ep, t) [] := ⟨Froz.TxOk.nil hf, hr, hl, List.nodup_nil⟩
theorem add_old {a : Addr} {T : String} {D : Froz.SD} {l : List Str} {k : Str} {u : Tok} {Q : Bool → Shared → Prop} (at0 : s.heap.get? a = some (Froz.sObj T D)) (F : Froz.TxOk P w D l) (hk : k ∈ l) (room : l.length < scanBound) (fin : Q false s) : wpAny (model P w) A (setAddHashed a (.str k u) (hashStr w k)) Q E s := by
  obtain ⟨es, ep, t⟩ := D
  have key1 : (strKind P w).is k (.str k u) = true := Froz.is_str k u
  have few : es.size < scanBound := by have z : es.size = l.length := F.sz; omega
  unfold setAddHashed setAddHashedIn
  refine wpAny_holding (wpAny_bind (wpAny_setState_of at0 (es := es) (ep := ep) (t := t) rfl F.fit ?_))
  dsimp only
  rw [byScan_of (knd := strKind P w) rfl few F.el]
  simp only [↓reduceIte]
  unfold setAddByScan
  refine wpAny_bind (wpAny_bind (wpAny_rule (wpAny_bind (wpAny_setScan_of (knd := strKind P w) (k := k) key1 at0 rfl F.fit F.el ?_))))
  cases hfi : List.findIdx? (fun e => (strKind P w).is k e.2) es.toList with
  | some j => exact wpAny_pure (wpAny_pure fin)
  | none =>
    obtain ⟨e, he, z⟩ := (F.mem k).mp hk
    exact absurd z (Bool.eq_false_iff.mp (List.findIdx?_eq_none_iff.mp hfi e he))
theorem setS_add {a : Addr} {l : List Str} {k : Str} {u : Tok} {Q : Bool → Shared → Prop} (R : SetS P w s.heap a l) (room : l.length + 1 < scanBound)
    (fin : ∀ (b : Bool) (hp : Heap) (m : List Str), Heap.SameBut a s.heap hp → SetS P w hp a m → m.length ≤ l.length + 1 → (∀ x, x ∈ m ↔ x ∈ l ∨ x = k) → Q b { s with heap := hp }) : wpAny (model P w) A (setAddHashed a (.str k u) (hashStr w k)) Q E s := by
  obtain ⟨D, hD, R⟩ := R
  by_cases hk : k ∈ l
  · exact add_old hD R.ok hk (by omega) (fin false s.heap l (Heap.SameBut.refl a s.heap) ⟨D, hD, R⟩ (by omega) fun x => ⟨.inl, fun z => z.elim id fun e => e ▸ hk⟩)
  · refine Froz.add_x hD R.ok hk room (fin true _ (k :: l) (Heap.SameBut.update s.heap a _) ⟨_, Froz.get_upd _ hD rfl, R.add u hk⟩ (Nat.le_refl _) fun x => ?_)
    rw [List.mem_cons]
    exact Or.comm
theorem SetS.at {hp hp' : Heap} {a : Addr} {l : List Str} (R : SetS P w hp a l) (k : ∀ o, hp.get? a = some o → hp'.get? a = some o) : SetS P w hp' a l := by
  obtain ⟨D, hD, R⟩ := R
  exact ⟨D, k _ hD, R⟩
theorem set_update_strs {I : Addr} {fp wr : List Addr} {G : Array GenState → Array GenState → Prop} {n : Nat} {Pv : Nat → Value → Prop} {St : Nat → Shared → Prop} {R : Result → Shared → Prop}
    (W : WalksS P w A.in1 I fp wr G n Pv St) (S : Addr) (nfp : S ∉ fp) (ss : List Str) (hn : n = ss.length) (hb : ss.length + 1 < scanBound) (which : ∀ i v, Pv i v → ∃ k t, ss[i]? = some k ∧ v = .str k t) :
    ∀ (k i : Nat) (s : Shared), n - i = k → i ≤ n → St i s → (∃ l, l.length ≤ i ∧ SetS P w s.heap S l ∧ ∀ x, x ∈ l ↔ x ∈ ss.take i) →
      (∀ s' l, Moved (S :: wr) G s s' → SetS P w s'.heap S l → (∀ x, x ∈ l ↔ x ∈ ss) → R (.ok (.ret .none)) s') →
      codeAny (model P w) A (.builtin "set.update.loop" ⟨[.ref S, .ref I], []⟩) R s := by
  have nwr : S ∉ wr := fun z => nfp (W.sub _ z)
  have more : ∀ b ∈ wr, b ∈ S :: wr := fun b z => List.mem_cons_of_mem _ z
  intro k
  induction k with
  | zero =>
    intro i s ek hi st0 ⟨l, hc, hS, hm⟩ fin
    obtain rfl : i = n := by omega
    refine codeAny_builtin F.entry_set_update_loop ?_
    rw [Around.under_plainId F.plain_set_update_loop _]
    show wpAny _ A.in1 (pyNext (.ref I) >>= _) _ _ s
    refine wpAny_bind (W.done s _ _ st0 fun s2 mv => ?_)
    show wpAny _ A.in1 (ret Value.none) _ _ s2
    refine wpAny_pure (fin s2 l (mv.mono more) (hS.at fun o e => mv.heap S o nwr e) fun x => ?_)
    rw [hm, List.take_of_length_le (by omega)]
  | succ k ih =>
    intro i s ek hi st0 ⟨l, hc, hS, hm⟩ fin
    have lt : i < n := by omega
    refine codeAny_builtin F.entry_set_update_loop ?_
    rw [Around.under_plainId F.plain_set_update_loop _]
    show wpAny _ A.in1 (pyNext (.ref I) >>= _) _ _ s
    refine wpAny_bind (W.item i s _ _ lt st0 fun v s2 pv st2 mv => ?_)
    obtain ⟨z, t, hz, rfl⟩ := which i v pv
    have S2 : SetS P w s2.heap S l := hS.at fun o e => mv.heap S o nwr e
    show wpAny _ A.in1 (holding [Value.str z t] (setAdd S (.str z t)) >>= _) _ _ s2
    refine wpAny_bind (wpAny_holding ?_)
    unfold setAdd
    refine wpAny_holding (wpAny_bind ((strKind P w).pyHash (k := z) (Froz.is_str _ _) ?_))
    refine setS_add (s := { s2 with toks := s2.toks + 1 }) S2 (by omega) fun b hp m sb S3 lm mm => ?_
    refine wpAny_pure ⟨plainId_quiet F.plain_set_update_loop _, ih (i + 1) _ (by omega) lt (W.frame _ s2 _ _ st2 (Nat.le_succ _) fun b hb o e => ?_) ⟨m, by omega, S3, fun x => ?_⟩ fun s4 l4 mv4 S4 m4 => ?_⟩
    · rw [sb.2 b fun z : b = S => nfp (z ▸ hb)]
      exact e
    · rw [mm, hm, List.take_add_one, hz]
      simp [List.mem_append]
    · refine fin s4 l4 (Moved.trans W.gtrans ((mv.mono more).then_heap (Nat.le_succ _) fun b o hb e => ?_) mv4) S4 m4
      rw [sb.2 b fun z : b = S => hb (z ▸ List.mem_cons_self)]
      exact e
theorem strsA_get : ∀ {vs : List Value} {ss : List Str}, StrsAre vs ss → ∀ (i : Nat) (v : Value), vs[i]? = some v → ∃ k t, ss[i]? = some k ∧ v = .str k t
  | _, _, .cons y t r, 0, v, h => ⟨y, t, rfl, (Option.some.inj h).symm⟩
  | _, _, .cons y t r, i + 1, v, h => strsA_get r i v h
theorem strsAre_len : ∀ {vs : List Value} {ss : List Str}, StrsAre vs ss → vs.length = ss.length
  | _, _, .nil => rfl
  | _, _, .cons y t r => congrArg (· + 1) (strsAre_len r)
def SetGotS (P : Program) (w : World) (s : Shared) (ss : List Str) (hp : Heap) (l : List Str) : Prop := SetS P w hp s.heap.objs.size l ∧ (∀ x, x ∈ l ↔ x ∈ ss) ∧ ∀ b o, s.heap.get? b = some o → hp.get? b = some o
theorem setOfStrs {l : Addr} {its : Array Value} (ns : List Str) {Q : Value → Shared → Prop} (hh : A.handled = none) (hl : s.heap.IsList l its) (hi : StrsAre its.toList ns) (hb : ns.length + 1 < scanBound)
    (h : ∀ h' tk c, SetGotS P w s ns h' c → Q (.ref s.heap.objs.size) { s with heap := h', toks := tk }) : wpAny (model P w) A (call (.type "set") [.ref l]) Q E s := by
  have hz : its.size = ns.length := by rw [← strsAre_len hi, Array.length_toList]
  obtain ⟨c0, tl0, hm0⟩ := F.called_set.mro
  have g1 := F.called_set.made
  have g2 := F.called_set.sub
  refine wpAny_call (codeAny_of_tree ?_)
  show wpAny _ _ (callAny (.type "set") _) _ _ _
  refine wpAny_pure ⟨Code.quiet_builtin _ (by decide +kernel), codeAny_builtin F.entry_type_call ?_⟩
  rw [Around.under_plain (weight_type_call_type "set" [.ref l] []) rfl]
  have g3 := F.called_set.notType
  have g4 := F.called_set.canCreate
  have g5 := F.typeCall_set_1 (.ref l)
  repeat (any_goals (first | assumption | wp_step))
  refine codeAny_mono (code_set_led1 (.ref l) (E := E) (Q₁ := fun u t => u = .ref s.heap.objs.size ∧ t = { s with heap := s.heap.push (bareSet w) }) ⟨rfl, rfl⟩) fun r t hr => ?_
  cases r with
  | error e => exact hr
  | ok fl =>
    cases fl with
    | ret u =>
      obtain ⟨rfl, rfl⟩ := hr
      have hS : (s.heap.push (bareSet w)).get? s.heap.objs.size = some (bareSet w) := Heap.get?_push_size _ rfl
      have hT : Shared.TypeIs { s with heap := s.heap.push (bareSet w) } (.ref s.heap.objs.size) "set" := ⟨_, hS, rfl⟩
      have g6 := F.called_set.init.lookup
      have g7 := F.called_set.init.bind (.ref s.heap.objs.size)
      repeat (any_goals (first | assumption | wp_step))
      refine codeAny_mono (codeAny_call_builtin (R := wants (fun r t => r = .none ∧ ∃ h' tk c, t = { s with heap := h', toks := tk } ∧ SetGotS P w s ns h' c) E) F.called_set.init.plain F.entry_set_init (check_set_init_1 hT ?_)) fun r t hr => ?_
      · obtain ⟨⟨oc, od, oda, osl⟩, ho, hc, nl, hd⟩ := hl
        simp only at hc hd
        subst hc
        subst hd
        have ho' : (s.heap.push (bareSet w)).get? l = some { cls := .type "list", dict := od, data := .seq its nl, slots := osl } := Heap.get?_push_of_some _ ho
        have g8 := F.sub_list_set
        have g9 := F.sub_list_frozenset
        have ga : (Value.type "list" == Value.type "dict") = false := by decide
        have hl1 : (s.heap.push (bareSet w)).IsList l its := ⟨_, ho', rfl, nl, rfl⟩
        unfold Builtin.«set.__init__» noKeywords Builtin.Frozenset.updateFrom
        generalize hPI : pyIter = PI
        wp_walk
        subst hPI
        refine wpAny_pyIter_list hl1 ?_
        refine wpAny_bind (wpAny_runValue ?_)
        have hlS : l < s.heap.objs.size := Heap.lt_size ho
        have e1 : (s.heap.push (bareSet w)).objs.size = s.heap.objs.size + 1 := Heap.size_push ..
        have hlI : l ≠ (s.heap.push (bareSet w)).objs.size := by rw [e1]; exact Nat.ne_of_lt (Nat.lt_succ_of_lt hlS)
        have hSf : s.heap.objs.size ∉ [(s.heap.push (bareSet w)).objs.size, l] := by
          rw [e1]
          simp only [List.mem_cons, List.not_mem_nil, or_false, not_or]
          exact ⟨Nat.ne_of_lt (Nat.lt_succ_self _), Nat.ne_of_gt hlS⟩
        have which : ∀ (i : Nat) (v : Value), its[i]? = some v → ∃ k t, ns[i]? = some k ∧ v = .str k t := fun i v hv => strsA_get hi i v (by rw [Array.getElem?_toList]; exact hv)
        refine set_update_strs ((Walks.list (by simp [hh]) _ l hlI its).toS) s.heap.objs.size hSf ns hz hb which (its.size - 0) 0 _ (by omega) (Nat.zero_le _) ⟨⟨_, Heap.get?_push_size _ rfl, rfl, rfl⟩, hl1.push _⟩ ⟨[], Nat.le_refl 0, ⟨(#[], 0, .fresh 0 0 (!w.params.followText "set-order")), Heap.get?_push_of_some _ (show (s.heap.push (bareSet w)).get? s.heap.objs.size = some (Froz.sObj "set" (#[], 0, .fresh 0 0 (!w.params.followText "set-order"))) from hS), TxR.new (by rfl) (show Ris _ from List.Pairwise.nil) ?_⟩, fun x => by simp⟩ ?_
        · show _ ∨ (!w.params.followText "set-order") = true
          cases w.params.followText "set-order"
          · exact .inr rfl
          · exact .inl rfl
        intro s' c' hm hS' hc'
        obtain ⟨h', gg, dd, tk', oo⟩ := s'
        have q1 : gg = s.gens := hm.gens
        have q2 : dd = s.drawn := hm.drawn
        have q3 : oo = s.os := hm.os
        subst q1
        subst q2
        subst q3
        show wpAny _ _ _ _ _ _
        refine wpAny_pure ?_
        show wpAny _ _ (ret Value.none) _ _ _
        refine wpAny_pure ⟨rfl, h', tk', c', rfl, hS', hc', fun b o e => ?_⟩
        have hb0 : b < s.heap.objs.size := Heap.lt_size e
        refine hm.heap b o ?_ (Heap.get?_push_of_some _ (Heap.get?_push_of_some _ e))
        rw [e1]
        simp only [List.mem_cons, List.not_mem_nil, or_false, not_or]
        exact ⟨Nat.ne_of_lt hb0, Nat.ne_of_lt (Nat.lt_succ_of_lt hb0)⟩
      · cases r with
        | error e => exact hr
        | ok f2 =>
          cases f2 with
          | ret r =>
            obtain ⟨rfl, h', tk, c', rfl, G⟩ := hr
            repeat (any_goals (first | assumption | wp_step))
            exact h _ _ _ G
          | _ => exact hr.elim
    | _ => exact hr.elim
theorem strs_all : ∀ {vs : List Value}, (∀ v ∈ vs, ∃ x t, v = Value.str x t) → ∃ ss, StrsAre vs ss ∧ ∀ x, x ∈ ss ↔ ∃ t, Value.str x t ∈ vs
  | [], _ => ⟨[], .nil, fun x => by simp⟩
  | v :: vs, h => by
    obtain ⟨x, t, rfl⟩ := h v List.mem_cons_self
    obtain ⟨ss, r, m⟩ := strs_all fun u hu => h u (List.mem_cons_of_mem _ hu)
    refine ⟨x :: ss, .cons x t r, fun y => ?_⟩
    rw [List.mem_cons, m]
    constructor
    · rintro (rfl | ⟨t2, h2⟩)
      · exact ⟨t, List.mem_cons_self⟩
      · exact ⟨t2, List.mem_cons_of_mem _ h2⟩
    · rintro ⟨t2, h2⟩
      rcases List.mem_cons.mp h2 with z | z
      · exact .inl (Value.str.inj z).1
      · exact .inr ⟨t2, z⟩
theorem strs_kind {vs : List Value} (hv : ∀ v ∈ vs, ∃ x t, v = Value.str x t) (h2 : 2 ≤ vs.length) {a : Addr} : Srt.Sortable P w A s a vs := by
  intro h' _
  obtain ⟨ss, r, _⟩ := strs_all hv
  refine ⟨oneType', fun Q E hq => ?_, fun p q hp hq => ?_⟩
  · match vs, r, h2 with
    | v1 :: v2 :: rest, r, _ =>
      rw [keyKind_strs r]
      exact wpAny_pure hq
    | [], _, h => exact absurd h (by decide)
    | [v], _, h => exact absurd h (by simp)
  · obtain ⟨x, t, e1⟩ := hv _ hp
    obtain ⟨y, u, e2⟩ := hv _ hq
    refine ⟨decide (x.cps.toList < y.cps.toList), ?_⟩
    rw [e1, e2, keyLt'_oneType]
    exact oneLt_str ⟨rfl, rfl⟩
theorem sortedOfSetS {a : Addr} {l : List Str} {Q : Value → Shared → Prop} (R : SetS P w s.heap a l) (hh : A.handled = none) (hb : l.length < scanBound)
    (fin : ∀ s' p (out : List Value) (c : Nat) (m : List Str), (∀ b o, s.heap.get? b = some o → s'.heap.get? b = some o) → s'.gens = s.gens → s'.os = s.os → s.heap.objs.size ≤ p →
      s'.heap.get? p = some (seqObj "list" out.toArray c) → StrsAre out m → (∀ k, k ∈ m ↔ k ∈ l) → m.length = l.length → Q (.ref p) s') : wpAny (model P w) A (call (.builtin "sorted") [.ref a]) Q E s := by
  obtain ⟨⟨es, ep, t⟩, hD, R⟩ := R
  have hsz : es.size = l.length := R.ok.sz
  refine Calls.call_function_entry kind_sorted plain_sorted entry_sorted (args_sorted1 _) ?_
  unfold Builtin.«sorted»
  refine wpAny_bind (m := checkCount "sorted" 1 1 _) (wpAny_pure ?_)
  refine wpAny_bind (collect_set (A := A.in1) hh ⟨_, hD, rfl, rfl⟩ R.ok.fit (by show es.size < scanBound; omega) R.ris R.led fun s1 vs k1 hz g1 o1 pm => ?_)
  have hvl : vs.length = l.length := by rw [pm.length_eq, List.length_map, Array.length_toList]; exact hsz
  have shp : ∀ e ∈ es.toList, ∃ x t, e.2 = Value.str x t := fun e he => by
    obtain ⟨⟨k, z, _⟩, _⟩ := R.ok.el e he
    obtain ⟨u, eu⟩ := Value.isStrOf_shape (x := k) (v := e.2) z
    exact ⟨k, u, eu⟩
  have hv : ∀ v ∈ vs, ∃ x t, v = Value.str x t := fun v hv => by
    obtain ⟨e, he, q⟩ := List.mem_map.mp (pm.mem_iff.mp hv)
    rw [← q]
    exact shp e he
  have hzl : vs.length ≤ sizeLine := by rw [hvl]; exact fits_of_scanBound hb
  refine wpAny_bind (wpAny_newList ?_ hzl)
  have hoL : (s1.heap.push (seqObj "list" vs.toArray 0)).get? s1.heap.objs.size = some (seqObj "list" vs.toArray 0) := Heap.get?_push_size _ rfl
  refine wpAny_bind (wpAny_holding (wpAny_call_entry slot_list_sort ⟨_, hoL, rfl⟩ entry_list_sort (Srt.list_sort_any hoL hzl (fun h2 => strs_kind hv h2) fun out hp => ⟨_, rfl, ?_⟩) (args_list_sort _)))
  obtain ⟨c, hc⟩ := sortedHeap_at (vs := vs) (out := out.toArray) hoL
  obtain ⟨m, hm, mm⟩ := strs_all fun v (z : v ∈ out) => hv v (hp.mem_iff.mp z)
  refine wpAny_pure ⟨_, rfl, fin _ s1.heap.objs.size out c m (fun b u e => ?_) g1 o1 hz hc hm (fun k => ?_) ?_⟩
  · have q := k1 b u e
    have lt1 := Heap.lt_size q
    show (sortedHeap (s1.heap.push (seqObj "list" vs.toArray 0)) s1.heap.objs.size vs out.toArray).get? b = some u
    rw [sortedHeap_old (Nat.ne_of_lt lt1) (by rw [size_push']; exact Nat.lt_succ_of_lt lt1)]
    exact Heap.get?_push_of_some _ q
  · rw [mm, R.ok.mem k]
    constructor
    · rintro ⟨u, z⟩
      obtain ⟨e, he, q⟩ := List.mem_map.mp (pm.mem_iff.mp (hp.mem_iff.mp z))
      exact ⟨e, he, by rw [q]; exact Froz.is_str k u⟩
    · rintro ⟨e, he, z⟩
      obtain ⟨u, eu⟩ := Value.isStrOf_shape (x := k) (v := e.2) z
      exact ⟨u, hp.mem_iff.mpr (pm.mem_iff.mpr (List.mem_map.mpr ⟨e, he, eu⟩))⟩
  · rw [← strsAre_len hm, hp.length_eq]
    exact hvl
end
/-- sorted(set(x)), x a list of texts -/
def tSortSetS (K : PySem.W.Frag) (ta : TE) : TE := fun σ H Q => ta σ H fun x H1 => ∃ (l : Addr) (ns : List Str), x = V.ref l ∧ SqL K H1 l (ns.map V.str) ∧ ns.length ≤ 4000 ∧
  ∀ (m : List Str) (p : Addr), (∀ k, k ∈ m ↔ k ∈ ns) → m.length ≤ ns.length → H1 p = none → Q (.ref p) (upd H1 p (.lst (m.map V.str)))
section
variable {X : Cx}
theorem pe_sortSetS {a : Expr} {ta : TE} {p p2 q pos : Pos} (hc : X.calm = true) (hg : Gl X "sorted") (hm : X.mg "sorted" = none) (hg2 : Gl X "set") (hm2 : X.mg "set" = none) (ha : PE X a ta)
    (na : starEach [a] X.env = (false, eval a X.env) :: starEach [] X.env := by rfl) : PE X (.Call (.Name "sorted" p) [.Call (.Name "set" p2) [a] [] q] [] pos) (tSortSetS X.K ta) := by
  refine ⟨fun pins s σ H Q I h => ?_⟩
  refine Call_ (ld_blt I hg hm (u := .builtin "sorted") (by decide +kernel) ?_)
  refine PyProof.Rows.callWith_builtin1 (PyProof.Rows.args_cons ?_ rfl) rfl rfl
  refine Call_ (ld_blt I hg2 hm2 PyProof.Rows.boot_set ?_)
  refine PyProof.Rows.callWith_type1 (PyProof.Rows.args_cons (thn (ha.run pins s σ H _ I h) fun v s1 ⟨x, H1, I1, r1, q1⟩ => PyProof.Rows.args_nil ?_) na) na rfl
  obtain ⟨l, ns, rfl, hq, h1, q1⟩ := q1
  cases r1
  obtain ⟨its, r, pl, hz⟩ := I1.list hq
  refine setOfStrs ns (I1.ok.hd hc) pl.isList (by simpa using r.strs) (by unfold scanBound; omega) fun h' tk c G => ?_
  obtain ⟨R, hcn, hk⟩ := G
  refine PyProof.Rows.args_nil ?_
  have hcl : c.length ≤ ns.length := by
    obtain ⟨D, _, R⟩ := R
    exact nodup_le R.nd fun x hx => (hcn x).mp hx
  have key : ∀ (s2 : Shared) (a : Addr), Inv X pins σ H1 s2 → SetS X.prog X.w s2.heap a c → wpAny (model X.prog X.w) X.A (call (.builtin "sorted") [.ref a]) (EP X pins σ Q) X.xe s2 := by
    intro s2 a I2 R
    refine sortedOfSetS R (I1.ok.hd hc) (by unfold scanBound; omega) fun s' p out c2 m k g o hp hg hi hmem hlen => ?_
    have hb : H1 p = none := I2.hok.fresh hp
    have hl2 : (m.map V.str).length ≤ sizeLine := by rw [List.length_map, hlen, sizeLine_eq]; omega
    have J : Inv X pins σ (upd H1 p (.lst (m.map V.str))) { s2 with heap := s'.heap, gens := s'.gens, drawn := s'.drawn, toks := s'.toks } :=
      I2.call (ch := []) (Un.laid k hp hb) (I2.hok.laid k hp ⟨hl2, out, c2, vals_of_strs hi, hg⟩) (by rw [g]; exact I2.bare) (fun _ z => nomatch z)
    have e : s' = { s2 with heap := s'.heap, gens := s'.gens, drawn := s'.drawn, toks := s'.toks } := by
      cases s'
      cases s2
      cases o
      rfl
    rw [e]
    exact ⟨.ref p, _, J, rfl, q1 m p (fun k => (hmem k).trans (hcn k)) (by omega) hb⟩
  exact key _ _ (I1.kept hk) R
theorem pe_sortSetSk (K : PySem.W.Frag) {a : Expr} {ta : TE} {p p2 q pos : Pos} (hc : X.calm = true) (hg : Gl X "sorted") (hm : X.mg "sorted" = none) (hg2 : Gl X "set") (hm2 : X.mg "set" = none) (ha : PE X a ta) (na : starEach [a] X.env = (false, eval a X.env) :: starEach [] X.env := by rfl) (h : X.K = K := by rfl) : PE X (.Call (.Name "sorted" p) [.Call (.Name "set" p2) [a] [] q] [] pos) (tSortSetS K ta) := by subst h; exact pe_sortSetS hc hg hm hg2 hm2 ha na
end
end L2
namespace DL
open PySem L2
section
variable {P : Pr} {M : Mp} {Q : D → Mp → Prop} {ε : DSt} {ta : TE}
theorem trs_strS {K : PySem.W.Frag} {B : Hp} {M : Mp} {H : Hp} {vs : List V} {xs : List Str} (t : Trs K B M H vs (xs.map D.str)) : vs = xs.map V.str := by
  induction xs generalizing vs with
  | nil => cases t; rfl
  | cons x xs ih =>
    cases t with
    | cons t1 t2 => rw [tr_str t1, ih t2]; rfl
theorem strS_trs {K : PySem.W.Frag} {B : Hp} {M : Mp} {H : Hp} : ∀ xs : List Str, Trs K B M H (xs.map V.str) (xs.map D.str)
  | [] => .nil
  | _ :: xs => .cons (.str _) (strS_trs xs)
theorem de_sortSetS (h : DE P ta ε M fun x M1 => ∃ xs : List Str, IsL M1 x (xs.map .str) ∧ xs.length ≤ 4000 ∧ ∀ m : List Str, (∀ k, k ∈ m ↔ k ∈ xs) → m.length ≤ xs.length → Q (.lst .own (m.map .str)) M1) : DE P (tSortSetS P.K ta) ε M Q := fun σ H R a k => by
  refine h σ H _ a fun v d M1 H1 t1 g1 e1 h1 => ?_
  obtain ⟨xs, hx, hl, q⟩ := h1
  obtain ⟨l, vs, rfl, h2, r2⟩ := hx.at t1 g1
  rw [trs_strS r2] at h2
  refine ⟨l, xs, rfl, .inl (.inl h2), hl, fun m p hm hk hp => ?_⟩
  exact k _ (.lst .own (m.map .str)) M1 _ (.lst (k := .own) (vs := m.map V.str) ⟨g1.free hp, upd_same, g1.base _ hp⟩ (strS_trs m)) (g1.new hp) (e1.trans (ext_new hp)) (q m hm hk)
end
end DL

/-! Pairs of a dict and a list compared; dict(d); d.pop(k); a told triple whose list changes -/
namespace PySem.SeqAt
open AutoSeq1 (wpAny_loadPart')
open MeetsSeq MeetsSeq2 MeetsSeq3 SeqRoads2
section
variable {prog : Program} {w : World}
theorem tup_alikeIn (a b : Addr) (us vs : Array Value) (n n2 : Nat) (da db : Option Addr) (sa sb : Array (Option Value)) (hz : us.size = vs.size) :
    MeetsIn prog w (Builtin.«tuple.__ne__» ⟨[.ref a, .ref b], []⟩)
      (fun A R s => s.heap.get? a = some { cls := .type "tuple", dict := da, data := .seq us n, slots := sa } ∧ s.heap.get? b = some { cls := .type "tuple", dict := db, data := .seq vs n2, slots := sb } ∧
        (∀ j (h1 : j < us.size) (h2 : j < vs.size), EqP prog w A.in1 s us[j] vs[j] true) ∧ R (.ok (.ret (.bool false))) s) :=
  .of_wp fun A R s h => by
    obtain ⟨hp, g, d, tk, os⟩ := s
    obtain ⟨ha, hb, he, h⟩ := h
    have f2 := AutoSeq1.sub_tuple_tuple
    have hZ : (us.toList.zip vs.toList).length = us.size := by simp [hz]
    wp_walk using wpAny_loadPart' ha, wpAny_loadPart' hb, wpAny_forIn_list _ (fun rest b s' => b.1 = none ∧ s' = ⟨hp, g, d, tk, os⟩ ∧ ∃ i, rest = (us.toList.zip vs.toList).drop i) _
    case turn =>
      rintro ⟨y, x⟩ rest b s' ⟨hb', rfl, i, ez⟩
      have lt : i < (us.toList.zip vs.toList).length := by
        rcases Nat.lt_or_ge i (us.toList.zip vs.toList).length with z | z
        · exact z
        · rw [List.drop_of_length_le z] at ez; cases ez
      have h1 : i < us.size := hZ ▸ lt
      have h2 : i < vs.size := hz ▸ h1
      rw [List.drop_eq_getElem_cons lt] at ez
      injection ez with e1 e2
      have ey : y = us[i] := by have := congrArg Prod.fst e1; simpa using this
      have ex : x = vs[i] := by have := congrArg Prod.snd e1; simpa using this
      subst ey ex
      refine wpAny_bind (he i h1 h2 _ _ ?_)
      wp_walk
      exact ⟨rfl, rfl, i + 1, e2⟩
    case fin =>
      rintro ⟨b1, b2⟩ s' ⟨hb', rfl, i, ez⟩
      simp only at hb'
      subst hb'
      wp_walk
      exact ⟨_, rfl, by simpa [Builtin.Tuple.tupleCompareSizes, bne, hz] using h⟩
    case h => exact ⟨rfl, rfl, 0, rfl⟩
theorem tups_alike {A : Around} {s : Shared} {a b : Addr} {us vs : Array Value} (ha : s.heap.IsTuple a us) (hb : s.heap.IsTuple b vs) (hz : us.size = vs.size) (hu : A.units < cLine)
    (he : ∀ j (h1 : j < us.size) (h2 : j < vs.size), EqP prog w A.in1 s us[j] vs[j] true) (E Q : Value → Shared → Prop) (h : Q (.bool false) s) : wpAny (model prog w) A (richCompare .NotEq (.ref a) (.ref b)) Q E s := by
  obtain ⟨⟨c1, d1, x1, s1⟩, o1, k1, n1, e1⟩ := id ha
  obtain ⟨⟨c2, d2, x2, s2⟩, o2, k2, n2, e2⟩ := id hb
  simp only at k1 e1 k2 e2
  subst k1 e1 k2 e2
  exact wpAny_richCompare_same_room (op := .NotEq) (show s.TypeIs (.ref a) "tuple" from ⟨_, o1, rfl⟩) (show s.TypeIs (.ref b) "tuple" from ⟨_, o2, rfl⟩) F.slot_tuple_ne
    (call_meetsIn F.slot_tuple_ne ⟨_, o1, rfl⟩ F.entry_tuple_ne (F.args_tuple_ne_2 _ _) (tup_alikeIn a b us vs n1 n2 d1 d2 s1 s2 hz) ⟨o1, o2, he, show Value.bool false ≠ Value.notImplemented ∧ Q (.bool false) s from ⟨(fun x => nomatch x), h⟩⟩) hu
end
end PySem.SeqAt
namespace L2
open PySem PySem.Spec PyProof.Rows
/-- two tuples whose items are alike, lists and dicts within -/
def rNeTD (K : PySem.W.Frag) : R2 := fun x y H Q => ∃ a b xs ys, x = .ref a ∧ y = .ref b ∧ SqT K H a xs ∧ SqT K H b ys ∧ Paired (EqV K H 3) xs ys ∧ Q (.bl false) H
section
variable {X : Cx}
theorem op_neTD (hu : X.A.units + 64 < cLine) : OpR X (compareOp .NotEq) (rNeTD X.K) := by
  intro pins s σ H x y v u Q I rx ry h
  obtain ⟨a, b, xs, ys, rfl, rfl, ha, hb, hp, q⟩ := h
  cases (show v = Value.ref a from rx)
  cases (show u = Value.ref b from ry)
  obtain ⟨us, r1, p1, _⟩ := I.tuple ha
  obtain ⟨ws, r2, p2, _⟩ := I.tuple hb
  have hz : us.toArray.size = ws.toArray.size := by
    rw [List.size_toArray, List.size_toArray, ← r1.length, ← r2.length]
    exact Paired.length hp
  refine SeqAt.tups_alike p1 p2 hz (by omega) (fun j h1 h2 => ?_) _ _ ⟨.bl false, H, I, rfl, q⟩
  have k := items_run (fun x y v u h rx ry => eqV_run I 3 X.A.in1 (by show X.A.units + 1 + 3 < cLine; omega) x y v u h rx ry) hp r1 r2 j (by simpa using h1) (by simpa using h2)
  simpa using k
end
theorem valV_here {κ : Type} [DecidableEq κ] : ∀ {ks : List (κ × V)}, (ks.map (·.1)).Nodup → ∀ p ∈ ks, valV ks p.1 = some p.2
  | [], _, p, h => by cases h
  | q :: ks, nd, p, h => by
    rw [List.map_cons, List.nodup_cons] at nd
    rcases List.mem_cons.mp h with rfl | h
    · exact valV_pos rfl
    · rw [valV_neg fun z => nd.1 (z ▸ List.mem_map.mpr ⟨p, h, rfl⟩)]
      exact valV_here nd.2 p h
end L2
namespace DL
open PySem PySem.Spec PyProof.Rows L2
theorem op_neTDk {X : Cx} (K : PySem.W.Frag) {k : Nat} (hr : Room k X.A) (h : X.K = K := by rfl) : OpR X (compareOp .NotEq) (rNeTD K) := by subst h; exact op_neTD hr.units
theorem nmK_keys : ∀ (vs : List Int) (n : Nat), ((nmK n vs).map (·.1)).Nodup ∧ ∀ k ∈ (nmK n vs).map (·.1), ∃ m, n ≤ m ∧ k = .inr ⟨#[m]⟩
  | [], n => ⟨List.nodup_nil, fun k h => by cases h⟩
  | v :: vs, n => by
    obtain ⟨h1, h2⟩ := nmK_keys vs (n + 1)
    rw [nmK, List.map_cons]
    refine ⟨List.nodup_cons.mpr ⟨fun z => ?_, h1⟩, fun k hk => ?_⟩
    · obtain ⟨m, hm, e⟩ := h2 _ z
      have := sgn_inj.mp e
      omega
    · rcases List.mem_cons.mp hk with rfl | hk
      · exact ⟨n, Nat.le_refl _, rfl⟩
      · obtain ⟨m, hm, e⟩ := h2 _ hk
        exact ⟨m, by omega, e⟩
theorem nmK_vals : ∀ (vs : List Int) (n : Nat), (nmK n vs).map (·.2) = vs.map D.int
  | [], _ => rfl
  | v :: vs, n => by rw [nmK, List.map_cons, nmK_vals vs]; rfl
theorem pairs_ext {α β : Type} : ∀ {l m : List (α × β)}, l.map (·.1) = m.map (·.1) → l.map (·.2) = m.map (·.2) → l = m
  | [], [], _, _ => rfl
  | [], q :: m, h, _ => by cases h
  | p :: l, [], h, _ => by cases h
  | (a, b) :: l, (c, d) :: m, h1, h2 => by
    simp only [List.map_cons, List.cons.injEq] at h1 h2
    obtain ⟨rfl, h1⟩ := h1
    obtain ⟨rfl, h2⟩ := h2
    rw [pairs_ext h1 h2]
theorem paired_flat {K : PySem.W.Frag} {H : Hp} {n : Nat} : ∀ gs : List Int, Paired (EqV K H (n + 1)) (gs.map V.int) (gs.map V.int)
  | [] => .nil
  | g :: gs => .cons (.inl ⟨rfl, rfl⟩) (paired_flat gs)
section
variable {P : Pr} {M : Mp} {Q : D → Mp → Prop} {ε : DSt}
theorem d2_nePair {a1 a2 b1 b2 : Addr} {vs gs : List Int} (ha1 : M a1 = some (.dic (nmK 97 vs))) (ha2 : M a2 = some (.lst (gs.map .int))) (hb1 : M b1 = some (.dic (nmK 97 vs))) (hb2 : M b2 = some (.lst (gs.map .int))) (q : Q (.bl false) M) :
    D2 P (rNeTD P.K) (.tup [.val (.ref a1), .val (.ref a2)]) (.tup [.val (.ref b1), .val (.ref b2)]) M Q := fun vx vy H R rx ry gd k => by
  obtain ⟨a, xs, rfl, h1, r1⟩ := tup_at rx
  obtain ⟨b, ys, rfl, h2, r2⟩ := tup_at ry
  obtain ⟨x1, x2, rfl, t1, t2⟩ := trs2 r1
  obtain ⟨y1, y2, rfl, t3, t4⟩ := trs2 r2
  cases tr_val t1
  cases tr_val t2
  cases tr_val t3
  cases tr_val t4
  obtain ⟨us, u1, u2⟩ := gd.cell _ _ ha2
  obtain ⟨ws, w1, w2⟩ := gd.cell _ _ hb2
  obtain ⟨ks, k1, k2, k3⟩ := gd.cell _ _ ha1
  obtain ⟨ls, l1, l2, l3⟩ := gd.cell _ _ hb1
  rw [nmK_vals] at k3 l3
  rw [trs_ints u2] at u1
  rw [trs_ints w2] at w1
  have e : ks = ls := pairs_ext (k2.trans l2.symm) ((trs_ints k3).trans (trs_ints l3).symm)
  subst e
  refine ⟨a, b, _, _, rfl, rfl, h1, h2, .cons (.inr (.inr (.inr ⟨a1, b1, ks, ks, rfl, rfl, k1, l1, rfl, fun p hp => ?_⟩))) (.cons (.inr (.inr (.inl ⟨a2, b2, _, _, rfl, rfl, SqL.of u1, SqL.of w1, paired_flat gs⟩))) .nil), k.here (.bl _) gd q⟩
  refine ⟨p.2, valV_here (by rw [k2]; exact (nmK_keys vs 97).1) p hp, .inl ⟨rfl, ?_⟩⟩
  have hm : p.2 ∈ vs.map V.int := by
    rw [← trs_ints k3]
    exact List.mem_map.mpr ⟨p, hp, rfl⟩
  obtain ⟨i, _, ei⟩ := List.mem_map.mp hm
  rw [← ei]
  rfl
abbrev rDictOf : List V → Hp → VK → Prop := fun xs H Q => ∃ (a : Addr) (kvs : List (Key × V)), xs = [.ref a] ∧ Rd H a (.dK kvs) ∧ ∀ p, H p = none → Q (.ref p) (upd H p (.dK kvs))
theorem dl_dictC {x : D} {kvs : List (Key × D)} (h : IsDi M x kvs) (q : ∀ p, M p = none → P.B p = none → Q (.val (.ref p)) (updM M p (.dic kvs))) : DL' P rDictOf [x] M Q := by
  intro vs H R r gd k
  obtain ⟨v, rfl, r1⟩ := trs1 r
  obtain ⟨a, ws, rfl, h1, r2⟩ := h.at r1 gd
  refine ⟨a, ws, rfl, .inl h1, fun p hp => ?_⟩
  have t := r2.ext (ext_cell (o := .dK ws) (c := .dic kvs) hp)
  exact k _ _ _ _ (.val _) (gd.newCell (c := .dic kvs) hp ⟨ws, upd_same, t.ks, t.vs⟩) (ext_cell hp) (q p (gd.free hp) (gd.base _ hp))
theorem call_dictA {X : Cx} : CallR X (.type "dict") rDictOf := call_dictD
theorem de_dpopI {td ty : TE} (h : DE P td ε M fun x M1 => (∃ kvs, IsDi M1 x kvs) ∧ DE P ty ε M1 fun y M2 => ∃ p kvs k i, x = .val (.ref p) ∧ y = keyD k ∧ M2 p = some (.dic kvs) ∧ valD kvs k = some (.int i) ∧ Q (.int i) (updM M2 p (.dic (dropD kvs k)))) : DE P (tDPop1 td ty) ε M Q := fun σ H R a k => by
  refine h σ H _ a fun v d M1 H1 t1 g1 e1 h1 => ?_
  obtain ⟨⟨kvs0, hi0⟩, h1⟩ := h1
  obtain ⟨p0, ws0, rfl, hp0, _⟩ := hi0.at t1 g1
  refine ⟨p0, rfl, .inl ⟨ws0, .inl hp0⟩, ?_⟩
  refine h1 σ H1 _ (a.ext g1 e1) fun w e M2 H2 t2 g2 e2 h2 => ?_
  obtain ⟨p, kvs, ky, i, rfl, rfl, hp, hv, q⟩ := h2
  cases tr_val t1
  cases key_tr t2
  obtain ⟨ws, h4, h5, h6⟩ := g2.cell _ _ hp
  have t : Tab P.K P.B M2 H2 ws kvs := ⟨h5, h6⟩
  obtain ⟨u, hu, tu⟩ := (t.val ky).1 _ hv
  cases tr_int tu
  have tt := (t.drop ky).ext (ext_set (o := .dK (dropK ws ky)) (c' := .dic (dropD kvs ky)) hp)
  refine ⟨ws, ky, .int i, h4, rfl, hu, ?_⟩
  exact k _ _ _ _ (.int i) (g2.set (c' := .dic (dropD kvs ky)) hp ⟨_, upd_same, tt.ks, tt.vs⟩) (e1.trans (e2.trans (ext_set hp))) q
variable {S' : Pq} {al : TA}
theorem de_callPT3 (h : DA P al ε M fun ds M1 => ∃ es, Vws M1 ds es ∧ S' es (fun d => ∃ i xs j, d = .tup [.int i, .lst .own xs, .int j] ∧ noLs xs = true ∧ ∀ p, M1 p = none → P.B p = none → Q (.tup [.int i, .val (.ref p), .int j]) (updM M1 p (.lst xs))) fun _ _ => False) : DE P (tCall (spP P.K S') [] E0 al) ε M Q := fun σ H R a k => by
  refine h σ H _ a fun vs ds M1 H1 t1 g1 e1 h1 => ?_
  obtain ⟨es, w, h1⟩ := h1
  refine callP_core (fun _ _ => False) t1 g1 w _ h1 (fun v d H' t o s g q => ?_) (fun _ _ _ _ x => x.elim)
  obtain ⟨i, xs, j, rfl, n, q⟩ := q
  cases t with
  | @tup ad us _ ha hr =>
    cases hr with
    | @cons vi _ vl _ t2 t3 =>
      cases t3 with
      | @cons vl2 _ vl3 _ t4 t5 =>
        cases t5 with
        | @cons vj _ _ _ t6 t7 =>
        cases t7
        cases tr_int t2
        cases tr_int t6
        obtain ⟨p, rfl, h2, h3, g4, e4⟩ := thaw g1 s t4 n
        refine k _ _ _ _ (.tup ?_ (.cons (.int _) (.cons (.val _) (.cons (.int _) .nil)))) g4 (e1.trans e4) (q p h2 h3)
        obtain ⟨ws, hw, _⟩ := g4.cell p _ updM_same
        rcases ha with ha | ha
        · refine .inl ⟨ha.1, ?_⟩
          rw [updM_ne (fun z => by have := ha.1; rw [z, hw] at this; cases this)]
          exact m_none g1 s ha.1
        · exact .inr ha
end
theorem drop_none {κ : Type} [DecidableEq κ] {kvs : List (κ × D)} {k : κ} : valD (dropD kvs k) k = none := by
  induction kvs with
  | nil => rfl
  | cons p kvs ih =>
    unfold dropD at ih ⊢
    rw [List.filter_cons]
    by_cases e : p.1 = k
    · rw [if_neg (by simp [e])]
      exact ih
    · rw [if_pos (by simp [e])]
      unfold valD at ih ⊢
      rw [List.find?_cons_of_neg (by simp [e])]
      exact ih
theorem drop_noL {κ : Type} [DecidableEq κ] {kvs : List (κ × D)} {k : κ} (h : noLs (kvs.map (·.2)) = true) : noLs ((dropD kvs k).map (·.2)) = true := by
  induction kvs with
  | nil => rfl
  | cons p kvs ih =>
    rw [List.map_cons, noLs, Bool.and_eq_true] at h
    unfold dropD at ih ⊢
    rw [List.filter_cons]
    by_cases e : p.1 = k
    · rw [if_neg (by simp [e])]
      exact ih h.2
    · rw [if_pos (by simp [e]), List.map_cons, noLs, Bool.and_eq_true]
      exact ⟨h.1, ih h.2⟩
end DL

/-! Refusals with a field: StepError.__init__(self, ..) within an own __init__; isinstance of such a one -/
namespace PySem.W
open PySem PySem.Spec PySem.Calls PyProof.Rows
section
variable {prog : Program} {w : World} {A : Around} {E : Value → Shared → Prop} {s : Shared} {K : Frag} {x D : Addr} {ox : Obj} {od : Option Obj}
theorem taken_first {C : Addr} {f : Str} {a g : Value} (c0 : (clsIn K C).isSome = true) (c1 : findIn K (.ref C) f = some (some a)) (c2 : specialIn K a "__get__" = some (some g)) (c3 : takesIn K a = some true) (c4 : ∀ cd, ∃ y, ownOf cd od f = some y) : findObj K C od f = some (.bind g a) := by
  obtain ⟨cd, e⟩ := Option.isSome_iff_exists.mp c0
  obtain ⟨y, ey⟩ := c4 cd
  unfold findObj
  rw [e, Option.bind_some, c1, Option.bind_some]
  simp [c2, c3, ey]
/-- its own dict can be asked -/
def Askable (od : Option Obj) : Prop := ∀ cd, ∃ y, ownOf cd od "__class__" = some y
theorem class_asked {Q : Option Value → Shared → Prop} (c1 : findIn K (.ref D) "__getattribute__" = some (some (.builtin "BaseException.__getattribute__"))) (c2 : findIn K (.ref D) "__getattr__" = some none) (c3 : subIn K (.ref D) (.type "BaseException") = some true)
    (c4 : hasDictIn K D = true) (c5 : findIn K (.ref D) "__class__" = some (some (.builtin "object.__class__"))) (c6 : specialIn K (.builtin "object.__class__") "__get__" = some (some (.builtin "getset_descriptor.__get__")))
    (c7 : takesIn K (.builtin "object.__class__") = some true) (c8 : mroIn K D (.type "object") = some true) (own : Askable od)
    (X : K.In s.heap) (I : InstAt s.heap x ox D od) (h : Q (some (.ref D)) { s with toks := s.toks + 1 }) : wpAny (model prog w) A (getAttr? (.ref x) "__class__") Q E s := by
  have fo : findObj K D od "__class__" = some (.bind (.builtin "getset_descriptor.__get__") (.builtin "object.__class__")) := taken_first (by obtain ⟨cd, e, _⟩ := any_some c4; rw [e]; rfl) c5 c6 c7 own
  obtain ⟨hp, g, d, t, os⟩ := s
  have l0 := I.type (M := model prog w)
  have l1 := looks_findIn (M := model prog w) X c1
  have l2 := looks_findIn (M := model prog w) X c2
  have l3 := looks_find (M := model prog w) X I fo
  have isx : Looks (model prog w) hp (isInstance (.ref x) (.type "BaseException")) true := l0.andThen (looks_subIn X c3)
  have n0 : (false && onTheHeap (Value.builtin "BaseException.__getattribute__")) = false := rfl
  have n1 : (onTheHeap (Value.ref D) && Value.builtin "BaseException.__getattribute__" == Value.builtin "object.__getattribute__") = false := by
    rw [show (Value.builtin "BaseException.__getattribute__" == Value.builtin "object.__getattribute__") = false by decide +kernel]
    rfl
  unfold getAttr? getAttrBy? getAttrBy
  refine wpAny_bind (wpAny_mkText (wpAny_bind (wpAny_attempt (wpAny_holding (wpAny_bind (l0.at (wpAny_bind (l1.at ?_))))))))
  show wpAny _ _ (if (onTheHeap (Value.ref D) && Value.builtin "BaseException.__getattribute__" == Value.builtin "object.__getattribute__") = true then _ else _) _ _ _
  rw [n1, if_neg Bool.false_ne_true]
  unfold getAttrByItsOwn hookBefore
  refine wpAny_bind ?_
  rw [if_pos (show onTheHeap (Value.ref D) = true by rfl)]
  refine l2.at (wpAny_bind (wpAny_attempt (wpAny_holding ?_)))
  unfold callGetattribute
  rw [n0, if_neg Bool.false_ne_true]
  unfold boundAndCalled
  rw [PySem.F.excAttr_ValueError.ga.bind (.ref x)]
  refine wpAny_bind (wpAny_pure ?_)
  show wpAny _ _ (call (.builtin "BaseException.__getattribute__") [.ref x, .str "__class__" t]) _ _ _
  refine wpAny_call (codeAny_call_builtin PySem.F.excAttr_ValueError.ga.plain PySem.F.entry_bexc_ga ?_)
  refine @check_slot (model prog w) _ _ ⟨hp, g, d, t + 1, os⟩ "BaseException.__getattribute__" "BaseException" "__getattribute__" (.ref x) [.str "__class__" t] [] _ (by decide +kernel) (by decide +kernel) isx (PySem.F.args_bexc_ga (.ref x) (.str "__class__" t)) ?_
  unfold Builtin.«object.__getattribute__»
  refine wpAny_bind (wpAny_of_eq (a := ((Value.ref x : Value), [Value.str "__class__" t])) (by first | rfl | (simp only [slotArgs]; rfl)) (wpAny_bind (wpAny_pure (wpAny_bind (l0.at (wpAny_bind (l3.at ?_)))))))
  show wpAny _ _ (holding [Value.builtin "object.__class__"] (call (.builtin "getset_descriptor.__get__") [.builtin "object.__class__", .ref x, .ref D]) >>= ret) _ _ _
  refine wpAny_bind (wpAny_holding (wpAny_call (class_get (s := ⟨hp, g, d, t + 1, os⟩) (ox := ox) (od := od) X I c8 (wpAny_pure ?_))))
  show wpAny _ _ (handedOut (.ref D)) _ _ _
  rw [handedOut_of (v := .ref D) rfl]
  first | exact wpAny_pure (wpAny_pure h) | exact wpAny_pure h | exact wpAny_pure (wpAny_bind (wpAny_pure (wpAny_pure h)))
theorem kitx_asked (c1 : findIn K (.ref D) "__getattribute__" = some (some (.builtin "BaseException.__getattribute__"))) (c2 : findIn K (.ref D) "__getattr__" = some none) (c3 : subIn K (.ref D) (.type "BaseException") = some true)
    (c4 : hasDictIn K D = true) (c5 : findIn K (.ref D) "__class__" = some (some (.builtin "object.__class__"))) (c6 : specialIn K (.builtin "object.__class__") "__get__" = some (some (.builtin "getset_descriptor.__get__")))
    (c7 : takesIn K (.builtin "object.__class__") = some true) (c8 : mroIn K D (.type "object") = some true) : KitX K (.ref x) (.ref D) (fun h => ∃ od, InstAt h x ox D od ∧ Askable od) where
  ty := fun _ _ _ ⟨_, I, _⟩ => I.type
  it := fun _ _ X _ => by
    obtain ⟨cd, e, _⟩ := any_some c4
    unfold clsIn at e
    split at e
    · rename_i q1 q2 q3 q4 ho
      intro A' Q' E' s' k q
      unfold isType loadHead
      exact wpAny_bind (wpAny_loadPart (k _ _ (X _ _ ho)) (by exact wpAny_pure q))
    · cases e
  ne := fun h tp dd its n sl X htp => by
    obtain ⟨cd, e, _⟩ := any_some c4
    refine Bool.eq_false_iff.mpr fun q => ?_
    obtain rfl : D = tp := Value.ref.inj (beq_iff_eq.mp q)
    unfold clsIn at e
    split at e
    · rename_i q1 q2 q3 q4 ho
      cases (X _ _ ho).symm.trans htp
    · cases e
  ca := fun X ⟨_, I, own⟩ k => class_asked c1 c2 c3 c4 c5 c6 c7 c8 own X I k
end
end PySem.W
namespace L2
open PySem PySem.Spec PyProof.Rows
/-- isinstance(e, c), e a caught one with fields -/
def rIsF (K : PySem.W.Frag) (D a d : Addr) : List V → Hp → VK → Prop := fun xs H Q => ∃ (c : V) (cv : Value) (b : Bool) (fs : List (Str × V)), xs = [.ref a, c] ∧ (∀ u, RelV c u → u = cv) ∧ PySem.W.kitOne K (.ref D) cv = some b ∧ H d = some (.xd fs) ∧ Q (.bl b) H
theorem call_isF {X : Cx} {a D dd : Addr} {oe : Obj} {pn : List (Addr × Obj)} (C : ExcC X.K D) (hz : Zc (.ref D) (some dd) oe) (hf : ∃ vs, oe.data = .fields vs) : CallR (X.suite a ((a, oe) :: pn)) (.builtin "isinstance") (rIsF X.K D a dd) := by
  intro pins s σ H xs us Q I r h
  obtain ⟨c, cv, b, fs, rfl, hcv, e, hx, q⟩ := h
  cases r with
  | cons rx rr =>
    cases rr with
    | cons rt rr =>
      cases rr
      cases rx
      have ec := hcv _ rt
      subst ec
      have at1 := (I.pin (a, oe) (List.mem_append.mpr (.inl List.mem_cons_self))).1
      obtain ⟨vs, hv⟩ := hf
      have xd : ObjOk X.prog X.w H s.heap dd (.xd fs) := I.hok dd _ hx
      obtain ⟨mA, hns, _⟩ := xd
      obtain ⟨od, ho, hl⟩ := lookIn_ns hns
      have J : ∃ o, PySem.W.InstAt s.heap a oe D o ∧ PySem.W.Askable o := ⟨some od, ⟨at1, hz.1, by unfold PySem.W.notCls; rw [hv] <;> rfl, by rw [hz.2]; exact ho⟩, fun cd => by
        unfold PySem.W.ownOf
        by_cases z : cd.hasDict = true
        · exact ⟨_, by rw [if_pos z]; exact hl _⟩
        · exact ⟨none, by rw [if_neg z]⟩⟩
      exact PySem.W.kia_one (PySem.W.kitx_asked C.hg C.hk C.hs C.hd C.ha C.hn C.ht C.hm) I.kIn J e (fun z => nomatch z) fun tk => ⟨.bl b, H, I.kept (t' := tk) fun _ _ z => z, rfl, q⟩
/-- what the written part says of a class whose __init__ is ValueError's -/
structure SeI (K : PySem.W.Frag) (C : Addr) (mc : Value) : Prop where
  rd : PySem.W.readsIn K C mc = true
  ga : PySem.W.specialIn K (.ref C) "__getattribute__" = some (some (.builtin "type.__getattribute__"))
  at_ : PySem.W.findCls K (.ref C) mc "__init__" = some (.val (.builtin "ValueError.__init__"))
section
variable {X : Cx} {e : Expr} {es : List Expr} {ta : TA} {p1 p2 pos : Pos}
/-- StepError.__init__(self, ..) -/
theorem pe_seinit {x : Str} {S : Addr} {mc : Value} {pl : Sem Bool} (hg : Gl X x) (hm : X.mg x = some (.ref S)) (k : SeI X.K S mc) (ha : PA X (e :: es) ta)
    (hc : eval (.Call (.Attribute (.Name x p1) "__init__" p2) (e :: es) [] pos) X.env = (do
      let ov ← eval (.Name x p1) X.env
      standAt p2.atName
      let (f, first) ← holding [ov] (getMethod ov "__init__" pl)
      callWith pos f first (backTo pos (starEach (e :: es) X.env)) (backToKw pos (keywordEach [] X.env))) := by rfl)
    (he : starEach (e :: es) X.env = (false, eval e X.env) :: starEach es X.env := by rfl) (hpl : (backTo pos (starEach es X.env)).any (·.1) = false := by rfl) (hdb : (x == ("__debug__" : Str)) = false := by decide) :
    PE X (.Call (.Attribute (.Name x p1) "__init__" p2) (e :: es) [] pos) (tVeI X.K ta) := by
  refine ⟨fun pins s σ H Q I h => ?_⟩
  refine PySem.W.methodCall_KW (ld_glob I hg hm ?_ hdb) hc
  refine PySem.W.method_cls I.kIn k.ga (PySem.W.cls_value I.kIn k.rd k.at_ (by decide +kernel) ?_)
  show wpAny _ _ (callWith pos (Value.builtin "ValueError.__init__") [] (backTo pos (starEach (e :: es) X.env)) []) _ _ _
  refine PyProof.Rows.callWith_method1 (thn (ha.run pos pins _ σ H _ (I.tok _) h) fun us s1 ⟨vs, H1, I1, r1, a, C, ws, ev, hl, T, ea, q⟩ => ?_) he hpl
  subst ev
  cases r1 with
  | @cons _ u0 _ ur ra rw' =>
    cases (show u0 = Value.ref a from ra)
    exact oinit_ok T I1 ea (by rw [← Paired.length rw', sizeLine_eq]; omega) fun s' J => ⟨.non, H1, J, rfl, q⟩
end
end L2

/-! A refusal with one field: its __init__, its raise -/
namespace DL
open PySem PySem.Spec PyProof.Rows L2
/-- an own __init__ that keeps one field -/
def spField (C : Addr) (fl : Str) : Sp := fun vs H Q _ => ∃ (a : Addr) (y : V), vs = [.ref a, y] ∧ H a = some (exo a C none) ∧ ∀ dx, H dx = none → dx ≠ a → Q .non (upd (upd H dx (exd dx [(fl, y)])) a (exo a C (some dx)))
def tField (K : PySem.W.Frag) (fl m : Str) : TS := tSeq (tDrop (tVeI K (tCons (tVar 0) (tCons (tC (.str m)) tNil)))) (tOst K fl (tVar 0) (tVar 1))
theorem ok_field {P : Program} {w : World} {K : PySem.W.Frag} {mg : Str → Option Value} {base : Heap} {x qual y : Str} {st : Stmt} {f C : Addr} {fd : FuncData} {N : List Str} {k : Nat} {fl m : Str} (F : Fun K x qual st f fd) (sc : FnScope N ["self", y] (defScope st)) (T : OexC K C) (no : PySem.W.findIn K (.ref C) fl = some none)
    (hb : ∀ (cdv : Value) (A : Around) (outer : List Env) (s : Shared) (H : Hp) (E : XK), Room k (A.deeper (envOfC qual (defScope st) s.heap.objs.size f cdv)) → PSs (cxOf (L2.CX P w) P w K mg base N qual (defScope st) f cdv A outer s H E) (defBody st) (tField K fl m)) :
    FnOk P w K mg base (L2.CX P w) (k + 1) f fd ["self", y] (spField C fl) := by
  refine F.okX sc (fun vs H Q E h => ?_) fun cdv A outer s H vs Q E hr h => ⟨_, hb cdv A outer s H E hr, ?_⟩
  · obtain ⟨a, z, rfl, _⟩ := h
    rfl
  · obtain ⟨a, z, rfl, ha, q⟩ := h
    have s0 : (L2.start N [.ref a, z])[0]? = some (some (.ref a)) := rfl
    have s1 : (L2.start N [.ref a, z])[1]? = some (some z) := rfl
    exact ⟨.ref a, s0, a, C, [.str m], rfl, by simp, T, ha, z, s1, .ref a, s0, a, C, rfl, T, no, .inl ⟨ha, fun dx n ne => q dx n ne⟩⟩
def tRaiseF (E : XK) (C : Addr) (fl : Str) (ta : TA) : TS := fun _ σ H => tMkO C (spField C fl) [] ta σ H fun cls d H' => E cls d H'
/-- what the top has of such a class -/
structure EKF (P : Program) (w : World) (K : PySem.W.Frag) (mg : Str → Option Value) (base : Heap) (x : Str) (C : Addr) (fl : Str) : Prop where
  oe : OexC K C
  gl : mg x = some (.ref C)
  ini : ∃ (fI : Addr) (fd : FuncData) (ps : List Str), PySem.W.findIn K (.ref C) "__init__" = some (some (.ref fI)) ∧ PySem.W.typeIn K (.ref fI) = some (.type "function") ∧ Binds K fd ps [] ∧ FnOk P w K mg base (L2.CX P w) 1 fI fd ps (spField C fl)
theorem ps_raiseF {X : Cx} {E : XK} {C : Addr} {x fl : Str} {e : Expr} {es : List Expr} {ta : TA} {p pos pos2 : Pos} (tk : Takes X (fun cls d _ H => E cls d H)) (k : EKF X.prog X.w X.K X.mg X.base x C fl) (hr : Room 2 X.A) (hg : Gl X x) (ha : PA X (e :: es) ta) (hc : X.calm = true := by rfl) (hdb : (x == ("__debug__" : Str)) = false := by decide)
    (he : starEach (e :: es) X.env = (false, eval e X.env) :: starEach es X.env := by rfl) (hpl : (backTo pos (starEach es X.env)).any (·.1) = false := by rfl) :
    PS X (.Raise (some (.Call (.Name x p) (e :: es) [] pos)) none pos2) (tRaiseF E C fl ta) := by
  obtain ⟨fI, fd, ps, iC, tI, hb, F1⟩ := k.ini
  exact ps_raise hc tk (pmk_oex k.oe iC tI F1 hr hb .nil passL hg k.gl ha hdb he hpl)
theorem ds_raiseF {P : Pr} {C : Addr} {fl : Str} {ta : TA} {G : DEnds} {ε : DSt} {M : Mp} (h : DA P ta ε M fun ds M1 => ∃ i, ds = [.int i] ∧ P.X (.ref C) (some [(fl, .int i)]) M1) : DS P (tRaiseF P.E C fl ta) G ε M := fun σ H E a l => by
  refine h σ H _ a fun vs ds M1 H1 t1 g1 e1 h1 => ?_
  obtain ⟨i, rfl, q⟩ := h1
  obtain ⟨v, rfl, t⟩ := trs1 t1
  cases tr_int t
  refine ⟨by simp, fun x hx => ⟨x, .int i, rfl, upd_same, fun dx n ne => ⟨rfl, dx, [(fl, .int i)], upd_same, ?_, ?_, ?_⟩⟩⟩
  · rw [upd_ne ne]
    exact upd_same
  · rw [upd_ne ne] at n
    exact n
  · rw [upd_ne ne] at n
    have eH : upd (del (upd (upd (upd H1 x (exo x C none)) dx (exd dx [(fl, .int i)])) x (exo x C (some dx))) x) dx (.xd [(fl, .int i)]) = upd H1 dx (.xd [(fl, .int i)]) := by
      funext b
      by_cases h1 : b = dx
      · rw [h1, upd_same, upd_same]
      · rw [upd_ne h1, upd_ne h1]
        by_cases h2 : b = x
        · rw [h2, del_same, hx]
        · rw [del_ne h2, upd_ne h2, upd_ne h1, upd_ne h2]
    rw [eH]
    exact a.link (.ref C) (some [(fl, .int i)]) M1 _ (g1.new n) (e1.trans (ext_new n)) q dx (g1.base _ n) (g1.free n) upd_same
end DL

/-! The law's own asker where a refusal may have a field -/
namespace DL
open PySem PySem.Spec PyProof.Rows L2
/-- what the asker tells of a refusal: its word, or its word and its field -/
def TTf (K : PySem.W.Frag) (CS : Addr) (Kd : Addr → Str → Prop) (Kf : Addr → Str → Str → Prop) : Gv := fun tl H Q => tl (fun cls d H' => ∃ C, cls = .ref C ∧ PySem.W.exmOne K cls (.ref CS) = some true ∧
  ((d = none ∧ ∃ w, Kd C w ∧ ∀ H'', Same H' H'' → Q (.str w) H'') ∨ ∃ dd w fl n, d = some dd ∧ Kf C w fl ∧ H' dd = some (.xd [(fl, .int n)]) ∧ ∀ H'' v, Same H' H'' → Tr K H' mt H'' v (.tup [.str w, .int n]) → Q v H'')) H Q
theorem de_kindF {P : Pr} {M : Mp} {Q : D → Mp → Prop} {ε : DSt} {p CS : Addr} {q : Str} {Kd : Addr → Str → Prop} {Kf : Addr → Str → Str → Prop} {t : XK → TE} (hM : M p = some (.tab q))
    (h : ∀ E', DE ⟨P.K, P.B, E', fun cls fs M' => ∃ C, cls = .ref C ∧ PySem.W.exmOne P.K cls (.ref CS) = some true ∧ ((fs = none ∧ ∃ w, Kd C w ∧ Q (.str w) M') ∨ ∃ w fl n, fs = some [(fl, .int n)] ∧ Kf C w fl ∧ Q (.tup [.str w, .int n]) M')⟩ (t E') ε M Q) : DE P (tKind p q (TTf P.K CS Kd Kf) t) ε M Q := fun σ H R a k => by
  obtain ⟨ps, h1, h2, h3⟩ := a.good.cell p _ hM
  refine ⟨ps, h1, h2, fun pos cv hc => ?_, fun H1 c1 ps1 w => ?_⟩
  · obtain ⟨d, e1, e2, _⟩ := h3 pos cv hc
    exact ⟨d, e1, e2⟩
  · obtain ⟨g, e⟩ := good_grow a.good hM h1 h3 w
    refine h _ σ H1 R ⟨a.env.ext e, g, fun cls fs M' H' g' e' ⟨C, h4, h5, h6⟩ => ?_⟩ (k.ext e)
    rcases h6 with ⟨rfl, wd, hk, hq⟩ | ⟨wd, fl, n, rfl, hk, hq⟩
    · exact ⟨C, h4, h5, .inl ⟨rfl, wd, hk, fun H'' s => k _ _ M' H'' (.str _) (g'.same s) (e.trans (e'.trans (same_ext g' s))) hq⟩⟩
    · exact fun d _ _ hx => ⟨C, h4, h5, .inr ⟨d, wd, fl, n, rfl, hk, hx, fun H'' v s t => k _ _ M' H'' (back_tr g' s t rfl) (g'.same s) (e.trans (e'.trans (same_ext g' s))) hq⟩⟩
/-! ### in the suite: what the caught one holds is carried as the wish of an exception -/
/-- the parameters under which H dd = xd l is known everywhere -/
def prF (K : PySem.W.Frag) (B : Hp) (dd : Addr) (l : List (Str × V)) : Pr := ⟨K, B, fun _ _ H' => H' dd = some (.xd l), fun _ fs _ => fs = none⟩
theorem linkF {K : PySem.W.Frag} {B H : Hp} {M : Mp} {dd : Addr} {l : List (Str × V)} (hM : M dd = none) (h : H dd = some (.xd l)) : ELink (prF K B dd l) M H := fun cls fs M' H' _ e x => by
  cases (show fs = none from x)
  exact (e dd _ hM h).2
theorem at_xd {K : PySem.W.Frag} {B H : Hp} {M : Mp} {dd : Addr} {l : List (Str × V)} (a : ELink (prF K B dd l) M H) (g : Good K B M H) : H dd = some (.xd l) := a .none none M H g (Ext.refl M H) rfl
section
variable {K : PySem.W.Frag} {B : Hp} {dd : Addr} {l : List (Str × V)} {M : Mp} {Q : D → Mp → Prop} {ε : DSt}
theorem de_xf {a C : Addr} {fl : Str} {n : Int} {te : TE} (hl : l.lookup fl = some (.int n)) (h : DE (prF K B dd l) te ε M fun x M1 => x = .val (.ref a) ∧ Q (.int n) M1) : DE (prF K B dd l) (tXf a (.ref C) (some dd) C fl te) ε M Q := fun σ H R a0 k => by
  refine h σ H _ a0 fun v d M1 H1 t1 g1 e1 h1 => ?_
  obtain ⟨rfl, q⟩ := h1
  cases tr_val t1
  exact ⟨rfl, rfl, dd, l, .int n, rfl, at_xd (a0.link.ext e1) g1, hl, (k.ext e1).here (.int _) g1 q⟩
theorem de_isF {a C : Addr} {al : TA} (h : DA (prF K B dd l) al ε M fun ds M1 => (∃ k b, ds = [.val (.ref a), .val (.ref k)] ∧ PySem.W.kitOne K (.ref C) (.ref k) = some b ∧ Q (.bl b) M1) ∨ ∃ T b, ds = [.val (.ref a), .val (.ty T)] ∧ PySem.W.kitOne K (.ref C) (.type T) = some b ∧ Q (.bl b) M1) : DE (prF K B dd l) (tCB (rIsF K C a dd) al) ε M Q := fun σ H R a0 k => by
  refine h σ H _ a0 fun vs ds M1 H1 t1 g1 e1 h1 => ?_
  have hx := at_xd (a0.link.ext e1) g1
  rcases h1 with ⟨c, b, rfl, hk, q⟩ | ⟨T, b, rfl, hk, q⟩
  · obtain ⟨v, w, rfl, t2, t3⟩ := trs2 t1
    cases tr_val t2
    cases tr_val t3
    exact ⟨.ref c, .ref c, b, l, rfl, fun u r => r, hk, hx, (k.ext e1).here (.bl _) g1 q⟩
  · obtain ⟨v, w, rfl, t2, t3⟩ := trs2 t1
    cases tr_val t2
    cases tr_val t3
    exact ⟨.ty T, .type T, b, l, rfl, fun u r => r, hk, hx, (k.ext e1).here (.bl _) g1 q⟩
end
theorem pss_exor {X : Cx} {b : List Stmt} {α β : Type} {Pp : α → Prop} {Pq : β → Prop} {t : α → TS} {u : β → TS} (h : ∀ x, Pp x → PSs X b (t x)) (k : ∀ y, Pq y → PSs X b (u y)) : PSs X b (fun D σ H => (∃ x, Pp x ∧ t x D σ H) ∨ ∃ y, Pq y ∧ u y D σ H) :=
  ⟨fun pins s σ H D I z => z.elim (fun ⟨x, hx, z⟩ => (h x hx).run pins s σ H D I z) fun ⟨y, hy, z⟩ => (k y hy).run pins s σ H D I z⟩
theorem zc_ofF {cls c : Value} {d : Option Addr} {dd : Addr} {o : Obj} (h : Zc cls d o) (e : cls = c) (e2 : d = some dd) : Zc c (some dd) o := by
  subst e e2
  exact h
theorem call_isFk {X : Cx} {a D dd : Addr} {oe : Obj} {pn : List (Addr × Obj)} (K : PySem.W.Frag) (C : ExcC X.K D) (hz : Zc (.ref D) (some dd) oe) (hf : ∃ vs, oe.data = .fields vs) (h : X.K = K := by rfl) : CallR (X.suite a ((a, oe) :: pn)) (.builtin "isinstance") (rIsF K D a dd) := by subst h; exact call_isF C hz hf
/-- a class whose refusals hold one number -/
structure KindF (K : PySem.W.Frag) (CS E0 E1 E2 E3 E4 E5 C : Addr) (w fl : Str) : Prop where
  wh : ∃ j : Nat, ((j = 1 ∧ w = "BadSteps" ∧ fl = "number") ∨ (j = 5 ∧ w = "BadText" ∧ fl = "place")) ∧ KindC K CS [E0, E1, E2, E3, E4, E5] (kBits j) C
  xf : XfC K C
  n1 : PySem.W.findIn K (.ref C) "number" = some none
  n2 : PySem.W.findIn K (.ref C) "place" = some none
theorem KindF.ec {K : PySem.W.Frag} {CS E0 E1 E2 E3 E4 E5 C : Addr} {w fl : Str} (h : KindF K CS E0 E1 E2 E3 E4 E5 C w fl) : ExcC K C := by
  obtain ⟨_, _, h⟩ := h.wh
  exact h.ec
end DL

/-! Text: split, slices, one sign within -/
namespace DL
open PySem PySem.Spec PyProof.Rows L2
abbrev rSplitA : V → List V → Hp → VK → Prop := fun x xs H Q => ∃ a b, x = .str a ∧ xs = [.str b] ∧ (b.length == 0) = false ∧ a.length + 2 ≤ sizeLine ∧ rNewStrs (Txt.split a b) H Q
theorem mt_splitA {X : Cx} : MtR X "str.split" rSplitA := mt_split
section
variable {P : Pr} {M : Mp} {Q : D → Mp → Prop}
theorem dm_split {a b : Str} (hb : (b.length == 0) = false) (hl : a.length ≤ 100000) (q : Q (.lst .own ((Txt.split a b).map .str)) M) : DM P rSplitA (.str a) [.str b] M Q := by
  intro vx vs H R rx rs gd k
  obtain ⟨v, rfl, t⟩ := trs1 rs
  cases tr_str rx
  cases tr_str t
  refine ⟨a, b, rfl, rfl, hb, by rw [sizeLine_eq]; omega, fun p hp => ?_⟩
  exact k _ (.lst .own ((Txt.split a b).map .str)) M _ (.lst (k := .own) (vs := (Txt.split a b).map V.str) ⟨gd.free hp, upd_same, gd.base _ hp⟩ (strS_trs _)) (gd.new hp) (ext_new hp) q
theorem dsl_strA {z : Str} {lo hi : Option Int} (h : z.length ≤ 100000) (q : Q (.str (cutS z lo hi)) M) : DSl P rSlS (.str z) lo hi M Q := by
  intro vx H R rx gd k
  cases tr_str rx
  exact ⟨z, rfl, by rw [sizeLine_eq]; omega, k.here (.str _) gd q⟩
end
end DL

/-! max with a default, a text times a number, a written dict of texts and numbers -/
namespace DL
open PySem PySem.Spec PyProof.Rows L2
/-! ### max(xs, default=d) -/
def mxs : List Int → Int → Int
  | [], d => d
  | [i], _ => i
  | i :: j :: r, _ => PySem.W.maxOf i (j :: r)
theorem mxs_cons (i : Int) (r : List Int) (d : Int) : mxs (i :: r) d = PySem.W.maxOf i r := by cases r <;> rfl
abbrev rMaxDef (K : PySem.W.Frag) : List V → List V → Hp → VK → Prop := fun vs zs H Q => ∃ (a : Addr) (ns : List Int) (d : Int), vs = [.ref a] ∧ zs = [.int d] ∧ SqL K H a (ns.map V.int) ∧ Q (.int (mxs ns d)) H
theorem holds_ints {h : Heap} : ∀ {ns : List Int} {its : List Value}, Vals (ns.map V.int) its → PySem.W.HoldAll h its ns
  | [], _, .nil => PySem.W.HoldAll.nil
  | n :: ns, _, .cons r t => by
    obtain ⟨k, rfl⟩ := r
    exact PySem.W.HoldAll.cons (PySem.W.holds_int n k) (holds_ints t)
theorem cr_maxDef {X : Cx} {k : Nat} (hc : X.calm = true) (hr : Room k X.A) : CallRK X (.builtin "max") [Str.ofString "default"] (rMaxDef X.K) := by
  intro pins s σ H vs zs us ws Q I r rz h
  obtain ⟨a, ns, d, rfl, rfl, hs, q⟩ := h
  obtain rfl := Vals.ref1 r
  obtain ⟨w1, rfl, e1⟩ := vals1 rz
  obtain ⟨its, rv, hl, _⟩ := I.list hs
  refine PySem.W.max_list_datum_default (α := Int) (xs := ns) (I.ok.hd hc) hl.isList (by rw [List.toList_toArray]; exact holds_ints rv) (by have := hr.units; show X.A.units + 1 + 0 < cLine; omega) (fun e h' tk hk => ?_) fun y ys i v h' tk e hv hh hk => ?_
  · subst e
    exact ⟨.int d, H, I.kept hk, e1, q⟩
  · subst e
    rw [mxs_cons] at q
    obtain ⟨t', rfl⟩ := PySem.W.int_of_holds hh
    exact ⟨.int _, H, I.kept hk, ⟨_, rfl⟩, q⟩
theorem cr_maxDefk {X : Cx} {k : Nat} (K : PySem.W.Frag) (hc : X.calm = true) (hr : Room k X.A) (h : X.K = K := by rfl) : CallRK X (.builtin "max") [Str.ofString "default"] (rMaxDef K) := by subst h; exact cr_maxDef hc hr
section
variable {P : Pr} {M : Mp} {Q : D → Mp → Prop} {ε : DSt}
theorem trs_ints' {K B M H} {vs : List V} {ns : List Int} (t : Trs K B M H vs (ns.map D.int)) : vs = ns.map V.int := by
  induction ns generalizing vs with
  | nil => cases t; rfl
  | cons n ns ih => cases t with
    | cons h r => rw [tr_int h, ih r]; rfl
theorem de_maxDef {ta tk : TA} (h : DA P ta ε M fun ds M1 => DA P tk ε M1 fun zs M2 => ∃ (x : D) (ns : List Int) (d : Int), ds = [x] ∧ zs = [.int d] ∧ IsL M2 x (ns.map D.int) ∧ Q (.int (mxs ns d)) M2) : DE P (tCKw (rMaxDef P.K) ta tk) ε M Q := fun σ H R a k => by
  refine h σ H _ a fun vs ds M1 H1 t1 g1 e1 h1 => ?_
  refine h1 σ H1 _ (a.ext g1 e1) fun ws zs M2 H2 t2 g2 e2 h2 => ?_
  obtain ⟨x, ns, d, rfl, rfl, hx, q⟩ := h2
  obtain ⟨v, rfl, tv⟩ := trs1 t1
  obtain ⟨w, rfl, tw⟩ := trs1 t2
  cases tr_int tw
  obtain ⟨p, us, rfl, h3, h4⟩ := hx.at (tv.ext e2) g2
  cases trs_ints' h4
  exact ⟨p, ns, d, rfl, rfl, SqL.of h3, (k.ext (e1.trans e2)).here (.int _) g2 q⟩
end
/-! ### text * number -/
abbrev rMulS : R2 := fun x y H Q => ∃ a n, x = .str a ∧ y = .int n ∧ MulOk a n ∧ Q (.str (Txt.mul a n)) H
theorem op_mulS {X : Cx} : OpR X (binaryOp .Mult) rMulS := by
  intro pins s σ H x y v u Q I rx ry h
  obtain ⟨a, n, rfl, rfl, hk, q⟩ := h
  obtain ⟨t, rfl⟩ := rx
  obtain ⟨t', rfl⟩ := ry
  exact SB.mul hk fun t' tk => ⟨.str _, H, I.tok _, ⟨_, rfl⟩, q⟩
theorem d2_mulS {P : Pr} {M : Mp} {Q : D → Mp → Prop} {a : Str} {n : Int} (h : MulOk a n) (q : Q (.str (Txt.mul a n)) M) : D2 P rMulS (.str a) (.int n) M Q := by
  intro vx vy H R rx ry gd k
  cases tr_str rx
  cases tr_int ry
  exact ⟨a, n, rfl, rfl, h, k.here (.str _) gd q⟩
/-! ### {"x": 1, ..} -/
def cPairs (l : List (Str × Int)) : List (TE × TE) := l.map fun p => (tC (.str p.1), tC (.int p.2))
def kvC (l : List (Str × Int)) : List (Key × V) := l.map fun p => (Sum.inr p.1, .int p.2)
def kdC (l : List (Str × Int)) : List (Key × D) := l.map fun p => (Sum.inr p.1, .int p.2)
theorem cp_run : ∀ (l : List (Str × Int)) (σ : L2.St) (H : Hp) (Q : List (V × V) → Hp → Prop), Q ((kvC l).map fun kv => (kV kv.1, kv.2)) H → tPairs (cPairs l) σ H Q
  | [], _, _, _, q => q
  | p :: l, σ, H, Q, q => cp_run l σ H _ q
theorem de_dispC {P : Pr} {M : Mp} {Q : D → Mp → Prop} {ε : DSt} {l : List (Str × Int)} (hl : l.length ≤ 15) (hm : mergeK [] (kvC l) = kvC l) (q : ∀ p, M p = none → P.B p = none → Q (.val (.ref p)) (updM M p (.dic (kdC l)))) : DE P (tDisp (cPairs l)) ε M Q := fun σ H R a k p hp => by
  refine cp_run l σ _ _ ⟨upd_same, kvC l, rfl, by unfold kvC; rw [List.length_map]; exact hl, ?_⟩
  have e : upd (upd H p (.dK [])) p (.dK (mergeK [] (kvC l))) = upd H p (.dK (kvC l)) := by
    rw [hm]
    funext b
    by_cases h : b = p
    · rw [h, upd_same, upd_same]
    · rw [upd_ne h, upd_ne h, upd_ne h]
  rw [e]
  refine k _ _ _ _ (.val _) (a.good.newCell (c := .dic (kdC l)) hp ⟨kvC l, upd_same, ?_, ?_⟩) (ext_cell hp) (q p (a.good.free hp) (a.good.base _ hp))
  · unfold kvC kdC
    rw [List.map_map, List.map_map]
    rfl
  · unfold kvC kdC
    rw [List.map_map, List.map_map]
    clear hl hm q e
    generalize upd H p _ = H1
    generalize updM M p _ = M1
    induction l with
    | nil => exact .nil
    | cons p l ih => exact .cons (.int _) ih
/-! ### for x in reversed(xs) -/
section
variable {P : Pr} {M : Mp} {ε : DSt} {al : TA} {QI : List D → (Mp → Prop) → Mp → Prop}
theorem rev_get {α : Type} {xs : List α} {i : Nat} (h : i < xs.length) : xs.reverse[i]? = xs[xs.length - 1 - i]? := List.getElem?_reverse h
theorem itok_rev {a : Addr} {xs : List D} {k : LK} {n : Nat} {H : Hp} (hn : n = xs.length) (t : Tr P.K P.B M H (.ref a) (.lst k xs)) : ItOk P (Itv P.K a n) xs.reverse (fun _ => True) M H := by
  subst hn
  have key : ∀ M' H', Ext M H M' H' → ∃ vs, SqL P.K H' a vs ∧ Trs P.K P.B M' H' vs xs := fun M' H' e => by
    cases t.ext e with
    | lst h r => exact ⟨_, h.sq, r⟩
  refine ⟨fun i M' H' g e _ hi => ?_, fun i M' H' g e _ y H'' h hi => ?_, fun M' H' g e _ => ?_⟩
  · obtain ⟨vs, h1, r⟩ := key _ _ e
    rw [List.length_reverse] at hi
    exact ⟨hi, vs, vs[xs.length - 1 - i]'(by rw [r.length]; omega), h1, List.getElem?_eq_getElem _⟩
  · obtain ⟨rfl, h⟩ := h
    rw [List.length_reverse] at hi
    obtain ⟨vs, h1, r⟩ := key _ _ e
    obtain ⟨d, h2, h3⟩ := r.getV (h vs h1)
    exact ⟨d, by rw [rev_get hi]; exact h2, h3, g, Ext.refl _ _⟩
  · rw [List.length_reverse]
    exact Nat.le_refl _
theorem di_rev (h : DA P al ε M fun ds M1 => ∃ k xs, ds = [.lst k xs] ∧ QI xs.reverse (fun _ => True) M1) : DI P (iRev P.K al) ε M QI := fun σ H R a k => by
  refine h σ H _ a fun vs ds M1 H1 t1 g1 e1 h1 => ?_
  obtain ⟨kk, xs, rfl, q⟩ := h1
  obtain ⟨v, rfl, r⟩ := trs1 t1
  have r' := r
  cases r with
  | lst h1 r1 => exact ⟨_, _, rfl, h1.sq, k _ _ _ M1 H1 g1 e1 (itok_rev r1.length r') q⟩
end
end DL

/-! Sums as words: what words write, read from the left and from the right -/
namespace DL
open PySem L2
inductive Wk where
  | pair (o : Wd) | say | leaf (s : Sm) | non
  deriving DecidableEq
/-- one to three figures without a needless 0 -/
def figs (l : List Nat) : Bool := decide (1 ≤ l.length) && (decide (l.length ≤ 3) && (l.all (fun c => decide (48 ≤ c) && decide (c < 58)) && (decide (l = [48]) || !decide (l.head? = some 48))))
def lfL (l : List Nat) : Option Sm := if l = cl "ask" then some .ask else match l with
  | [c] => if 97 ≤ c ∧ c < 103 then some (.nam c) else if figs l = true then some (.num (decD l)) else none
  | _ => if figs l = true then some (.num (decD l)) else none
def wkL (l : List Nat) : Wk := if l = cl "add" then .pair .add else if l = cl "less" then .pair .less else if l = cl "times" then .pair .times else if l = cl "say" then .say else match lfL l with
  | some s => .leaf s
  | none => .non
def lfOf (w : Str) : Option Sm := lfL (cl w)
def wkOf (w : Str) : Wk := wkL (cl w)
theorem wk_nil : wkOf "" = .non := by decide +kernel
def dg3 (l : List Nat) : Prop := figs l = true → 0 ≤ decD l ∧ decD l < 1000
theorem figs_fin1 : ∀ a : Fin 10, 0 ≤ decD [48 + a.val] ∧ decD [48 + a.val] < 1000 := by decide +kernel
theorem figs_rng {l : List Nat} (h : figs l = true) : 0 ≤ decD l ∧ decD l < 1000 := by
  simp only [figs, Bool.and_eq_true, decide_eq_true_eq, List.all_eq_true] at h
  obtain ⟨h1, h2, h3, _⟩ := h
  match l, h1, h2, h3 with
  | [a], _, _, h3 =>
    have := h3 a (by simp)
    simp only [decD, List.foldl_cons, List.foldl_nil]
    omega
  | [a, b], _, _, h3 =>
    have := h3 a (by simp)
    have := h3 b (by simp)
    simp only [decD, List.foldl_cons, List.foldl_nil]
    omega
  | [a, b, c], _, _, h3 =>
    have := h3 a (by simp)
    have := h3 b (by simp)
    have := h3 c (by simp)
    simp only [decD, List.foldl_cons, List.foldl_nil]
    omega
  | a :: b :: c :: d :: r, _, h2, _ => simp at h2
theorem lf_cases {l : List Nat} {s : Sm} (h : lfL l = some s) : (s = .ask ∧ l = cl "ask") ∨ (∃ c, s = .nam c ∧ l = [c] ∧ 97 ≤ c ∧ c < 103) ∨ (s = .num (decD l) ∧ figs l = true) := by
  unfold lfL at h
  split at h
  · rename_i e
    cases h
    exact .inl ⟨rfl, e⟩
  · split at h
    · rename_i c _
      split at h
      · rename_i e
        cases h
        exact .inr (.inl ⟨c, rfl, rfl, e⟩)
      · split at h
        · rename_i e
          cases h
          exact .inr (.inr ⟨rfl, e⟩)
        · cases h
    · split at h
      · rename_i e
        cases h
        exact .inr (.inr ⟨rfl, e⟩)
      · cases h
theorem lf_ok {l : List Nat} {s : Sm} (h : lfL l = some s) : s.ok ∧ s.sz = 1 ∧ s.dp = 1 := by
  rcases lf_cases h with ⟨rfl, _⟩ | ⟨c, rfl, _, hc⟩ | ⟨rfl, hf⟩
  · exact ⟨trivial, rfl, rfl⟩
  · exact ⟨hc, rfl, rfl⟩
  · exact ⟨figs_rng hf, rfl, rfl⟩
theorem wk_leaf {w : Str} {s : Sm} (h : wkOf w = .leaf s) : lfOf w = some s := by
  unfold wkOf wkL at h
  split at h
  · cases h
  · split at h
    · cases h
    · split at h
      · cases h
      · split at h
        · cases h
        · unfold lfOf
          split at h
          · rename_i e
            cases h
            exact e
          · cases h
theorem wk_leaf_ok {w : Str} {s : Sm} (h : wkOf w = .leaf s) : s.ok ∧ s.sz = 1 ∧ s.dp = 1 := lf_ok (wk_leaf h)
/-! the words of a sum -/
theorem wk_num_fin : ∀ n : Fin 1000, wkL ((Nat.toDigits 10 n.val).map Char.toNat) = .leaf (.num (n.val : Int)) := by decide +kernel
theorem wk_num {n : Int} (h0 : 0 ≤ n) (h1 : n < 1000) : wkOf (dgS n) = .leaf (.num n) := by
  obtain ⟨m, rfl⟩ : ∃ m : Nat, n = m := ⟨n.toNat, by omega⟩
  unfold wkOf
  rw [dgN]
  exact wk_num_fin ⟨m, by omega⟩
theorem wk_nam {c : Nat} (h : 97 ≤ c ∧ c < 103) : wkOf ⟨#[c]⟩ = .leaf (.nam c) := by
  have : c = 97 ∨ c = 98 ∨ c = 99 ∨ c = 100 ∨ c = 101 ∨ c = 102 := by omega
  rcases this with rfl | rfl | rfl | rfl | rfl | rfl <;> decide +kernel
theorem wk_ask : wkOf "ask" = .leaf .ask := by decide +kernel
theorem wk_say : wkOf "say" = .say := by decide +kernel
theorem wk_wd (o : Wd) : wkOf o.word = .pair o := by cases o <;> decide +kernel
def wdsOf : Sm → List Str
  | .num n => [dgS n]
  | .nam c => [⟨#[c]⟩]
  | .ask => ["ask"]
  | .say a => "say" :: wdsOf a
  | .bin o a b => o.word :: (wdsOf a ++ wdsOf b)
theorem wds_len : ∀ s : Sm, (wdsOf s).length = s.sz
  | .num _ => rfl
  | .nam _ => rfl
  | .ask => rfl
  | .say a => by simp only [wdsOf, Sm.sz, List.length_cons, wds_len a]; omega
  | .bin o a b => by simp only [wdsOf, Sm.sz, List.length_cons, List.length_append, wds_len a, wds_len b]; omega
def wdsUp (s : Sm) (i : Nat) : List Str := s.wd :: (s.kids.take i).flatMap wdsOf
theorem wdsUp_step {s k : Sm} {i : Nat} (h : s.kids[i]? = some k) : wdsUp s (i + 1) = wdsUp s i ++ wdsOf k := by
  unfold wdsUp
  rw [List.take_add_one, h, Option.toList_some, List.flatMap_append, List.flatMap_cons, List.flatMap_nil, List.append_nil, List.cons_append]
theorem wdsUp_end {s : Sm} (h : inV (.str s.wd) [.str "num", .str "name"] = false) : wdsUp s s.kids.length = wdsOf s := by
  unfold wdsUp
  rw [List.take_length]
  cases s with
  | num n => cases h
  | nam n => cases h
  | ask => rfl
  | say a => simp only [Sm.kids, List.flatMap_cons, List.flatMap_nil, List.append_nil, wdsOf]; rfl
  | bin o a b =>
    simp only [Sm.kids, List.flatMap_cons, List.flatMap_nil, List.append_nil, wdsOf]
    cases o <;> rfl
theorem wdsUp_len (s : Sm) (i : Nat) : (wdsUp s i).length ≤ s.sz := by
  unfold wdsUp
  have key : ∀ (ks : List Sm) (i : Nat), ((ks.take i).flatMap wdsOf).length ≤ (ks.map Sm.sz).sum := fun ks => by
    induction ks with
    | nil => intro i; simp
    | cons k ks ih =>
      intro i
      cases i with
      | zero => simp
      | succ i =>
        have := ih i
        simp only [List.take_succ_cons, List.flatMap_cons, List.length_append, wds_len, List.map_cons, List.sum_cons]
        omega
  have := key s.kids i
  have e : (s.kids.map Sm.sz).sum + 1 = s.sz := by cases s <;> simp [Sm.kids, Sm.sz] <;> omega
  rw [List.length_cons]
  omega
/-! from the left: how many are wanted; the first place that can't stand -/
def scan : List Str → Nat → Nat → Option Nat
  | [], p, k => if k = 0 then none else some p
  | w :: ws, p, k => if k = 0 then some p else match wkOf w with
    | .non => some p
    | .pair _ => scan ws (p + 1) (k + 1)
    | .say => scan ws (p + 1) k
    | .leaf _ => scan ws (p + 1) (k - 1)
/-- from the right: a pile, its top first -/
def pileOf : List Str → List Sm
  | [] => []
  | w :: ws => match wkOf w, pileOf ws with
    | .pair o, a :: b :: r => .bin o a b :: r
    | .say, a :: r => .say a :: r
    | .leaf s, r => s :: r
    | _, r => r
theorem scan_sum : ∀ (s : Sm), s.ok → ∀ (r : List Str) (p k : Nat), scan (wdsOf s ++ r) p (k + 1) = scan r (p + s.sz) k
  | .num n, h, r, p, k => by
    simp only [wdsOf, List.cons_append, List.nil_append, scan, wk_num h.1 h.2, Sm.sz]
    rw [if_neg (by omega)]
    rfl
  | .nam c, h, r, p, k => by
    simp only [wdsOf, List.cons_append, List.nil_append, scan, wk_nam h, Sm.sz]
    rw [if_neg (by omega)]
    rfl
  | .ask, h, r, p, k => by
    simp only [wdsOf, List.cons_append, List.nil_append, scan, wk_ask, Sm.sz]
    rw [if_neg (by omega)]
    rfl
  | .say a, h, r, p, k => by
    simp only [wdsOf, List.cons_append, scan, wk_say, Sm.sz]
    rw [if_neg (by omega), scan_sum a h r (p + 1) k]
    congr 1
    omega
  | .bin o a b, h, r, p, k => by
    simp only [wdsOf, List.cons_append, List.append_assoc, scan, wk_wd, Sm.sz]
    rw [if_neg (by omega), scan_sum a h.1 _ (p + 1) (k + 1), scan_sum b h.2 r _ k]
    congr 1
    omega
theorem pile_sum : ∀ (s : Sm), s.ok → ∀ (r : List Str), pileOf (wdsOf s ++ r) = s :: pileOf r
  | .num n, h, r => by simp only [wdsOf, List.cons_append, List.nil_append, pileOf, wk_num h.1 h.2]
  | .nam c, h, r => by simp only [wdsOf, List.cons_append, List.nil_append, pileOf, wk_nam h]
  | .ask, h, r => by simp only [wdsOf, List.cons_append, List.nil_append, pileOf, wk_ask]
  | .say a, h, r => by simp only [wdsOf, List.cons_append, pileOf, wk_say, pile_sum a h r]
  | .bin o a b, h, r => by simp only [wdsOf, List.cons_append, List.append_assoc, pileOf, wk_wd, pile_sum a h.1, pile_sum b h.2 r]
theorem scan_len : ∀ (ws : List Str) (p k : Nat), scan ws p k = none → (pileOf ws).length = k
  | [], p, k, h => by
    unfold scan at h
    split at h
    · rename_i e
      rw [e]
      rfl
    · cases h
  | w :: ws, p, k, h => by
    unfold scan at h
    split at h
    · cases h
    · rename_i hk
      unfold pileOf
      cases e : wkOf w with
      | non => rw [e] at h; cases h
      | pair o =>
        rw [e] at h
        have ih := scan_len ws _ _ h
        match hp : pileOf ws, ih with
        | [], ih => simp at ih
        | [a], ih => simp at ih; omega
        | a :: b :: r, ih => simp at ih ⊢; omega
      | say =>
        rw [e] at h
        have ih := scan_len ws _ _ h
        match hp : pileOf ws, ih with
        | [], ih => simp at ih; omega
        | a :: r, ih => simpa using ih
      | leaf s =>
        rw [e] at h
        have ih := scan_len ws _ _ h
        simp only [List.length_cons]
        omega
/-- a step of the scan -/
theorem scan_next {w : Str} {ws : List Str} {p k : Nat} (h : scan (w :: ws) p k = none) : ∃ k', scan ws (p + 1) k' = none ∧ wkOf w ≠ .non := by
  unfold scan at h
  split at h
  · cases h
  · cases e : wkOf w with
    | non => rw [e] at h; cases h
    | pair o => rw [e] at h; exact ⟨_, h, by simp⟩
    | say => rw [e] at h; exact ⟨_, h, by simp⟩
    | leaf s => rw [e] at h; exact ⟨_, h, by simp⟩
theorem scan_drop {ws : List Str} {k : Nat} (h : scan ws 0 k = none) : ∀ j, j ≤ ws.length → ∃ k', scan (ws.drop j) j k' = none
  | 0, _ => ⟨k, h⟩
  | j + 1, hj => by
    obtain ⟨k', hk⟩ := scan_drop h j (by omega)
    rw [List.drop_eq_getElem_cons (by omega : j < ws.length)] at hk
    obtain ⟨k2, h2, _⟩ := scan_next hk
    exact ⟨k2, h2⟩
/-- the pile one word further to the left: as many are there as the word wants -/
theorem pile_step {ws : List Str} {k : Nat} (h : scan ws 0 k = none) {j : Nat} (hj : j < ws.length) :
    (∃ o a b r, wkOf ws[j] = .pair o ∧ pileOf (ws.drop (j + 1)) = a :: b :: r ∧ pileOf (ws.drop j) = .bin o a b :: r) ∨ (∃ a r, wkOf ws[j] = .say ∧ pileOf (ws.drop (j + 1)) = a :: r ∧ pileOf (ws.drop j) = .say a :: r) ∨ ∃ s, wkOf ws[j] = .leaf s ∧ pileOf (ws.drop j) = s :: pileOf (ws.drop (j + 1)) := by
  obtain ⟨k', hk⟩ := scan_drop h j (by omega)
  rw [List.drop_eq_getElem_cons hj] at hk ⊢
  unfold scan at hk
  split at hk
  · cases hk
  · cases e : wkOf ws[j] with
    | non => rw [e] at hk; cases hk
    | pair o =>
      rw [e] at hk
      have ih := scan_len _ _ _ hk
      match hp : pileOf (ws.drop (j + 1)), ih with
      | [], ih => simp at ih
      | [a], ih => simp at ih; omega
      | a :: b :: r, ih => exact .inl ⟨o, a, b, r, rfl, rfl, by simp only [pileOf, e, hp]⟩
    | say =>
      rw [e] at hk
      have ih := scan_len _ _ _ hk
      match hp : pileOf (ws.drop (j + 1)), ih with
      | [], ih => simp at ih; omega
      | a :: r, ih => exact .inr (.inl ⟨a, r, rfl, rfl, by simp only [pileOf, e, hp]⟩)
    | leaf s =>
      exact .inr (.inr ⟨s, rfl, by simp only [pileOf, e]⟩)
theorem pile_ok : ∀ (ws : List Str), ∀ s ∈ pileOf ws, s.ok
  | [], s, h => by cases h
  | w :: ws, s, h => by
    have ih := pile_ok ws
    unfold pileOf at h
    split at h
    · rename_i o a b r e1 e2
      rw [e2] at ih
      rcases List.mem_cons.mp h with rfl | h
      · exact ⟨ih a (by simp), ih b (by simp)⟩
      · exact ih s (by simp [h])
    · rename_i a r e1 e2
      rw [e2] at ih
      rcases List.mem_cons.mp h with rfl | h
      · exact ih a (by simp)
      · exact ih s (by simp [h])
    · rename_i s' e1
      rcases List.mem_cons.mp h with rfl | h
      · exact (wk_leaf_ok e1).1
      · exact ih s h
    · exact ih s h
/-! the law's own reader -/
def prs (ws : List Str) : Nat → Nat → Nat ⊕ (Sm × Nat)
  | 0, p => .inl p
  | n + 1, p => match wkOf (ws.getD p "") with
    | .non => .inl p
    | .leaf s => .inr (s, p + 1)
    | .say => match prs ws n (p + 1) with
      | .inl e => .inl e
      | .inr (a, q) => .inr (.say a, q)
    | .pair o => match prs ws n (p + 1) with
      | .inl e => .inl e
      | .inr (a, q) => match prs ws n q with
        | .inl e => .inl e
        | .inr (b, r) => .inr (.bin o a b, r)
def Fine (ws : List Str) (p : Nat) : Nat ⊕ (Sm × Nat) → Prop
  | .inl e => ∀ k, scan (ws.drop p) p (k + 1) = some e
  | .inr (s, q) => p < q ∧ q ≤ ws.length ∧ s.ok ∧ s.sz = q - p ∧ (∀ k, scan (ws.drop p) p (k + 1) = scan (ws.drop q) q k) ∧ pileOf (ws.drop p) = s :: pileOf (ws.drop q)
theorem prs_ok (ws : List Str) : ∀ n p, p ≤ ws.length → ws.length < p + n → Fine ws p (prs ws n p)
  | 0, p, h1, h2 => by omega
  | n + 1, p, h1, h2 => by
    by_cases hp : p < ws.length
    · have ed := List.drop_eq_getElem_cons hp
      have eg : ws.getD p "" = ws[p] := by rw [List.getD_eq_getElem?_getD, List.getElem?_eq_getElem hp]; rfl
      unfold prs
      rw [eg]
      cases e : wkOf ws[p] with
      | non =>
        intro k
        rw [ed]
        simp only [scan, e]
        rw [if_neg (by omega)]
      | leaf s =>
        have ok := wk_leaf_ok e
        refine ⟨by omega, by omega, ok.1, by rw [ok.2.1]; omega, fun k => ?_, ?_⟩
        · rw [ed]
          simp only [scan, e]
          rw [if_neg (by omega)]
          rfl
        · rw [ed]
          simp only [pileOf, e]
      | say =>
        have ih := prs_ok ws n (p + 1) (by omega) (by omega)
        cases e2 : prs ws n (p + 1) with
        | inl x =>
          rw [e2] at ih
          intro k
          rw [ed]
          simp only [scan, e]
          rw [if_neg (by omega)]
          exact ih k
        | inr y =>
          obtain ⟨a, q⟩ := y
          rw [e2] at ih
          obtain ⟨i1, i2, i3, i4, i5, i6⟩ := ih
          refine ⟨by omega, i2, i3, by simp only [Sm.sz]; omega, fun k => ?_, ?_⟩
          · rw [ed]
            simp only [scan, e]
            rw [if_neg (by omega)]
            exact i5 k
          · rw [ed]
            simp only [pileOf, e, i6]
      | pair o =>
        have ih := prs_ok ws n (p + 1) (by omega) (by omega)
        cases e2 : prs ws n (p + 1) with
        | inl x =>
          rw [e2] at ih
          intro k
          rw [ed]
          simp only [scan, e]
          rw [if_neg (by omega)]
          exact ih (k + 1)
        | inr y =>
          obtain ⟨a, q⟩ := y
          rw [e2] at ih
          obtain ⟨i1, i2, i3, i4, i5, i6⟩ := ih
          have ih2 := prs_ok ws n q i2 (by omega)
          dsimp only
          cases e3 : prs ws n q with
          | inl x =>
            rw [e3] at ih2
            intro k
            rw [ed]
            simp only [scan, e]
            rw [if_neg (by omega)]
            exact (i5 (k + 1)).trans (ih2 k)
          | inr y =>
            obtain ⟨b, r⟩ := y
            rw [e3] at ih2
            obtain ⟨j1, j2, j3, j4, j5, j6⟩ := ih2
            refine ⟨by omega, j2, ⟨i3, j3⟩, by simp only [Sm.sz]; omega, fun k => ?_, ?_⟩
            · rw [ed]
              simp only [scan, e]
              rw [if_neg (by omega)]
              exact (i5 (k + 1)).trans (j5 k)
            · rw [ed]
              simp only [pileOf, e, i6, j6]
    · have he : p = ws.length := by omega
      subst he
      have eg : ws.getD ws.length "" = "" := by rw [List.getD_eq_getElem?_getD, List.getElem?_eq_none (Nat.le_refl _)]; rfl
      unfold prs
      rw [eg, wk_nil]
      intro k
      rw [List.drop_length]
      simp only [scan]
      rw [if_neg (by omega)]
/-! what a text comes to -/
inductive Oc where
  | bad (e : Nat) | no | sum (s : Sm)
def ocOf (ws : List Str) : Oc := match scan ws 0 1 with
  | some e => .bad e
  | none => match pileOf ws with
    | s :: _ => if s.dp ≤ 15 ∧ s.sz ≤ 60 then .sum s else .no
    | [] => .no
def Oc.D : Oc → D
  | .bad e => .tup [.str "BadText", .int e]
  | .no => .str "BadSum"
  | .sum s => enc s
theorem oc_inl {ws : List Str} {n e : Nat} (hn : ws.length < n) (h : prs ws n 0 = .inl e) : ocOf ws = .bad e := by
  have f := prs_ok ws n 0 (Nat.zero_le _) (by omega)
  rw [h] at f
  have := f 0
  rw [List.drop_zero] at this
  unfold ocOf
  rw [this]
theorem oc_inr {ws : List Str} {n q : Nat} {s : Sm} (hn : ws.length < n) (h : prs ws n 0 = .inr (s, q)) : q ≤ ws.length ∧ s.ok ∧ s.sz ≤ ws.length ∧ ocOf ws = (if q < ws.length then .bad q else if s.dp ≤ 15 ∧ s.sz ≤ 60 then .sum s else .no) ∧ (q = ws.length → s.sz = ws.length) := by
  have f := prs_ok ws n 0 (Nat.zero_le _) (by omega)
  rw [h] at f
  obtain ⟨f1, f2, f3, f4, f5, f6⟩ := f
  have h0 := f5 0
  rw [List.drop_zero] at h0 f6
  refine ⟨f2, f3, by omega, ?_, by omega⟩
  unfold ocOf
  by_cases hq : q < ws.length
  · have e1 : scan (ws.drop q) q 0 = some q := by
      rw [List.drop_eq_getElem_cons hq]
      unfold scan
      rw [if_pos rfl]
    rw [if_pos hq, h0, e1]
  · have he : q = ws.length := by omega
    have e1 : scan (ws.drop q) q 0 = none := by rw [he, List.drop_length]; rfl
    rw [if_neg hq, h0, e1]
    dsimp only
    rw [f6]
theorem oc_words {s : Sm} (g : s.good) : ocOf (wdsOf s) = .sum s := by
  have h1 := scan_sum s g.ok [] 0 0
  have h2 := pile_sum s g.ok []
  rw [List.append_nil] at h1 h2
  unfold ocOf
  have h3 : scan [] (0 + s.sz) 0 = none := rfl
  rw [h1, h2, h3]
  dsimp only
  rw [if_pos ⟨g.dp, g.sz⟩]
/-! is it a sum by its bounds -/
theorem good_enc' : ∀ (n : Nat) (s : Sm), s.ok → goodD n (enc s) = decide (s.dp ≤ n)
  | 0, s, _ => by
    have := s.dp_pos
    rw [decide_eq_false (by omega)]
    rfl
  | n + 1, s, ho => by
    unfold goodD
    rw [whole_enc s ho, kids_enc, Bool.true_and, List.all_map]
    cases s with
    | num | nam | ask => simp [Sm.kids, Sm.dp]
    | bin o a b =>
      simp only [Sm.kids, List.all_cons, List.all_nil, Bool.and_true, Function.comp, good_enc' n a ho.1, good_enc' n b ho.2]
      have e : (Sm.bin o a b).dp = 1 + max a.dp b.dp := rfl
      by_cases h1 : a.dp ≤ n
      · by_cases h2 : b.dp ≤ n
        · rw [decide_eq_true h1, decide_eq_true h2, decide_eq_true (by omega)]; rfl
        · rw [decide_eq_false h2, Bool.and_false, decide_eq_false (by omega)]
      · rw [decide_eq_false h1, Bool.false_and, decide_eq_false (by omega)]
    | say a =>
      simp only [Sm.kids, List.all_cons, List.all_nil, Bool.and_true, Function.comp, good_enc' n a ho]
      have e : (Sm.say a).dp = 1 + a.dp := rfl
      by_cases h1 : a.dp ≤ n
      · rw [decide_eq_true h1, decide_eq_true (by omega)]
      · rw [decide_eq_false h1, decide_eq_false (by omega)]
theorem sum_enc' {s : Sm} (h : s.ok) : sumD (enc s) = decide (s.dp ≤ 15 ∧ s.sz ≤ 60) := by
  unfold sumD
  rw [good_enc' 15 s h]
  by_cases hd : s.dp ≤ 15
  · rw [size_enc 15 s hd]
    simp [hd]
  · simp [hd]
end DL

/-! Texts: a sum's text, what changes of texts come to -/
namespace DL
open PySem L2 PyProof.Rows TL
abbrev wsp (t : Str) : List Str := Txt.split t " "
def wds (t : Str) : List Str := if t = "" then [] else wsp t
def txS (s : Sm) : Str := Txt.join " " (wdsOf s)
theorem blank_eq : (" " : Str) = ⟨#[32]⟩ := cl_inj (by rw [cl_blank])
theorem wc_eq (t : Str) : ((wsp t).length : Int) = 1 + cnt 32 (cl t) := by
  unfold wsp
  rw [blank_eq]
  exact split_len t 32
theorem sp_free (t : Str) : ∀ p ∈ wsp t, 32 ∉ cl p := by
  unfold wsp
  rw [blank_eq]
  exact StrLaws.split_free t 32
theorem sp_join (t : Str) : Txt.join " " (wsp t) = t := by
  rw [join_eq]
  exact StrLaws.join_split t " "
theorem join_sp {ws : List Str} (hne : ws ≠ []) (hf : ∀ p ∈ ws, 32 ∉ cl p) : wsp (Txt.join " " ws) = ws := split_join (s := 32) (S := []) cl_blank (by decide +kernel) hne hf
theorem blank_len : (" " : Str).length = 1 := by decide +kernel
def lsum (ws : List Str) : Nat := (ws.map (·.length)).sum
theorem join_len (ws : List Str) : (Txt.join " " ws).length ≤ lsum ws + ws.length := by
  have h := StrLaws.join_length_le " " ws
  rw [blank_len, Nat.mul_one] at h
  rw [join_eq]
  exact h
theorem lsum_app (a b : List Str) : lsum (a ++ b) = lsum a + lsum b := by unfold lsum; rw [List.map_append, List.sum_append]
theorem wds_free : ∀ s : Sm, s.ok → ∀ w ∈ wdsOf s, 32 ∉ cl w ∧ w.length ≤ 5
  | .num n, h, w, hw => by
    rw [wdsOf, List.mem_singleton] at hw
    subst hw
    have d := dg_ok h.1 h.2
    exact ⟨fun z => nob_dg h.1 h.2 _ z rfl, by have := d.2.2.1; show (cl (dgS n)).length ≤ 5; omega⟩
  | .nam c, h, w, hw => by
    rw [wdsOf, List.mem_singleton] at hw
    subst hw
    have hc : 97 ≤ c ∧ c < 103 := h
    refine ⟨fun z => ?_, by show 1 ≤ 5; decide⟩
    have : 32 = c := by simpa using z
    omega
  | .ask, h, w, hw => by
    rw [wdsOf, List.mem_singleton] at hw
    subst hw
    decide +kernel
  | .say a, h, w, hw => by
    rw [wdsOf, List.mem_cons] at hw
    rcases hw with rfl | hw
    · decide +kernel
    · exact wds_free a h w hw
  | .bin o a b, h, w, hw => by
    rw [wdsOf, List.mem_cons, List.mem_append] at hw
    rcases hw with rfl | hw | hw
    · cases o <;> decide +kernel
    · exact wds_free a h.1 w hw
    · exact wds_free b h.2 w hw
theorem wds_ne (s : Sm) : wdsOf s ≠ [] := fun e => by
  have h := wds_len s
  have := s.sz_pos
  rw [e] at h
  simp at h
  omega
theorem wds_wk : ∀ s : Sm, s.ok → ∀ w ∈ wdsOf s, w ≠ ""
  | .num n, h, w, hw => by
    rw [wdsOf, List.mem_singleton] at hw
    subst hw
    intro z
    have := wk_num h.1 h.2
    rw [z, wk_nil] at this
    cases this
  | .nam c, h, w, hw => by
    rw [wdsOf, List.mem_singleton] at hw
    subst hw
    intro z
    have := wk_nam h
    rw [z, wk_nil] at this
    cases this
  | .ask, h, w, hw => by
    rw [wdsOf, List.mem_singleton] at hw
    subst hw
    decide +kernel
  | .say a, h, w, hw => by
    rw [wdsOf, List.mem_cons] at hw
    rcases hw with rfl | hw
    · decide +kernel
    · exact wds_wk a h w hw
  | .bin o a b, h, w, hw => by
    rw [wdsOf, List.mem_cons, List.mem_append] at hw
    rcases hw with rfl | hw | hw
    · cases o <;> decide +kernel
    · exact wds_wk a h.1 w hw
    · exact wds_wk b h.2 w hw
theorem sp_tx {s : Sm} (h : s.ok) : wsp (txS s) = wdsOf s := join_sp (wds_ne s) fun p hp => (wds_free s h p hp).1
theorem sp_empty : wsp "" = [("" : Str)] := by decide +kernel
theorem wds_tx {s : Sm} (h : s.ok) : wds (txS s) = wdsOf s := by
  unfold wds
  rw [if_neg, sp_tx h]
  intro e
  have h1 := sp_tx h
  rw [e, sp_empty] at h1
  exact wds_wk s h "" (by rw [← h1]; simp) rfl
theorem lsum_le {ws : List Str} {n : Nat} (h : ∀ w ∈ ws, w.length ≤ n) : lsum ws ≤ n * ws.length := by
  induction ws with
  | nil => simp [lsum]
  | cons w ws ih =>
    have h1 := h w (by simp)
    have h2 := ih fun x hx => h x (by simp [hx])
    unfold lsum at h2 ⊢
    rw [List.map_cons, List.sum_cons, List.length_cons, Nat.mul_add]
    omega
theorem tx_len {s : Sm} (h : s.ok) : (txS s).length ≤ 6 * s.sz := by
  have h1 := join_len (wdsOf s)
  have h2 := lsum_le fun w hw => (wds_free s h w hw).2
  rw [wds_len] at h1 h2
  unfold txS
  omega
theorem wds_le (t : Str) : (wds t).length ≤ (wsp t).length := by
  unfold wds
  split
  · simp
  · exact Nat.le_refl _
theorem wds_short {t w : Str} (h : w ∈ wds t) : w.length ≤ t.length := by
  unfold wds at h
  split at h
  · cases h
  · exact part_short h
/-! changes -/
theorem cut_take' (t : Str) (k : Nat) : cl (cutS t none (some (k : Int))) = (cl t).take k := by
  show (((cl t).drop (HT.sIx t.length 0 none)).take (HT.sIx t.length t.length (some (k : Int)) - HT.sIx t.length 0 none)).toArray.toList = _
  rw [List.toList_toArray, HT.sIx_none, HT.sIx_nat, List.drop_zero, Nat.sub_zero, List.take_eq_take_iff]
  show min (min k t.length) (cl t).length = min k (cl t).length
  have : t.length = (cl t).length := len_tl t
  omega
theorem cut_drop' (t : Str) (k : Nat) : cl (cutS t (some (k : Int)) none) = (cl t).drop k := by
  show (((cl t).drop (HT.sIx t.length 0 (some (k : Int)))).take (HT.sIx t.length t.length none - HT.sIx t.length 0 (some (k : Int)))).toArray.toList = _
  have e : t.length = (cl t).length := len_tl t
  rw [List.toList_toArray, HT.sIx_none, HT.sIx_nat, e]
  by_cases h : k ≤ (cl t).length
  · rw [Nat.min_eq_left h, ← List.length_drop, List.take_length]
  · rw [Nat.min_eq_right (by omega), List.drop_eq_nil_of_le (Nat.le_refl _), List.drop_eq_nil_of_le (by omega), List.take_nil]
theorem cnt_rng (c : Nat) : ∀ l : List Nat, 0 ≤ cnt c l ∧ cnt c l ≤ l.length
  | [] => by rw [cnt_nil]; simp
  | n :: r => by
    have := cnt_rng c r
    rw [cnt_cons, List.length_cons]
    split <;> omega
theorem cnt_cut (c : Nat) (l : List Nat) {i j : Nat} (h : i ≤ j) : cnt c (l.take i) + cnt c (l.drop j) ≤ cnt c l := by
  have e1 := cnt_append c (l.take i) (l.drop i)
  rw [List.take_append_drop] at e1
  have e2 := cnt_append c ((l.drop i).take (j - i)) ((l.drop i).drop (j - i))
  rw [List.take_append_drop, List.drop_drop, show i + (j - i) = j by omega] at e2
  have := (cnt_rng c ((l.drop i).take (j - i))).1
  omega
theorem chg_sign {t x : Str} {i j : Nat} (hij : i ≤ j) (hx : x.length ≤ 1) : (cutS t none (some (i : Int)) ++ x ++ cutS t (some (j : Int)) none).length ≤ t.length + 1 ∧ (wsp (cutS t none (some (i : Int)) ++ x ++ cutS t (some (j : Int)) none)).length ≤ (wsp t).length + 1 := by
  have el : ∀ y : Str, y.length = (cl y).length := len_tl
  have h1 := wc_eq t
  have h2 := wc_eq (cutS t none (some (i : Int)) ++ x ++ cutS t (some (j : Int)) none)
  rw [cl_app, cl_app, cut_take', cut_drop', cnt_append, cnt_append] at h2
  have h3 := cnt_cut 32 (cl t) hij
  have h4 := cnt_rng 32 (cl x)
  have h5 := el x
  refine ⟨?_, by omega⟩
  rw [el, cl_app, cl_app, cut_take', cut_drop', List.length_append, List.length_append, List.length_take, List.length_drop, el t]
  omega
theorem chg_word {t : Str} {k : Nat} {mid : List Str} (hk : k < (wsp t).length) (hm : mid.length ≤ 2) (hf : ∀ p ∈ mid, 32 ∉ cl p) (hl : lsum mid ≤ 2 * (wsp t)[k].length + 4) :
    (Txt.join " " ((wsp t).take k ++ mid ++ (wsp t).drop (k + 1))).length ≤ 2 * t.length + 10 ∧ (wsp (Txt.join " " ((wsp t).take k ++ mid ++ (wsp t).drop (k + 1)))).length ≤ (wsp t).length + 1 := by
  have w1 := split_weight t " " (by rw [blank_len]; decide)
  have w2 := part_short (List.getElem_mem hk)
  have e1 : wsp t = (wsp t).take k ++ ((wsp t)[k] :: (wsp t).drop (k + 1)) := by rw [← List.drop_eq_getElem_cons hk, List.take_append_drop]
  have e2 := congrArg lsum e1
  have e3 := congrArg List.length e1
  rw [lsum_app] at e2
  rw [List.length_append, List.length_cons] at e3
  have e4 : lsum ((wsp t)[k] :: (wsp t).drop (k + 1)) = (wsp t)[k].length + lsum ((wsp t).drop (k + 1)) := by unfold lsum; rw [List.map_cons, List.sum_cons]
  have w3 : lsum (wsp t) + (wsp t).length ≤ t.length + 1 := w1
  have hj := join_len ((wsp t).take k ++ mid ++ (wsp t).drop (k + 1))
  rw [lsum_app, lsum_app] at hj
  have hlen : ((wsp t).take k ++ mid ++ (wsp t).drop (k + 1)).length ≤ (wsp t).length + 1 := by
    rw [List.length_append, List.length_append]
    omega
  refine ⟨by omega, ?_⟩
  by_cases hne : (wsp t).take k ++ mid ++ (wsp t).drop (k + 1) = []
  · rw [hne]
    have : wsp (Txt.join " " []) = [("" : Str)] := by decide +kernel
    rw [this]
    show 1 ≤ (wsp t).length + 1
    omega
  · rw [join_sp hne fun p hp => ?_]
    · exact hlen
    · rcases List.mem_append.mp hp with hp | hp
      · rcases List.mem_append.mp hp with hp | hp
        · exact sp_free t p (List.mem_of_mem_take hp)
        · exact hf p hp
      · exact sp_free t p (List.mem_of_mem_drop hp)
/-! figures -/
theorem fig_int {w : Str} (h : figs (cl w) = true) : intText? w = some (decD (cl w)) ∧ w.length ≤ 640 := by
  have h0 := h
  simp only [figs, Bool.and_eq_true, decide_eq_true_eq, List.all_eq_true] at h
  obtain ⟨h1, h2, h3, _⟩ := h
  have ha : NumText.AllDigits (cl w) := fun c hc => by
    have := h3 c hc
    omega
  have hl : w.length = (cl w).length := len_tl w
  have hne : cl w ≠ [] := fun e => by rw [e] at h1; simp at h1
  have e := intText_digits (x := w) ha hne (by omega)
  refine ⟨?_, by omega⟩
  rw [e]
  have f := fold_digits (cl w) 0 ha
  unfold decD
  exact congrArg some f.symm
end DL

/-! Lambdas that are kept: made, handed out of the def that made them, called later -/
namespace DL
open PySem PySem.Spec PyProof.Rows L2
theorem lamO_ok {P : Program} {w : World} {H : Hp} {h : Heap} {a c1 : Addr} {L : LamRec} {m1 m2 : Value} (e : h.get? a = some (PySem.W.kla_obj "<lambda>" L.q L.prm L.bdy L.scp L.clo m1 c1 m2)) : ObjOk P w H h a (LamO a L c1 m1 m2) :=
  ⟨e, ⟨_, e⟩, fun _ _ z k => k _ z⟩
theorem celO_ok {P : Program} {w : World} {H : Hp} {h : Heap} {a : Addr} {v : V} (e : ∃ u, RelV v u ∧ h.IsCell a (some u)) : ObjOk P w H h a (CelO a v) :=
  ⟨e, let ⟨_, _, o, ho, _⟩ := e; ⟨o, ho⟩, fun _ _ ⟨u, r, o, ho, hd⟩ k => ⟨u, r, o, k o ho, hd⟩⟩
section
variable {X : Cx} {pins : List (Addr × Obj)} {σ : L2.St} {H : Hp} {s : Shared}
/-- a lambda made; it is known from now on -/
theorem lam_kept {c p : Addr} {prm : Arguments} {bdy : Expr} {scp : Scope} {pos : Pos} {ps : Array Value} {E : Value → Shared → Prop} {Q : Value → Shared → Prop} (I : Inv X pins σ H s) (B : LamX.TabB X.base X.mg c p) (hcode : X.env.code = .ref c) (hp : H p = some (.tbl ps)) (htr : TriplesOk ps.toList)
    (hcod : ∀ (pos : Pos) (cv : Value), codeAmong pos ps.toList = some cv → ∃ d, cv = .ref d ∧ H d = some (LamX.CodeO d (X.env.qual ++ "<lambda>"))) (hdf : defaultsOf prm X.env = ([], [])) (hfr : ∀ y ∈ scp.names, y.2 = .free → ∃ d, X.env.cells.lookup y.1 = some d)
    (go : ∀ (f c1 : Addr) (m1 m2 : Value) (H1 : Hp) (ps1 : Array Value) (s1 : Shared), Grow H H1 p (X.env.qual ++ "<lambda>") ps ps1 c1 → (H c1 = none ∨ ∃ pos, codeAmong pos ps.toList = some (.ref c1)) → H1 f = none → H1 c1 = some (LamX.CodeO c1 (X.env.qual ++ "<lambda>")) →
      Inv X pins σ (upd H1 f (LamO f ⟨prm, bdy, scp, cloFrom X.env.cells scp.names [], X.env.qual ++ "<lambda>"⟩ c1 m1 m2)) s1 → Q (.ref f) s1) :
    wpAny (model X.prog X.w) X.A (eval (.Lambda prm bdy scp pos) X.env) Q E s := by
  refine PySem.W.kla_eval hdf ?_
  have hbi := B.bm.keeps I.bk
  have hpo : s.heap.get? p = some { cls := .none, data := .fields ps } := I.hok p _ hp
  cases hit : codeAmong pos ps.toList with
  | some cv =>
    obtain ⟨d, rfl, hd⟩ := hcod pos cv hit
    refine PySem.W.kla_makeFunctionHit (mg := X.mg) (c := c) (P := p) (ps := ps) (closure_ok hfr) I.ok.glob (I.mod.glob.keeps I.bk) hcode (B.code.keeps I.bk) hpo htr hit hbi fun m2 h2 tk keep hsz => ?_
    have I1 : Inv X pins σ H { s with heap := h2, toks := tk } := I.kept fun b o e => keep b o e
    refine go h2.objs.size d ((X.mg "__name__").getD .none) m2 H ps _ ⟨fun _ _ _ => rfl, .inr ⟨rfl, rfl⟩, hp, htr, fun _ _ e => .inl e⟩ (.inr ⟨_, hit⟩) (I.hok.fresh hsz) hd ?_
    exact I1.laid (t' := tk) (fun b o e => Heap.get?_push_of_some _ e) (Nat.le_refl _) (lamO_ok (Heap.get?_push_size _ rfl))
  | none =>
    refine PySem.W.kla_makeFunction (mg := X.mg) (c := c) (P := p) (ps := ps) (closure_ok hfr) I.ok.glob (I.mod.glob.keeps I.bk) hcode (B.code.keeps I.bk) hpo htr hit B.gP hbi fun d m2 h2 tk keep hge hlt hrec htb => ?_
    obtain ⟨d2, od, vs, t, e2, hod, hd, hv⟩ := hrec
    cases e2
    have hsz : s.heap.objs.size ≤ h2.objs.size := Nat.le_trans hge (Nat.le_of_lt hlt)
    have hn : H d = none := I.hok.fresh hge
    have hdp : p ≠ d := ne_of_none hp hn
    have J := LamX.inv_table (t' := tk) (more := #[rawInt pos.line, rawInt pos.col, .ref d]) (h' := h2) I hp (fun b o hb e => keep b o hb e) htb hge ⟨od, vs, t, hod, hd, hv⟩
    refine go h2.objs.size d ((X.mg "__name__").getD .none) m2 _ _ _ ⟨fun b h1 h3 => by rw [upd_ne h3, upd_ne h1], .inl hn, by rw [upd_ne hdp, upd_same], ?_, fun p2 cv hc => ?_⟩ (.inl hn) (J.hok.fresh (Nat.le_refl _)) upd_same (J.laid (t' := tk) (fun b o e => Heap.get?_push_of_some _ e) (Nat.le_refl _) (lamO_ok (Heap.get?_push_size _ rfl)))
    · have := PySem.TriplesOk_snoc pos.line pos.col (.ref d) ps.toList htr
      simpa using this
    · have hc' : codeAmong p2 (ps.toList ++ [rawInt pos.line, rawInt pos.col, .ref d]) = some cv := by simpa using hc
      rcases LamX.among_app ps.toList htr hc' with z | z
      · exact .inl z
      · exact .inr ⟨z, upd_same, hn⟩
end
/-- a lambda as an expression -/
def tLamE (p : Addr) (L : LamRec) : TE := fun _ H Q => ∃ ps : Array Value, H p = some (.tbl ps) ∧ TriplesOk ps.toList ∧ (∀ (pos : Pos) (cv : Value), codeAmong pos ps.toList = some cv → ∃ d, cv = .ref d ∧ H d = some (LamX.CodeO d L.q)) ∧
  ∀ (f c1 : Addr) (m1 m2 : Value) (H1 : Hp) (ps1 : Array Value), Grow H H1 p L.q ps ps1 c1 → (H c1 = none ∨ ∃ pos, codeAmong pos ps.toList = some (.ref c1)) → H1 f = none → H1 c1 = some (LamX.CodeO c1 L.q) → Q (.ref f) (upd H1 f (LamO f L c1 m1 m2))
theorem pe_lamE {X : Cx} {c p : Addr} {prm : Arguments} {bdy : Expr} {scp : Scope} {pos : Pos} (B : LamX.TabB X.base X.mg c p) (hcode : X.env.code = .ref c) (L : LamX.LamS X.env.scope scp) (hdf : defaultsOf prm X.env = ([], [])) :
    PE X (.Lambda prm bdy scp pos) (tLamE p ⟨prm, bdy, scp, cloFrom X.env.cells scp.names [], X.env.qual ++ "<lambda>"⟩) := by
  refine ⟨fun pins s σ H Q I ⟨ps, hp, htr, hcod, h⟩ => ?_⟩
  refine lam_kept I B hcode hp htr hcod hdf (L.has I.ok) fun f c1 m1 m2 H1 ps1 s1 grow hw hf hc1 J => ?_
  exact ⟨.ref f, _, J, rfl, h f c1 m1 m2 H1 ps1 grow hw hf hc1⟩
theorem de_lamE {P : Pr} {M : Mp} {Q : D → Mp → Prop} {ε : DSt} {p : Addr} {L : LamRec} (hM : M p = some (.tab L.q)) (q : ∀ f, M f = none → P.B f = none → Q (.val (.ref f)) (updM M f (.lam L))) : DE P (tLamE p L) ε M Q := fun σ H R a k => by
  obtain ⟨ps, h1, h2, h3⟩ := a.good.cell p _ hM
  refine ⟨ps, h1, h2, fun pos cv hc => ?_, fun f c1 m1 m2 H1 ps1 w hw hf hc1 => ?_⟩
  · obtain ⟨d, e1, e2, _⟩ := h3 pos cv hc
    exact ⟨d, e1, e2⟩
  · obtain ⟨g, e⟩ := good_grow a.good hM h1 h3 w
    have hMf := g.free hf
    have hc1M : M c1 = none := by
      rcases hw with z | ⟨pos, z⟩
      · exact a.good.free z
      · obtain ⟨d, e1, _, e3⟩ := h3 pos _ z
        cases e1
        exact e3
    have hne : c1 ≠ f := ne_of_none hc1 hf
    exact k _ _ _ _ (.val _) (g.newCell (c := .lam L) hf ⟨c1, m1, m2, upd_same, by rw [upd_ne hne]; exact hc1, by rw [updM_ne hne]; exact hc1M⟩) (e.trans (ext_cell hf)) (q f hMf (g.base _ hf))

/-! ### a def whose return is seen with its state -/
structure PSk (X : Cx) (st : List Stmt) (t : (V → L2.St → Hp → Prop) → L2.St → Hp → Prop) : Prop where
  run : ∀ (pins : List (Addr × Obj)) (s : Shared) (σ : L2.St) (H : Hp) (R : V → L2.St → Hp → Prop), Inv X pins σ H s → t R σ H → wpAny (model X.prog X.w) X.A (execs st X.env) (fun f s' => ∃ u v σ' H', f = .ret u ∧ Inv X pins σ' H' s' ∧ RelV v u ∧ R v σ' H') X.xe s
section
variable {X : Cx} {st : Stmt} {rest : List Stmt} {t : TS} {u : (V → L2.St → Hp → Prop) → L2.St → Hp → Prop} {e : Expr} {te : TE} {pos : Pos}
theorem psk_cons (h1 : PS X st t) (h2 : PSk X rest u) : PSk X (st :: rest) (fun R σ H => t { nx := fun σ' H' => u R σ' H', rt := fun _ _ => False, bk := fun _ _ => False, ct := fun _ _ => False } σ H) := by
  refine ⟨fun pins s σ H R I h => ?_⟩
  refine wpAny_execs_cons (thn (h1.run pins s σ H _ I h) fun f s1 q => ?_)
  cases f with
  | next =>
    obtain ⟨σ', H', I', q⟩ := q
    exact h2.run pins s1 σ' H' R I' q
  | ret v => obtain ⟨_, _, _, _, _, z⟩ := q; exact z.elim
  | brk => obtain ⟨_, _, _, z⟩ := q; exact z.elim
  | cont => obtain ⟨_, _, _, z⟩ := q; exact z.elim
theorem psk_ret (he : PE X e te) : PSk X [.Return (some e) pos] (fun R σ H => te σ H fun v H' => R v σ H') := by
  refine ⟨fun pins s σ H R I h => ?_⟩
  refine wpAny_execs_cons (wpAny_Return_some (thn (he.run pins s σ H _ I h) fun v s1 ⟨x, H1, I1, r1, q1⟩ => ?_))
  exact ⟨v, x, σ, H1, rfl, I1, r1, q1⟩
theorem PSk.nox {b : List Stmt} (h : PSk X.nox b u) : PSk X b u := ⟨fun pins s σ H R I hh =>
  wpAny_mono (h.run pins s σ H R (I.wish _) hh) (fun _ _ ⟨u, v, σ', H', e, J, r, q⟩ => ⟨u, v, σ', H', e, J.unwish, r, q⟩) fun _ _ z => False.elim z⟩
end
def DK (P : Pr) (u : (V → L2.St → Hp → Prop) → L2.St → Hp → Prop) (Q : D → DSt → Mp → Prop) (ε : DSt) (M : Mp) : Prop := ∀ (σ : L2.St) (H : Hp) (R : V → L2.St → Hp → Prop), At P ε M σ H →
  (∀ (v : V) (d : D) (σ' : L2.St) (ε' : DSt) (M' : Mp) (H' : Hp), Tr P.K P.B M' H' v d → EnvR P.K P.B M' H' σ' ε' → Good P.K P.B M' H' → Ext M H M' H' → Q d ε' M' → R v σ' H') → u R σ H
section
variable {P : Pr} {M : Mp} {ε : DSt} {t : TS} {u : (V → L2.St → Hp → Prop) → L2.St → Hp → Prop} {te : TE} {Q : D → DSt → Mp → Prop}
theorem dk_cons (h : DS P t { nx := fun ε' M' => DK P u Q ε' M', rt := fun _ _ => False } ε M) : DK P (fun R σ H => t { nx := fun σ' H' => u R σ' H', rt := fun _ _ => False, bk := fun _ _ => False, ct := fun _ _ => False } σ H) Q ε M := fun σ H R a k => by
  refine h σ H _ a ⟨fun σ1 ε1 M1 H1 r1 g1 e1 h1 => ?_, fun v d M1 H1 t1 g1 e1 z => z, fun _ _ _ _ _ _ _ z => z, fun _ _ _ _ _ _ _ z => z⟩
  exact h1 σ1 H1 R ⟨r1, g1, a.link.ext e1⟩ fun v d σ' ε' M' H' t' r' g' e' q => k v d σ' ε' M' H' t' r' g' (e1.trans e') q
theorem dk_ret (h : DE P te ε M fun d M' => Q d ε M') : DK P (fun R σ H => te σ H fun v H' => R v σ H') Q ε M := fun σ H R a k => h σ H _ a fun v d M1 H1 t1 g1 e1 q => k v d σ ε M1 H1 t1 (a.env.ext e1) g1 e1 q
end
/-- the cell of a def's one parameter is told of behind it -/
theorem hok_cel {P : Program} {w : World} {H : Hp} {h : Heap} {cc : Addr} {v : V} (x : HOk P w H h) (hn : H cc = none) (hc : ∃ u, RelV v u ∧ h.IsCell cc (some u)) : HOk P w (upd H cc (CelO cc v)) h := fun b o hb => by
  by_cases e : b = cc
  · subst e
    rw [upd_same] at hb
    cases hb
    exact celO_ok hc
  · rw [upd_ne e] at hb
    exact (x b o hb).stay (fun _ _ _ q => q) (fun d q => by rw [upd_ne (ne_of_none q hn)]; exact q) fun d xs q => by rw [upd_ne (ne_of_none q hn)]; exact q
theorem un_cel {fs : List Addr} {H H' : Hp} {h h' : Heap} {cc : Addr} {v : V} (x : Un fs [] H H' h h') (hn : H' cc = none) (hc : h.objs.size ≤ cc) : Un fs [] H (upd H' cc (CelO cc v)) h h' where
  keep := x.keep
  slot := x.slot
  free := fun b o e n z => by rw [upd_ne (Nat.ne_of_lt (Nat.lt_of_lt_of_le (Heap.lt_size e) hc))]; exact x.free b o e n z
  there := x.there
  tups := fun b xs e => by
    have q := x.tups b xs e
    rw [upd_ne (ne_of_none q hn)]; exact q
  frzs := fun b o u e => by
    have q := x.frzs b o u e
    rw [upd_ne (ne_of_none q hn)]; exact q
  tbls := fun b ps e => by
    obtain ⟨more, q⟩ := x.tbls b ps e
    exact ⟨more, by rw [upd_ne (ne_of_none q hn)]; exact q⟩
/-- a def with one parameter, which its lambdas hold: behind it the cell is told of -/
theorem fnEsc {P : Program} {w : World} {K : PySem.W.Frag} {mg : Str → Option Value} {base : Heap} {x qual y : Str} {st : Stmt} {f c : Addr} {oc kV doc pm ct : Value} {od an : Option Addr} {osl : Array (Option Value)} {N : List Str} {k : Nat} {S : Sq}
    (lk : K.lookup f = some ⟨oc, od, .func (PySem.W.fnOf x qual (defArgs st) (defBody st) (defScope st) .none kV doc pm an (.ref c) ct), osl⟩) (hcd : PySem.W.codeIn K (.ref c) qual = true) (sc : FnScope N [y] (defScope st)) (hl : ∀ ds M Q X, S ds M Q X → ds.length = 1)
    (hN : N[0]? = some y) (hcell : (defScope st).names.lookup y = some .cell)
    (hb : ∀ (A : Around) (outer : List Env) (s : Shared) (H : Hp) (E : XK) (cc : Addr), (cellsFrom (s.heap.objs.size + 1) (defScope st).names []).lookup y = some cc → Room k (A.deeper (envOfC qual (defScope st) s.heap.objs.size f (.ref c))) →
      ∃ u, PSk (cxOf CX0 P w K mg base N qual (defScope st) f (.ref c) A outer s H E).nox (defBody st) u ∧ ∀ B ds M Qd Xd, S ds M Qd Xd → DK ⟨K, B, E, Xd⟩ u (fun d ε' M' => ∃ d0, ε'[0]? = some (some d0) ∧ (M' cc = none → Qd d (updM M' cc (.cel d0)))) (startD N ds) M) :
    FnOk P w K mg base (L2.CX P w) (k + 1) f (PySem.W.fnOf x qual (defArgs st) (defBody st) (defScope st) .none kV doc pm an (.ref c) ct) [y] (spI K S) := by
  refine ok_cx ?_
  refine ⟨fun vs H Q E h => ?_, fun A outer s H args us vs Q E hr e0 hbd r hsp => ?_⟩
  · obtain ⟨B, ds, M, Qd, Xd, t1, g, hs, _⟩ := h
    exact len_of t1 (hl _ _ _ _ hs)
  obtain ⟨B, ds, M, Qd, Xd, t1, g, hs, kq, l⟩ := hsp
  have hlv : vs.length = [y].length := len_of t1 (hl _ _ _ _ hs)
  have KX : K.In s.heap := e0.mod.kin.keeps fun b o e => (e0.bs b o e).1
  have lim : s.heap.NoLimit := e0.mod.nolimit.keeps fun b o e => (e0.bs b o e).1
  have hkind : ∀ z ∈ [y].zip us, (defScope st).names.lookup z.1 = some .local ∨ ((defScope st).names.lookup z.1 = some .cell ∧ ((cellsFrom (s.heap.objs.size + 1) (defScope st).names []).lookup z.1).isSome = true) := fun ⟨n, v⟩ hy => by
    rcases sc.par n (List.of_mem_zip hy).1 with q | q
    · exact .inl q
    · exact .inr ⟨q, PySem.W.cellsFrom_some _ _ _ (.inl q)⟩
  refine codeAny_call_function hr.depth (KX _ _ lk) rfl sc.co sc.gen rfl (PySem.W.codeRec_of KX hcd) (hbd _ _ _ _ ?_)
  refine wpAny_newFunctionEnv_cells sc.kind hkind fun env he s1 xx => ?_
  subst he
  refine ⟨lim.keeps xx.toInCall.keep, codeAny_func ?_⟩
  obtain ⟨cc, hcc⟩ := cell_has (n := s.heap.objs.size + 1) hcell
  obtain ⟨u, hu, hd⟩ := hb A outer s H E cc hcc (hr.deeper _)
  have I : Inv (cxOf CX0 P w K mg base N qual (defScope st) f (.ref c) A outer s H E) [] (L2.start N vs) H s1 := inv_start sc hr.hd e0 hlv r xx
  have run := hd B ds M Qd Xd hs (L2.start N vs) H (fun v σ' H' => ∃ v0, σ'[0]? = some (some v0) ∧ (H' cc = none → Q v (upd H' cc (CelO cc v0)))) ⟨start_env t1, g, l⟩ fun v d σ' ε' M' H' t' r' g' e' ⟨d0, h1, h2⟩ => by
    obtain ⟨v0, h3, t3⟩ := r'.2 0 d0 h1
    refine ⟨v0, h3, fun hn => ?_⟩
    exact kq v d _ _ (t'.ext (ext_cell hn)) (g'.newCell (c := .cel d0) hn ⟨v0, upd_same, t3.ext (ext_cell hn), g'.base _ hn⟩) (e'.trans (ext_cell hn)) (h2 (g'.free hn))
  refine wpAny_mono (hu.nox.run [] s1 (L2.start N vs) H _ I run) (fun fl s' hs' => ?_) fun e s' hs' => hs'
  obtain ⟨u1, v, σ', H', rfl, J, rv, v0, h3, h4⟩ := hs'
  have hn : H' cc = none := J.freeC y cc hcc
  have hab : s.heap.objs.size ≤ cc := J.ok.cab y cc rfl hcc
  obtain ⟨m, _, hlk⟩ := J.loc
  obtain ⟨u2, ru, lk2⟩ := hlk 0 y v0 hN h3 (.inr (.inl hcell))
  have hic : ∃ u, RelV v0 u ∧ s'.heap.IsCell cc (some u) := by
    rcases lk2 with ⟨z, _⟩ | ⟨_, c2, e2, z⟩
    · have z' : (defScope st).names.lookup y = some .local := z
      rw [hcell] at z'
      cases z'
    · have e3 : (cellsFrom (s.heap.objs.size + 1) (defScope st).names []).lookup y = some c2 := e2
      rw [hcc] at e3
      cases e3
      exact ⟨u2, ru, z⟩
  exact ⟨v, upd H' cc (CelO cc v0), J.os, J.bare, un_cel J.base hn hab, hok_cel J.hok hn hic, rv, h4 hn⟩
/-! ### a kept lambda called -/
structure LamK (scp : Scope) (y : Str) : Prop where
  kind : scp.kind = .function
  co : scp.isCoroutine = false
  gen : scp.isGenerator = false
  own : ∀ z ∈ scp.names, z.2 ≠ .local ∧ z.2 ≠ .cell
  free : ∀ z ∈ scp.names, z.2 = .free → z.1 = y
def lamKB (scp : Scope) (y : Str) : Bool := decide (scp.kind = .function) && !scp.isCoroutine && !scp.isGenerator && scp.names.all fun z => !decide (z.2 = .local) && !decide (z.2 = .cell) && (!decide (z.2 = .free) || decide (z.1 = y))
theorem lamK_by {scp : Scope} {y : Str} (h : lamKB scp y = true) : LamK scp y := by
  unfold lamKB at h
  simp only [Bool.and_eq_true, Bool.or_eq_true, Bool.not_eq_true', decide_eq_true_eq, decide_eq_false_iff_not, List.all_eq_true] at h
  obtain ⟨⟨⟨h1, h2⟩, h3⟩, h4⟩ := h
  refine ⟨h1, h2, h3, fun y hy => (h4 y hy).1, fun y hy e => ?_⟩
  rcases (h4 y hy).2 with z | z
  · exact absurd e z
  · exact z
abbrev lamEnvK (L : LamRec) (N f c1 : Addr) : Env := PySem.W.envX L.q L.scp N f (.ref c1) L.clo
def lamCk (P : Program) (w : World) (K : PySem.W.Frag) (mg : Str → Option Value) (base : Heap) (y : Str) (L : LamRec) (f c1 : Addr) (A : Around) (outer : List Env) (s : Shared) (H : Hp) (E : XK) : Cx where
  prog := P
  w := w
  K := K
  mg := mg
  base := base
  A := A.deeper (lamEnvK L s.heap.objs.size f c1)
  N := [y]
  s_0 := s
  H_0 := H
  env := lamEnvK L s.heap.objs.size f c1
  outer := outer
  stack := lamEnvK L s.heap.objs.size f c1 :: outer
  ex := []
  fn := fun _ => false
  calm := true
  pn := []
  xe := fun e s' => wpAny (model P w) (A.deeper (lamEnvK L s.heap.objs.size f c1)) (leaving (lamEnvK L s.heap.objs.size f c1) e) (fun _ s'' => L2.CX P w outer H s E e s'') (fun e' s'' => L2.CX P w outer H s E e' s'') s'
theorem del_none {H : Hp} {a b : Addr} (h : H b = none) : del H a b = none := by
  by_cases e : b = a
  · rw [e]; exact del_same
  · rw [del_ne e]; exact h
theorem hok_del {P : Program} {w : World} {H : Hp} {h : Heap} {cc : Addr} {v : V} (x : HOk P w H h) (hc : H cc = some (CelO cc v)) : HOk P w (del H cc) h := fun b o hb => by
  by_cases e : b = cc
  · rw [e, del_same] at hb; cases hb
  · rw [del_ne e] at hb
    exact (x b o hb).stay (fun _ _ _ q => q) (fun d q => by
      rw [del_ne (fun z => by rw [z, hc] at q; cases q)]; exact q) fun d xs q => by
      rw [del_ne (fun z => by rw [z, hc] at q; cases q)]; exact q
theorem one_lookup {y z : Str} {c d : Addr} (h : [(y, c)].lookup z = some d) : z = y ∧ d = c := by
  rw [List.lookup_cons] at h
  by_cases e : z == y
  · rw [e] at h
    cases h
    exact ⟨eq_of_beq e, rfl⟩
  · have e' : (z == y) = false := by simpa using e
    rw [e'] at h
    cases h
theorem lamk_start {P : Program} {w : World} {K : PySem.W.Frag} {mg : Str → Option Value} {base : Heap} {y : Str} {L : LamRec} {f c1 cc : Addr} {A : Around} {outer : List Env} {s : Shared} {H : Hp} {E : XK} {v : V} {h₁ : Heap} {tk : Nat} (S : LamK L.scp y) (hclo : L.clo = [(y, cc)]) (e0 : Env0 P w K mg base A outer s H) (hd : A.handled = none)
    (hc : H cc = some (CelO cc v)) (hns : h₁.Ns s.heap.objs.size fun y => ([] : List (Str × Value)).reverse.lookup y) (kp : ∀ b o, s.heap.get? b = some o → h₁.get? b = some o) :
    Inv (lamCk P w K mg base y L f c1 A outer s (del H cc) E) [] [some v] (del H cc) { s with heap := h₁, toks := tk } := by
  obtain ⟨⟨u, ru, hic⟩, _, _⟩ := e0.hok cc _ hc
  have hcl : ∀ z d, (lamEnvK L s.heap.objs.size f c1).cells.lookup z = some d → z = y ∧ d = cc := fun z d h => one_lookup (by have h' : L.clo.lookup z = some d := h; rw [hclo] at h'; exact h')
  have noA : ∀ b : Addr, b ∉ (lamCk P w K mg base y L f c1 A outer s (del H cc) E).ex := fun b z => absurd (show b ∈ ([] : List Addr) from z) (by simp)
  have look : L.clo.lookup y = some cc := by rw [hclo]; simp
  have ho : HOk P w (del H cc) s.heap := hok_del e0.hok hc
  refine ⟨⟨e0.mod, S.kind, rfl, rfl, Nat.le_refl _, fun z z2 d e1 e2 => ?_, fun z hz => ?_, fun _ _ z _ => (by cases (show false = true from z)), fun _ => hd, Around.frames_deeper e0.frames, .inr ⟨rfl, rfl⟩, fun b z => absurd z (noA b), fun b o e => ⟨(e0.bs b o e).1, del_none (e0.bs b o e).2⟩, e0.bsz, fun b _ _ => noA b,
      fun b z => absurd z (noA b), e0.funs, fun b hb => del_none (e0.frf b hb)⟩,
    rfl, e0.bare, Un.kept kp, ⟨_, hns, fun i z v' e1 e2 e3 => ?_⟩, fun z d e => ?_, ho.fresh (Nat.le_refl _), fun z d e => ?_, fun q hq => absurd (show q ∈ ([] : List (Addr × Obj)) ++ [] from hq) (by simp), ho.kept kp, rfl⟩
  · exact (hcl z d e1).1.trans (hcl z2 d e2).1.symm
  · have hz : L.scp.names.lookup z = some .cell ∨ L.scp.names.lookup z = some .free := hz
    rcases hz with hz | hz
    · exact absurd rfl (S.own _ (PySem.mem_of_lookup hz)).2
    · have := S.free _ (PySem.mem_of_lookup hz) rfl
      exact ⟨cc, by show L.clo.lookup z = some cc; rw [show z = y from this]; exact look⟩
  · have e3 : Vis L.scp z := e3
    match i, e1, e2 with
    | 0, e1, e2 =>
      cases e1
      cases e2
      rcases e3 with k | k | k
      · exact absurd rfl (S.own _ (PySem.mem_of_lookup k)).1
      · exact absurd rfl (S.own _ (PySem.mem_of_lookup k)).2
      · exact ⟨u, ru, .inr ⟨.inr k, cc, look, hic.keeps kp⟩⟩
    | i + 1, e1, e2 => cases e2
  · rw [(hcl z d e).2]
    exact ⟨_, hic.keeps kp⟩
  · rw [(hcl z d e).2]
    exact del_same
/-- the wish of an exception that leaves the lambda: the cell is known again -/
def Ecel (E : XK) (cc : Addr) (v : V) : XK := fun cls d H' => H' cc = none → E cls d (upd H' cc (CelO cc v))
theorem call_lamk {P : Program} {w : World} {K : PySem.W.Frag} {mg : Str → Option Value} {base : Heap} {y : Str} {L : LamRec} {f c1 cc : Addr} {m1 m2 : Value} {A : Around} {outer : List Env} {s : Shared} {H : Hp} {E : XK} {Q : VK} {v : V} {k : Nat} {tb : TE} (S : LamK L.scp y) (hclo : L.clo = [(y, cc)]) (e0 : Env0 P w K mg base A outer s H) (hr : Room (k + 1) A)
    (hnl : s.heap.NoLimit) (hf : H f = some (LamO f L c1 m1 m2)) (hc1 : H c1 = some (LamX.CodeO c1 L.q)) (hc : H cc = some (CelO cc v)) (hbd : bindArgs (PySem.W.kla_fn "<lambda>" L.q L.prm L.bdy L.scp L.clo m1 (.ref c1) m2) ⟨[], []⟩ = pure [])
    (hbody : Room k (A.deeper (lamEnvK L s.heap.objs.size f c1)) → PE (lamCk P w K mg base y L f c1 A outer s (del H cc) (Ecel E cc v)) L.bdy tb) (h : tb [some v] (del H cc) fun _ _ => False) :
    codeAny (model P w) A (.call (.ref f) ⟨[], []⟩) (CR (L2.CX P w) outer P w H s Q E) s := by
  obtain ⟨of1, _, _⟩ := e0.hok f _ hf
  obtain ⟨⟨oc, vs, t, hoc, hdc, hvc⟩, _, _⟩ := e0.hok c1 _ hc1
  obtain ⟨⟨u, ru, ocel, hocel, hdcel⟩, _, _⟩ := e0.hok cc _ hc
  have hcf : cc ∉ frs outer := fun z => by
    have := e0.frf cc z
    rw [hc] at this
    cases this
  refine PySem.W.kla_callFunE hr.depth of1 rfl S.co S.gen rfl ⟨c1, oc, vs, t, rfl, hoc, hdc, hvc⟩ ?_
  rw [hbd]
  refine wpAny_pure (wpAny_newFunctionEnv (fun y hy => (S.own y hy).2) (fun y hy => absurd hy (by simp)) (fun h₁ hns hsb => ⟨hnl.fresh _ hsb, ?_⟩) S.kind)
  show codeAny _ _ (.expr L.bdy (lamEnvK L s.heap.objs.size f c1)) _ _
  have kp : ∀ b o, s.heap.get? b = some o → h₁.get? b = some o := fun b o e => hsb.extBut b o (Nat.ne_of_lt (Heap.lt_size e)) (Heap.get?_push_of_some _ e)
  have J := lamk_start (f := f) (c1 := c1) (E := Ecel E cc v) (tk := s.toks + ([] : List (Str × Value)).length) S hclo e0 hr.hd hc hns kp
  refine PySem.W.kla_codeExpr (wpAny_mono ((hbody (hr.deeper _)).run [] _ _ _ (fun _ _ => False) J h) (fun v s' hq => ?_) fun e s' hq => ?_)
  · obtain ⟨_, _, _, _, z⟩ := hq
    exact z.elim
  · refine wpAny_mono hq (fun _ s'' c => ?_) fun e' s'' c => ?_
    all_goals (
      obtain ⟨a, B, H', cls, d, rfl, fl, hok, ub, na, os, ag, hE⟩ := c
      have hn : H' cc = none := ub.free cc ocel hocel del_same
      have hB : B.get? cc = some ocel := ub.keep cc ocel hocel del_same hcf
      have hne : a ≠ cc := fun z => by
        have := fl.2.1
        rw [z, hB] at this
        cases this
      have dne : ∀ {b : Addr} {o : HO}, H b = some o → b ≠ cc → del H cc b = some o := fun e n => by rw [del_ne n]; exact e
      refine ⟨a, B, upd H' cc (CelO cc v), cls, d, rfl, fl, hok_cel hok hn ⟨u, ru, ocel, hB, hdcel⟩, ⟨fun b o e n z => ub.keep b o e (del_none n) z, ub.slot, fun b o e n => ?_, ub.there, fun b xs e => ?_, fun b o xs e => ?_, fun b ps e => ?_⟩, by rw [upd_ne hne]; exact na, os, ag, hE hn⟩
      · have hb : b ≠ cc := fun z => by rw [z, hc] at n; cases n
        rw [upd_ne hb]
        exact ub.free b o e (del_none n)
      · have hb : b ≠ cc := fun z => by rw [z, hc] at e; cases e
        rw [upd_ne hb]
        exact ub.tups b xs (dne e hb)
      · have hb : b ≠ cc := fun z => by rw [z, hc] at e; cases e
        rw [upd_ne hb]
        exact ub.frzs b o xs (dne e hb)
      · have hb : b ≠ cc := fun z => by rw [z, hc] at e; cases e
        rw [upd_ne hb]
        exact ub.tbls b ps (dne e hb))
/-- x(), in the def that got a kept lambda -/
theorem pe_actK {P : Program} {w : World} {K : PySem.W.Frag} {mg : Str → Option Value} {base : Heap} {y : Str} {L : LamRec} {f c1 g : Addr} {CXg : CXT} {Eg : XK} {Ng : List Str} {qg : Str} {sg : Scope} {cdg : Value} {A0 : Around} {outer0 : List Env} {s : Shared} {H : Hp} {k i : Nat} {a : Str} {pn : List (Addr × Obj)} {xe : Value → Shared → Prop} {W : WX} {E : XK} {tb : XK → TE} {p1 p2 : Pos}
    (S : LamK L.scp y) (hbd : ∀ (cl : List (Str × Addr)) (m1 m2 m3 : Value), bindArgs (PySem.W.kla_fn "<lambda>" L.q L.prm L.bdy L.scp cl m1 m2 m3) ⟨[], []⟩ = pure [])
    (tk : Takes ((cxOf CXg P w K mg base Ng qg sg g cdg A0 outer0 s H Eg).tr pn xe) W) (hW : ∀ cls d σ' H', E cls d H' → W cls d σ' H') (hr : Room (k + 1) (A0.deeper (envOfC qg sg s.heap.objs.size g cdg)))
    (hbody : ∀ (A : Around) (outer : List Env) (s : Shared) (H : Hp) (E : XK) (f c1 : Addr), Room k (A.deeper (lamEnvK L s.heap.objs.size f c1)) → PE (lamCk P w K mg base y L f c1 A outer s H E) L.bdy (tb E))
    (hN : Ng[i]? = some a) (hv : Vis sg a) (hd : (a == ("__debug__" : Str)) = false := by decide) (hcd : (a == ("__classdict__" : Str)) = false := by decide) :
    PE ((cxOf CXg P w K mg base Ng qg sg g cdg A0 outer0 s H Eg).tr pn xe) (.Call (.Name a p1) [] [] p2)
      (fun σZ HZ Q => σZ[i]? = some (some (.ref f)) ∧ HZ c1 = some (LamX.CodeO c1 L.q) ∧ ∃ (m1 m2 : Value) (cc : Addr) (v : V), HZ f = some (LamO f L c1 m1 m2) ∧ HZ cc = some (CelO cc v) ∧ L.clo = [(y, cc)] ∧ tb (Ecel E cc v) [some v] (del HZ cc) fun _ _ => False) := by
  refine ⟨fun pinsZ sZ σZ HZ Q IZ h => ?_⟩
  obtain ⟨hs, hc1, m1, m2, cc, v, hf, hc, hclo, ht⟩ := h
  refine wpAny_Call_Name_kw (thn ((pe_var (pos := p1) (i := i) hN hv hd hcd).run pinsZ sZ σZ HZ (fun v H1 => v = .ref f ∧ H1 = HZ) IZ ⟨.ref f, hs, rfl, rfl⟩) fun u s1 ⟨v1, H1, I1, r1, q1⟩ => ?_)
  obtain ⟨ev, eH⟩ := q1
  subst ev
  rw [eH] at I1
  obtain rfl : u = Value.ref f := r1
  obtain ⟨of1, _, _⟩ := I1.hok f _ hf
  refine PySem.W.callWith_F0 ⟨_, _, _, _, of1⟩ ?_
  have rc := call_lamk (Q := Q) S hclo I1.env0 hr I1.nolimit hf hc1 hc (hbd _ _ _ _) (fun hr2 => hbody _ _ _ _ _ _ _ hr2) ht
  have hx : Passes (L2.CX P w) ((cxOf CXg P w K mg base Ng qg sg g cdg A0 outer0 s H Eg).tr pn xe) E := passes_call tk hW
  refine wpAny_call (codeAny_mono rc fun r s' hq => ?_)
  cases r with
  | error e => exact hx pinsZ σZ HZ s1 e s' I1 hq
  | ok fl =>
    cases fl with
    | ret u => exact I1.after hq
    | next => exact False.elim hq
    | brk => exact False.elim hq
    | cont => exact False.elim hq
/-- asker(f), f a kept lambda -/
def tKindV (y : Str) (n : Nat) (Lf : Nat → Addr → LamRec) (TT : Gv) (ts : Nat → XK → TE) (ta : TA) : TE := fun σ H Q => ta σ H fun vs H1 => ∃ (f c1 c0 : Addr) (i : Nat), vs = [.ref f] ∧ i < n ∧ H1 c1 = some (LamX.CodeO c1 (Lf i c0).q) ∧
  TT (fun E HZ _ => ∃ (m1 m2 : Value) (cc : Addr) (v : V), HZ f = some (LamO f (Lf i c0) c1 m1 m2) ∧ HZ cc = some (CelO cc v) ∧ (Lf i c0).clo = [(y, cc)] ∧ ts i (Ecel E cc v) [some v] (del HZ cc) fun _ _ => False) H1 Q
theorem pe_kindV {X : Cx} {TT : Gv} {x a y : Str} {g : Addr} {k : Nat} {pg : Arguments} {bg : List Stmt} {sg : Scope} {dV kV doc pm cdv ct oc : Value} {an od : Option Addr} {osl : Array (Option Value)} {Ng : List Str} {e : Expr} {ta : TA} {n : Nat} {Lf : Nat → Addr → LamRec} {ts : Nat → XK → TE} {p1 pos : Pos}
    (hg : Gl X x) (hm : X.mg x = some (.ref g)) (hk : PySem.W.keepIn X.K (.ref g) = true) (lk : X.K.lookup g = some ⟨oc, od, .func (PySem.W.fnOf x x pg bg sg dV kV doc pm an cdv ct), osl⟩) (hcg : PySem.W.codeIn X.K cdv x = true)
    (hb : L2.Binds X.K (PySem.W.fnOf x x pg bg sg dV kV doc pm an cdv ct) [a] []) (Sg : FnScope Ng [a] sg) (hNg : Ng[0]? = some a) (hva : Vis sg a) (hG : ∀ q : Str, LamX.GivesTo X Ng x sg g cdv bg a q TT) (hr : Room (k + 2) X.A)
    (hL : ∀ i, i < n → ∀ c0, LamK (Lf i c0).scp y ∧ (∀ (cl : List (Str × Addr)) (m1 m2 m3 : Value), bindArgs (PySem.W.kla_fn "<lambda>" (Lf i c0).q (Lf i c0).prm (Lf i c0).bdy (Lf i c0).scp cl m1 m2 m3) ⟨[], []⟩ = pure []) ∧
      ∀ (A : Around) (outer : List Env) (s : Shared) (H : Hp) (E : XK) (f c1 : Addr), Room k (A.deeper (lamEnvK (Lf i c0) s.heap.objs.size f c1)) → PE (lamCk X.prog X.w X.K X.mg X.base y (Lf i c0) f c1 A outer s H E) (Lf i c0).bdy (ts i E))
    (ha : PA X [e] ta) (hs : starEach [e] X.env = (false, eval e X.env) :: starEach [] X.env := by rfl)
    (hdb : (x == ("__debug__" : Str)) = false := by decide) (hd : (a == ("__debug__" : Str)) = false := by decide) (hcd : (a == ("__classdict__" : Str)) = false := by decide) :
    PE X (.Call (.Name x p1) [e] [] pos) (tKindV y n Lf TT ts ta) := by
  refine ⟨fun pins s σ H Q I h => wpAny_Call_Name_kw (ld_glob I hg hm (PySem.W.callWith_K (h₀ := X.base) I.ok.mod.kin hk ?_ hs (by rfl)) hdb)⟩
  refine thn (ha.run pos pins s σ H _ I h) fun us s1 ⟨vs, H1, J, r1, f, c1, c0, i, ev, hi, hc1, q⟩ => ⟨J.kIn, ?_⟩
  subst ev
  obtain rfl := Vals.ref1 r1
  obtain ⟨hL1, hL2, hL3⟩ := hL i hi c0
  refine wpAny_call (codeAny_mono (R := CR C8.CX0 X.stack X.prog X.w H1 s1 Q C8.E0) ?_ fun r s2 hq => ?_)
  · exact LamX.run_ofS (CX := C8.CX0) (E := C8.E0) (Q := Q) (H := H1) (N := Ng) (ps := [a]) (us := [.ref f]) (vs := [.ref f]) lk hcg Sg hr J.env0 (hb s1 [.ref f] J.kIn rfl) (.cons rfl .nil) rfl fun hr2 => by
      obtain ⟨t2, h1, h2⟩ := hG (Lf i c0).q f c1 s1 H1 Q _ (fun W pn xe E q1 q2 tk hW => pe_actK (i := 0) hL1 hL2 tk hW hr2 hL3 hNg hva hd hcd) hc1 q
      exact ⟨t2, h1.nox, h2⟩
  match r, hq with
  | .error e, hq => exact (show False from hq).elim
  | .ok (.ret u), hq => exact J.after hq
  | .ok .next, hq => exact False.elim hq
  | .ok .brk, hq => exact False.elim hq
  | .ok .cont, hq => exact False.elim hq
theorem ext_del {M : Mp} {H : Hp} {cc : Addr} {c : Cell} (h : M cc = some c) : Ext M H (delM M cc) (del H cc) := fun a o m e => by
  have ne : a ≠ cc := fun z => by rw [z, h] at m; cases m
  exact ⟨by unfold delM; rw [if_neg ne]; exact m, by rw [del_ne ne]; exact e⟩
theorem Good.delC {K : PySem.W.Frag} {B : Hp} {M : Mp} {H : Hp} {cc : Addr} {c : Cell} (g : Good K B M H) (h : M cc = some c) (hb : B cc = none) : Good K B (delM M cc) (del H cc) where
  base := fun a e => by
    by_cases q : a = cc
    · rw [q]; exact hb
    · rw [del_ne q] at e; exact g.base _ e
  cell := fun a c' e => by
    by_cases q : a = cc
    · unfold delM at e; rw [if_pos q] at e; cases e
    · unfold delM at e
      rw [if_neg q] at e
      exact (g.cell a c' e).mono (ext_del h) (del_ne q)
theorem de_kindV {P : Pr} {M : Mp} {Q : D → Mp → Prop} {ε : DSt} {CS : Addr} {y : Str} {Kd : Addr → Str → Prop} {n : Nat} {Lf : Nat → Addr → LamRec} {ts : Nat → XK → TE} {ta : TA}
    (h : DA P ta ε M fun ds M1 => ∃ (f cc : Addr) (d : D) (i : Nat), ds = [.val (.ref f)] ∧ i < n ∧ M1 f = some (.lam (Lf i cc)) ∧ M1 cc = some (.cel d) ∧ (Lf i cc).clo = [(y, cc)] ∧
      ∀ E', DE ⟨P.K, P.B, E', fun cls fs M' => ∃ C w, cls = .ref C ∧ fs = none ∧ Kd C w ∧ PySem.W.exmOne P.K cls (.ref CS) = some true ∧ Q (.str w) (updM M' cc (.cel d))⟩ (ts i E') [some d] (delM M1 cc) fun _ _ => False) : DE P (tKindV y n Lf (TTk P.K CS Kd) ts ta) ε M Q := fun σ H R a k => by
  refine h σ H _ a fun vs ds M1 H1 t1 g1 e1 h1 => ?_
  obtain ⟨f, cc, d, i, rfl, hi, hf, hc, hclo, hE⟩ := h1
  obtain ⟨vf, rfl, tf⟩ := trs1 t1
  cases tr_val tf
  obtain ⟨c1, m1, m2, l1, l2, l3⟩ := g1.cell f _ hf
  obtain ⟨v, hcc, tv, hB⟩ := g1.cell cc _ hc
  have e2 := ext_del (M := M1) (H := H1) hc
  refine ⟨f, c1, cc, i, rfl, hi, l2, m1, m2, cc, v, l1, hcc, hclo, ?_⟩
  refine hE _ [some v] (del H1 cc) (fun _ _ => False) ⟨⟨rfl, fun i d' hi => ?_⟩, g1.delC hc hB, fun cls fs M' H' g' e' x => ?_⟩ fun _ _ _ _ _ _ _ z => z
  · match i, hi with
    | 0, hi =>
      cases hi
      exact ⟨v, rfl, tv.ext e2⟩
    | i + 1, hi => cases hi
  · obtain ⟨C, wd, x1, rfl, x3, x4, x5⟩ := x
    intro hn
    have g3 := g'.newCell (c := .cel d) (o := CelO cc v) hn ⟨v, upd_same, (tv.ext (e2.trans e')).ext (ext_cell hn), hB⟩
    have e3 : Ext M1 H1 (updM M' cc (.cel d)) (upd H' cc (CelO cc v)) := e2.trans (e'.trans (ext_cell hn))
    exact ⟨C, wd, x1, rfl, x3, x4, fun H'' s => k _ _ _ H'' (.str _) (g3.same s) (e1.trans (e3.trans (same_ext g3 s))) x5⟩
end DL

/-! Division by great numbers; x is True -/
namespace DL
open PySem PySem.Spec PyProof.Rows L2
def CDivX (i j : Int) : Prop := 0 < j ∧ j.natAbs.log2 < 9000
abbrev rFdivX : R2 := rI CDivX fun i j => .int (i.fdiv j)
theorem op_fdivX {X : Cx} : OpR X (binaryOp .FloorDiv) rFdivX := by
  intro pins s σ H x y v u Q I rx ry h
  obtain ⟨i, j, rfl, rfl, c, q⟩ := h
  refine op_fdivW pins s σ H _ _ v u Q I rx ry ⟨i, j, rfl, rfl, c, ?_⟩
  have q' : Q (.int (i.fdiv j)) H := q
  rw [Int.fdiv_eq_ediv_of_nonneg i (Int.le_of_lt c.1)] at q'
  exact q'
theorem d2_fdivX {P : Pr} {M : Mp} {Q : D → Mp → Prop} {i j : Int} (c : CDivX i j) (q : Q (.int (i.fdiv j)) M) : D2 P rFdivX (.int i) (.int j) M Q := d2_I (g' := fun i j => .int (i.fdiv j)) (fun _ _ _ _ => .int _) c q
theorem cdivx {l n : Int} (h0 : 0 < n) (h1 : n < 2 ^ 100) : CDivX l n := by
  refine ⟨h0, ?_⟩
  have e : n.natAbs < 2 ^ 100 := by omega
  have hn : n.natAbs ≠ 0 := by omega
  exact Nat.lt_trans ((Nat.log2_lt hn).mpr e) (by decide)
abbrev rNotBl : R2 := fun x y H Q => ∃ a b, x = .bl a ∧ y = .bl b ∧ Q (.bl (!decide (a = b))) H
theorem op_notBlk {X : Cx} : OpR X (compareOp .IsNot) rNotBl := op_isnot_bl
theorem d2_notBl {P : Pr} {M : Mp} {Q : D → Mp → Prop} {a b : Bool} (q : Q (.bl (!decide (a = b))) M) : D2 P rNotBl (.bl a) (.bl b) M Q := by
  intro vx vy H R rx ry gd k
  cases tr_bl rx
  cases tr_bl ry
  exact ⟨a, b, rfl, rfl, k.here (.bl _) gd q⟩
end DL

/-! Lambdas kept in a list by the very def that made them, with or without one default; called by the asker -/
namespace DL
open PySem PySem.Spec PyProof.Rows L2
theorem lamDO_ok {P : Program} {w : World} {H : Hp} {h : Heap} {a c1 td : Addr} {L : LamRec} {dc m1 m2 : Value} (e : h.get? a = some (PySem.W.kdv_obj "<lambda>" L.q L.prm (.expr L.bdy) L.scp L.clo (.ref td) dc m1 c1 m2)) : ObjOk P w H h a (LamDO a L c1 td dc m1 m2) :=
  ⟨e, ⟨_, e⟩, fun _ _ z k => k _ z⟩
section
variable {X : Cx} {pins : List (Addr × Obj)} {σ : L2.St} {H : Hp} {s : Shared}
theorem lam_tailD {c p td : Addr} {prm : Arguments} {bdy : Expr} {scp : Scope} {pos : Pos} {ps : Array Value} {E : Value → Shared → Prop} {Q : Value → Shared → Prop} (I : Inv X pins σ H s) (B : LamX.TabB X.base X.mg c p) (hcode : X.env.code = .ref c) (hp : H p = some (.tbl ps)) (htr : TriplesOk ps.toList)
    (hcod : ∀ (pos : Pos) (cv : Value), codeAmong pos ps.toList = some cv → ∃ d, cv = .ref d ∧ H d = some (LamX.CodeO d (X.env.qual ++ "<lambda>"))) (hfr : ∀ y ∈ scp.names, y.2 = .free → ∃ d, X.env.cells.lookup y.1 = some d)
    (go : ∀ (f c1 : Addr) (dc m1 m2 : Value) (H1 : Hp) (ps1 : Array Value) (s1 : Shared), Grow H H1 p (X.env.qual ++ "<lambda>") ps ps1 c1 → (H c1 = none ∨ ∃ pos, codeAmong pos ps.toList = some (.ref c1)) → H1 f = none → H1 c1 = some (LamX.CodeO c1 (X.env.qual ++ "<lambda>")) →
      Inv X pins σ (upd H1 f (LamDO f ⟨prm, bdy, scp, cloFrom X.env.cells scp.names [], X.env.qual ++ "<lambda>"⟩ c1 td dc m1 m2)) s1 → Q (.ref f) s1) :
    wpAny (model X.prog X.w) X.A (makeTail "<lambda>" (X.env.qual ++ "<lambda>") prm (.expr bdy) scp X.env (.ref td) .none none pos pos.line) Q E s := by
  have hbi := B.bm.keeps I.bk
  have hpo : s.heap.get? p = some { cls := .none, data := .fields ps } := I.hok p _ hp
  cases hit : codeAmong pos ps.toList with
  | some cv =>
    obtain ⟨d, rfl, hd⟩ := hcod pos cv hit
    refine PySem.W.kdv_makeTailHit (mg := X.mg) (c := c) (P := p) (ps := ps) (closure_ok hfr) I.ok.glob (I.mod.glob.keeps I.bk) hcode (B.code.keeps I.bk) hpo htr hit hbi fun m2 dc h2 tk keep hsz => ?_
    have I1 : Inv X pins σ H { s with heap := h2, toks := tk } := I.kept fun b o e => keep b o e
    refine go h2.objs.size d dc ((X.mg "__name__").getD .none) m2 H ps _ ⟨fun _ _ _ => rfl, .inr ⟨rfl, rfl⟩, hp, htr, fun _ _ e => .inl e⟩ (.inr ⟨_, hit⟩) (I.hok.fresh hsz) hd ?_
    exact I1.laid (t' := tk) (fun b o e => Heap.get?_push_of_some _ e) (Nat.le_refl _) (lamDO_ok (Heap.get?_push_size _ rfl))
  | none =>
    refine PySem.W.kdv_makeTail (mg := X.mg) (c := c) (P := p) (ps := ps) (closure_ok hfr) I.ok.glob (I.mod.glob.keeps I.bk) hcode (B.code.keeps I.bk) hpo htr hit B.gP hbi fun d m2 dc h2 tk keep hge hlt hrec htb => ?_
    obtain ⟨d2, od, vs, t, e2, hod, hd, hv⟩ := hrec
    cases e2
    have hsz : s.heap.objs.size ≤ h2.objs.size := Nat.le_trans hge (Nat.le_of_lt hlt)
    have hn : H d = none := I.hok.fresh hge
    have hdp : p ≠ d := ne_of_none hp hn
    have J := LamX.inv_table (t' := tk) (more := #[rawInt pos.line, rawInt pos.col, .ref d]) (h' := h2) I hp (fun b o hb e => keep b o hb e) htb hge ⟨od, vs, t, hod, hd, hv⟩
    refine go h2.objs.size d dc ((X.mg "__name__").getD .none) m2 _ _ _ ⟨fun b h1 h3 => by rw [upd_ne h3, upd_ne h1], .inl hn, by rw [upd_ne hdp, upd_same], ?_, fun p2 cv hc => ?_⟩ (.inl hn) (J.hok.fresh (Nat.le_refl _)) upd_same (J.laid (t' := tk) (fun b o e => Heap.get?_push_of_some _ e) (Nat.le_refl _) (lamDO_ok (Heap.get?_push_size _ rfl)))
    · have := PySem.TriplesOk_snoc pos.line pos.col (.ref d) ps.toList htr
      simpa using this
    · have hc' : codeAmong p2 (ps.toList ++ [rawInt pos.line, rawInt pos.col, .ref d]) = some cv := by simpa using hc
      rcases LamX.among_app ps.toList htr hc' with z | z
      · exact .inl z
      · exact .inr ⟨z, upd_same, hn⟩
/-- a lambda with one default 0 made; it is known from now on -/
theorem lam_keptD {c p : Addr} {prm : Arguments} {bdy : Expr} {scp : Scope} {pos dp : Pos} {j : Tok} {ps : Array Value} {E : Value → Shared → Prop} {Q : Value → Shared → Prop} (I : Inv X pins σ H s) (B : LamX.TabB X.base X.mg c p) (hcode : X.env.code = .ref c) (hp : H p = some (.tbl ps)) (htr : TriplesOk ps.toList)
    (hcod : ∀ (pos : Pos) (cv : Value), codeAmong pos ps.toList = some cv → ∃ d, cv = .ref d ∧ H d = some (LamX.CodeO d (X.env.qual ++ "<lambda>"))) (hdf : prm.defaults = [.Constant (.int 0) j dp]) (hk0 : prm.kw_defaults = []) (hfr : ∀ y ∈ scp.names, y.2 = .free → ∃ d, X.env.cells.lookup y.1 = some d)
    (go : ∀ (f c1 td : Addr) (dc m1 m2 : Value) (H1 : Hp) (ps1 : Array Value) (s1 : Shared), H td = none → Grow (upd H td (.tup [.int 0])) H1 p (X.env.qual ++ "<lambda>") ps ps1 c1 → (upd H td (.tup [.int 0]) c1 = none ∨ ∃ pos, codeAmong pos ps.toList = some (.ref c1)) → H1 f = none → H1 c1 = some (LamX.CodeO c1 (X.env.qual ++ "<lambda>")) →
      Inv X pins σ (upd H1 f (LamDO f ⟨prm, bdy, scp, cloFrom X.env.cells scp.names [], X.env.qual ++ "<lambda>"⟩ c1 td dc m1 m2)) s1 → Q (.ref f) s1) :
    wpAny (model X.prog X.w) X.A (eval (.Lambda prm bdy scp pos) X.env) Q E s := by
  refine PySem.W.kdv_lam (by rw [hdf]; rfl) hk0 ?_
  rw [hdf]
  have pi : PE X (.Constant (.int 0) j dp) (tC (V.int 0)) := pe_int
  refine PySem.W.kdv_all1 (thn (pi.run pins s σ H (fun v H1 => v = .int 0 ∧ H1 = H) I ⟨rfl, rfl⟩) fun u s1 ⟨v, H1, I1, r1, q1⟩ => PySem.W.kdv_all0 ?_)
  obtain ⟨ev, eH⟩ := q1
  subst ev
  rw [eH] at I1
  rw [makeFunction_eq]
  simp only [List.zip_nil_right, List.filterMap_nil, List.isEmpty_nil, if_true, pure_bind, List.isEmpty_cons, Bool.false_eq_true, if_false]
  refine wpAny_bind (wpAny_newTextTuple ?_)
  have hn : H s1.heap.objs.size = none := I1.hok.fresh (Nat.le_refl _)
  have J := I1.laid (t' := s1.toks) (o := .tup [.int 0]) (fun b o e => Heap.get?_push_of_some _ e) (Nat.le_refl _) ⟨by decide, [u], .cons r1 .nil, IsTup.new s1.heap _⟩
  refine lam_tailD J B hcode (by rw [upd_ne (ne_of_none hp hn)]; exact hp) htr (fun pos cv hc => ?_) hfr fun f c1 dc m1 m2 H1 ps1 s2 w1 w2 w3 w4 w5 => go f c1 _ dc m1 m2 H1 ps1 s2 hn w1 w2 w3 w4 w5
  obtain ⟨d, e1, e2⟩ := hcod pos cv hc
  exact ⟨d, e1, by rw [upd_ne (ne_of_none e2 hn)]; exact e2⟩
end
def tLamD (p : Addr) (L : LamRec) : TE := fun _ H Q => ∃ ps : Array Value, H p = some (.tbl ps) ∧ TriplesOk ps.toList ∧ (∀ (pos : Pos) (cv : Value), codeAmong pos ps.toList = some cv → ∃ d, cv = .ref d ∧ H d = some (LamX.CodeO d L.q)) ∧
  ∀ (f c1 td : Addr) (dc m1 m2 : Value) (H1 : Hp) (ps1 : Array Value), H td = none → Grow (upd H td (.tup [.int 0])) H1 p L.q ps ps1 c1 → (upd H td (.tup [.int 0]) c1 = none ∨ ∃ pos, codeAmong pos ps.toList = some (.ref c1)) → H1 f = none → H1 c1 = some (LamX.CodeO c1 L.q) → Q (.ref f) (upd H1 f (LamDO f L c1 td dc m1 m2))
theorem pe_lamD' {X : Cx} {c p : Addr} {prm : Arguments} {bdy : Expr} {scp : Scope} {pos dp : Pos} {j : Tok} (B : LamX.TabB X.base X.mg c p) (hcode : X.env.code = .ref c) (hfr : X.Ok → ∀ y ∈ scp.names, y.2 = .free → ∃ d, X.env.cells.lookup y.1 = some d) (hdf : prm.defaults = [.Constant (.int 0) j dp]) (hk0 : prm.kw_defaults = []) :
    PE X (.Lambda prm bdy scp pos) (tLamD p ⟨prm, bdy, scp, cloFrom X.env.cells scp.names [], X.env.qual ++ "<lambda>"⟩) := by
  refine ⟨fun pins s σ H Q I ⟨ps, hp, htr, hcod, h⟩ => ?_⟩
  refine lam_keptD I B hcode hp htr hcod hdf hk0 (hfr I.ok) fun f c1 td dc m1 m2 H1 ps1 s1 hn grow hw hf hc1 J => ?_
  exact ⟨.ref f, _, J, rfl, h f c1 td dc m1 m2 H1 ps1 hn grow hw hf hc1⟩
theorem de_lamD {P : Pr} {M : Mp} {Q : D → Mp → Prop} {ε : DSt} {p : Addr} {L : LamRec} (hM : M p = some (.tab L.q)) (q : ∀ f, M f = none → P.B f = none → Q (.val (.ref f)) (updM M f (.lamd L))) : DE P (tLamD p L) ε M Q := fun σ H R a k => by
  obtain ⟨ps, h1, h2, h3⟩ := a.good.cell p _ hM
  refine ⟨ps, h1, h2, fun pos cv hc => ?_, fun f c1 td dc m1 m2 H1 ps1 hn w hw hf hc1 => ?_⟩
  · obtain ⟨d, e1, e2, _⟩ := h3 pos cv hc
    exact ⟨d, e1, e2⟩
  · have g0 := a.good.new (o := .tup [.int 0]) hn
    have e0 : Ext M H M (upd H td (.tup [.int 0])) := ext_new hn
    have hptd : p ≠ td := ne_of_none h1 hn
    have h3' : ∀ (pos : Pos) (cv : Value), codeAmong pos ps.toList = some cv → ∃ d, cv = .ref d ∧ upd H td (.tup [.int 0]) d = some (LamX.CodeO d L.q) ∧ M d = none := fun pos cv hc => by
      obtain ⟨d, e1, e2, e3⟩ := h3 pos cv hc
      exact ⟨d, e1, by rw [upd_ne (ne_of_none e2 hn)]; exact e2, e3⟩
    obtain ⟨g, e⟩ := good_grow g0 hM (by rw [upd_ne hptd]; exact h1) h3' w
    have hMf := g.free hf
    have hc1M : M c1 = none := by
      rcases hw with z | ⟨pos, z⟩
      · exact g0.free z
      · obtain ⟨d, e1, _, e3⟩ := h3' pos _ z
        cases e1
        exact e3
    have hne : c1 ≠ f := ne_of_none hc1 hf
    have htd : H1 td = some (.tup [.int 0]) := by
      rcases w.new with z | ⟨z, _⟩
      · have : td ≠ c1 := fun y => by rw [← y, upd_same] at z; cases z
        rw [w.els td hptd.symm this, upd_same]
      · rw [z, upd_same]
    have htdM : M td = none := a.good.free hn
    have htf : td ≠ f := ne_of_none htd hf
    refine k _ _ _ _ (.val _) (g.newCell (c := .lamd L) hf ⟨c1, td, dc, m1, m2, upd_same, by rw [upd_ne hne]; exact hc1, by rw [updM_ne hne]; exact hc1M, by rw [upd_ne htf]; exact htd, by rw [updM_ne htf]; exact htdM⟩) ((e0.trans e).trans (ext_cell hf)) (q f hMf (g.base _ hf))
/-! ### called -/
structure LamG (N : List Str) (sc scope : Scope) (bs : List Str) : Prop where
  kind : scope.kind = .function
  co : scope.isCoroutine = false
  gen : scope.isGenerator = false
  own : ∀ y ∈ scope.names, y.2 ≠ .cell ∧ (y.2 = .local → y.1 ∈ bs)
  out : ∀ y ∈ bs, y ∉ N
  loc : ∀ y ∈ bs, scope.names.lookup y = some .local
  free : ∀ y ∈ scope.names, y.2 = .free → sc.names.lookup y.1 = some .cell ∨ sc.names.lookup y.1 = some .free
def lamGB (N : List Str) (sc scope : Scope) (bs : List Str) : Bool :=
  decide (scope.kind = .function) && !scope.isCoroutine && !scope.isGenerator && (scope.names.all fun y => !decide (y.2 = .cell) && (!decide (y.2 = .local) || decide (y.1 ∈ bs)) && (!decide (y.2 = .free) || decide (sc.names.lookup y.1 = some .cell) || decide (sc.names.lookup y.1 = some .free))) && bs.all fun y => decide (y ∉ N) && decide (scope.names.lookup y = some .local)
theorem lamG_by {N : List Str} {sc scope : Scope} {bs : List Str} (h : lamGB N sc scope bs = true) : LamG N sc scope bs := by
  unfold lamGB at h
  simp only [Bool.and_eq_true, Bool.or_eq_true, Bool.not_eq_true', decide_eq_true_eq, decide_eq_false_iff_not, List.all_eq_true] at h
  obtain ⟨⟨⟨⟨h1, h2⟩, h3⟩, h4⟩, h5⟩ := h
  refine ⟨h1, h2, h3, fun y hy => ⟨(h4 y hy).1.1, fun e => ?_⟩, fun y hy => (h5 y hy).1, fun y hy => (h5 y hy).2, fun y hy e => ?_⟩
  · rcases (h4 y hy).1.2 with z | z
    · exact absurd e z
    · exact z
  · rcases (h4 y hy).2 with (z | z) | z
    · exact absurd e z
    · exact .inl z
    · exact .inr z
theorem LamG.has {X : Cx} {scope : Scope} {bs : List Str} (L : LamG X.N X.env.scope scope bs) (ok : X.Ok) : ∀ y ∈ scope.names, y.2 = .free → ∃ c, X.env.cells.lookup y.1 = some c := fun y hy e => by
  rcases L.free y hy e with k | k
  · exact ok.has _ (.inl k)
  · exact ok.has _ (.inr k)
theorem pe_lamD {X : Cx} {c p : Addr} {prm : Arguments} {bdy : Expr} {scp : Scope} {pos dp : Pos} {j : Tok} {bs : List Str} (B : LamX.TabB X.base X.mg c p) (hcode : X.env.code = .ref c) (L : LamG X.N X.env.scope scp bs) (hdf : prm.defaults = [.Constant (.int 0) j dp]) (hk0 : prm.kw_defaults = []) :
    PE X (.Lambda prm bdy scp pos) (tLamD p ⟨prm, bdy, scp, cloFrom X.env.cells scp.names [], X.env.qual ++ "<lambda>"⟩) := pe_lamD' B hcode (fun ok => L.has ok) hdf hk0
section
variable {X : Cx} {pins : List (Addr × Obj)} {σ : L2.St} {H HZ : Hp} {s s1 : Shared}
theorem lam_startG {A : Around} {outer : List Env} {E : XK} {scope : Scope} {f c' : Addr} {h₁ : Heap} {tk : Nat} {bs : List Str} {binds : List (Str × Value)} (I : Inv X pins σ H s) (L : LamG X.N X.env.scope scope bs) (e0 : Env0 X.prog X.w X.K X.mg X.base A outer s1 HZ) (hd : A.handled = none)
    (un : Un (frs X.stack) [] H HZ s.heap s1.heap) (hns : h₁.Ns s1.heap.objs.size fun y => binds.reverse.lookup y) (kp : ∀ b o, s1.heap.get? b = some o → h₁.get? b = some o) :
    Inv (LamX.lamCx X A outer s1 HZ E scope f c') [] σ HZ { s1 with heap := h₁, toks := tk } := by
  have hfree := L.has I.ok
  have cm : ∀ {y c}, (cloFrom X.env.cells scope.names []).lookup y = some c → X.env.cells.lookup y = some c := fun {y c} e => by
    rcases cloFrom_mem (PySem.mem_of_lookup e) with hm | ⟨h1, h2⟩
    · cases hm
    · obtain ⟨c1, hc⟩ := hfree _ h1 rfl
      have hc : X.env.cells.lookup y = some c1 := hc
      have e2 : c = c1 := by
        rw [h2, hc] <;> rfl
      rw [e2]
      exact hc
  have look : ∀ {y}, scope.names.lookup y = some .free → ∃ c, (cloFrom X.env.cells scope.names []).lookup y = some c := fun {y} hl => by
    have hy : (y, NameKind.free) ∈ scope.names := PySem.mem_of_lookup hl
    exact mem_lookup (cloFrom_has (cells := X.env.cells) (acc := []) hy)
  have cellK : ∀ {c : Addr} {v : Option Value}, H c = none → s.heap.IsCell c v → h₁.IsCell c v := fun {c v} n ⟨o, ho, hd⟩ => by
    obtain ⟨sl, q⟩ := un.any ho n (by simp)
    exact ⟨_, kp _ _ q, hd⟩
  have noA : ∀ b : Addr, b ∉ (LamX.lamCx X A outer s1 HZ E scope f c').ex := fun b z => absurd (show b ∈ ([] : List Addr) from z) (by simp)
  refine ⟨⟨e0.mod, L.kind, rfl, rfl, Nat.le_refl _, fun y z c e1 e2 => I.ok.inj y z c (cm e1) (cm e2), fun y hy => ?_, fun y c z _ => ?_, fun _ => hd, Around.frames_deeper e0.frames, .inr ⟨rfl, rfl⟩, fun b z => absurd z (noA b), e0.bs, e0.bsz, fun b _ _ => noA b,
      fun b z => absurd z (noA b), e0.funs, e0.frf⟩,
    rfl, e0.bare, Un.kept kp, ⟨_, hns, fun i y v e1 e2 e3 => ?_⟩, fun y c e => ?_, e0.hok.fresh (Nat.le_refl _), fun y c e => ?_, fun q hq => absurd (show q ∈ ([] : List (Addr × Obj)) ++ [] from hq) (by simp), e0.hok.kept kp, I.len⟩
  · have hy : scope.names.lookup y = some .cell ∨ scope.names.lookup y = some .free := hy
    rcases hy with hy | hy
    · exact absurd rfl (L.own _ (PySem.mem_of_lookup hy)).1
    · exact look hy
  · have z : false = true := z
    cases z
  · have e3 : Vis scope y := e3
    have e1' : X.N[i]? = some y := e1
    rcases e3 with k | k | k
    · exact absurd (List.mem_of_getElem? e1') (L.out _ ((L.own _ (PySem.mem_of_lookup k)).2 rfl))
    · exact absurd rfl (L.own _ (PySem.mem_of_lookup k)).1
    · obtain ⟨m, hn, hl⟩ := I.loc
      have hvis : Vis X.env.scope y := (L.free _ (PySem.mem_of_lookup k) rfl).elim (fun k => .inr (.inl k)) (fun k => .inr (.inr k))
      obtain ⟨w', r, q⟩ := hl i y v e1 e2 hvis
      obtain ⟨c2, h2⟩ := look k
      refine ⟨w', r, .inr ⟨.inr k, c2, h2, ?_⟩⟩
      have c1 := cm h2
      rcases q with ⟨k', _⟩ | ⟨_, c3, e', z⟩
      · have k' : X.env.scope.names.lookup y = some .local := k'
        rcases L.free _ (PySem.mem_of_lookup k) rfl with k2 | k2 <;> rw [show X.env.scope.names.lookup y = _ from k2] at k' <;> cases k'
      · rw [c1] at e'
        cases e'
        exact cellK (I.freeC y _ c1) z
  · obtain ⟨w', z⟩ := I.cell y c (cm e)
    exact ⟨w', cellK (I.freeC y c (cm e)) z⟩
  · obtain ⟨v, o, ho, hd⟩ := I.cell y c (cm e)
    exact un.free c o ho (I.freeC y c (cm e)) (by simp)
end
/-- the function at f: without a default, or with one, which is 0 -/
def LamAt (H : Hp) (f c1 : Addr) (L : LamRec) (bs : List Str) : Prop := (bs = [] ∧ ∃ m1 m2, H f = some (LamO f L c1 m1 m2)) ∨ ∃ (y : Str) (td : Addr) (dc m1 m2 : Value), bs = [y] ∧ H f = some (LamDO f L c1 td dc m1 m2) ∧ H td = some (.tup [.int 0])
/-- how its arguments are bound, nothing being handed in -/
def BindG (prm : Arguments) (bdy : Expr) (scp : Scope) : List Str → Prop
  | [] => ∀ (q : Str) (cl : List (Str × Addr)) (m1 m2 m3 : Value), bindArgs (PySem.W.kla_fn "<lambda>" q prm bdy scp cl m1 m2 m3) ⟨[], []⟩ = pure []
  | [y] => ∀ (q : Str) (cl : List (Str × Addr)) (dV dc m1 m2 m3 : Value), ∃ k, bindArgs (PySem.W.kdv_fn "<lambda>" q prm (.expr bdy) scp cl dV dc m1 m2 m3) ⟨[], []⟩ = seqItems? dV >>= k ∧ ∀ v, k (some #[v]) = pure [(y, v)]
  | _ => False
theorem bindG_run {prm : Arguments} {bdy : Expr} {scp : Scope} {bs : List Str} (hb : BindG prm bdy scp bs) {P : Program} {w : World} {A : Around} {H : Hp} {s : Shared} {f c1 : Addr} {q : Str} {cl : List (Str × Addr)} (hok : HOk P w H s.heap) (h : LamAt H f c1 ⟨prm, bdy, scp, cl, q⟩ bs) :
    ∃ (fd : FuncData) (binds : List (Str × Value)), s.heap.get? f = some { cls := .type "function", data := .func fd } ∧ fd.scope = scp ∧ fd.body = .expr bdy ∧ fd.code = .ref c1 ∧ fd.qualname = q ∧ fd.globals = mainGlobals ∧ fd.closure = cl ∧ fd.builtins = builtinsNs ∧ binds.map (·.1) = bs ∧ BindsTo s fd ⟨[], []⟩ binds := by
  rcases h with ⟨rfl, m1, m2, hf⟩ | ⟨y, td, dc, m1, m2, rfl, hf, ht⟩
  · obtain ⟨of1, _, _⟩ := hok f _ hf
    exact ⟨_, [], of1, rfl, rfl, rfl, rfl, rfl, rfl, rfl, rfl, .of_eq (hb _ _ _ _ _)⟩
  · obtain ⟨of1, _, _⟩ := hok f _ hf
    obtain ⟨_, its, hv, o, ho, _, n, hd⟩ := hok td _ ht
    obtain ⟨v, rfl⟩ : ∃ v, its = [v] := by
      cases hv with
      | cons r r2 => cases r2; exact ⟨_, rfl⟩
    obtain ⟨k, e1, e2⟩ := hb q cl (.ref td) dc m1 (.ref c1) m2
    exact ⟨_, [(y, v)], of1, rfl, rfl, rfl, rfl, rfl, rfl, rfl, rfl, .of_defaults rfl ho hd e1 (e2 v)⟩
section
variable {X : Cx} {pins : List (Addr × Obj)} {σ : L2.St} {H HZ : Hp} {s s1 : Shared}
theorem pe_actG {CXg : CXT} {Eg : XK} {Ng : List Str} {qg : Str} {sg : Scope} {g f c' : Addr} {cdg : Value} {prm : Arguments} {bdy : Expr} {scp : Scope} {bs : List Str} {k i : Nat} {a : Str} {pn : List (Addr × Obj)} {xe : Value → Shared → Prop} {W : WX} {E : XK} {tb : TE} {p1 p2 : Pos}
    (I : Inv X pins σ H s) (L : LamG X.N X.env.scope scp bs) (hb : BindG prm bdy scp bs)
    (tk : Takes ((cxOf CXg X.prog X.w X.K X.mg X.base Ng qg sg g cdg X.A X.stack s H Eg).tr pn xe) W) (hW : ∀ cls d σ' H', E cls d H' → W cls d σ' H') (hr : Room (k + 1) (X.A.deeper (envOfC qg sg s.heap.objs.size g cdg)))
    (hbody : ∀ (A : Around) (outer : List Env) (s : Shared) (H : Hp), Room k (A.deeper (LamX.lamEnv X scp s.heap.objs.size f c')) → PE (LamX.lamCx X A outer s H E scp f c') bdy tb)
    (hN : Ng[i]? = some a) (hv : Vis sg a) (hd : (a == ("__debug__" : Str)) = false := by decide) (hcd : (a == ("__classdict__" : Str)) = false := by decide) :
    PE ((cxOf CXg X.prog X.w X.K X.mg X.base Ng qg sg g cdg X.A X.stack s H Eg).tr pn xe) (.Call (.Name a p1) [] [] p2)
      (fun σZ HZ Q => σZ[i]? = some (some (.ref f)) ∧ HZ c' = some (LamX.CodeO c' (X.env.qual ++ "<lambda>")) ∧ LamAt HZ f c' ⟨prm, bdy, scp, cloFrom X.env.cells scp.names [], X.env.qual ++ "<lambda>"⟩ bs ∧ tb σ HZ Q) := by
  refine ⟨fun pinsZ sZ σZ HZ Q IZ h => ?_⟩
  obtain ⟨hs, hc, hla, ht⟩ := h
  refine wpAny_Call_Name_kw (thn ((pe_var (pos := p1) (i := i) hN hv hd hcd).run pinsZ sZ σZ HZ (fun v H1 => v = .ref f ∧ H1 = HZ) IZ ⟨.ref f, hs, rfl, rfl⟩) fun u s1 ⟨v, H1, I1, r1, q1⟩ => ?_)
  obtain ⟨ev, eH⟩ := q1
  subst ev
  rw [eH] at I1
  obtain rfl : u = Value.ref f := r1
  obtain ⟨fd, binds, ho, hsc, hbd, hcode, hqn, hgl, hcl, hbl, hbn, hbt⟩ := bindG_run (P := X.prog) (w := X.w) (A := X.A) hb I1.hok hla
  refine PySem.W.callWith_F0 ⟨_, _, _, _, ho⟩ ?_
  have un : Un (frs X.stack) [] H HZ s.heap s1.heap := I1.base
  obtain ⟨⟨oc, vs, t, hoc, hdc, hvc⟩, _, _⟩ := I1.hok c' _ hc
  have rc : codeAny (model X.prog X.w) (X.A.deeper (envOfC qg sg s.heap.objs.size g cdg)) (.call (.ref f) ⟨[], []⟩) (CR (L2.CX X.prog X.w) (envOfC qg sg s.heap.objs.size g cdg :: X.stack) X.prog X.w HZ s1 Q E) s1 := by
    refine PySem.W.kla_callFunE hr.depth ho rfl (by rw [hsc]; exact L.co) (by rw [hsc]; exact L.gen) hbd ⟨c', oc, vs, t, hcode, hoc, hdc, by rw [hqn]; exact hvc⟩ ?_
    refine hbt _ _ _ _ ?_
    rw [hsc, hgl, hcl, hqn, hcode, hbl]
    have hin : ∀ y ∈ binds, y.1 ∈ bs := fun y hy => by rw [← hbn]; exact List.mem_map_of_mem hy
    refine wpAny_newFunctionEnv (fun y hy => (L.own y hy).1) (fun y hy => L.loc _ (hin y hy)) (fun h₁ hns hsb => ⟨I1.nolimit.fresh _ hsb, ?_⟩) L.kind
    show codeAny _ _ (.expr bdy (LamX.lamEnv X scp s1.heap.objs.size f c')) _ _
    have kp : ∀ b o, s1.heap.get? b = some o → h₁.get? b = some o := fun b o e => hsb.extBut b o (Nat.ne_of_lt (Heap.lt_size e)) (Heap.get?_push_of_some _ e)
    have J : Inv (LamX.lamCx X (X.A.deeper (envOfC qg sg s.heap.objs.size g cdg)) (envOfC qg sg s.heap.objs.size g cdg :: X.stack) s1 HZ E scp f c') [] σ HZ { s1 with heap := h₁, toks := s1.toks + binds.length } :=
      lam_startG I L I1.env0 hr.hd un hns kp
    refine PySem.W.kla_codeExpr (wpAny_mono ((hbody _ _ s1 HZ (hr.deeper _)).run [] _ _ HZ Q J ht) (fun v s' hq => ?_) fun e s' hq => hq)
    obtain ⟨w', H', J', rv, q⟩ := hq
    exact ⟨w', H', J'.os, J'.bare, J'.base, J'.hok, rv, q⟩
  have hx : Passes (L2.CX X.prog X.w) ((cxOf CXg X.prog X.w X.K X.mg X.base Ng qg sg g cdg X.A X.stack s H Eg).tr pn xe) E := passes_call tk hW
  refine wpAny_call (codeAny_mono rc fun r s' hq => ?_)
  cases r with
  | error e => exact hx pinsZ σZ HZ s1 e s' I1 hq
  | ok fl =>
    cases fl with
    | ret u => exact I1.after hq
    | next => exact False.elim hq
    | brk => exact False.elim hq
    | cont => exact False.elim hq
end
/-- a lambda's text -/
structure LamT where
  prm : Arguments
  bdy : Expr
  scp : Scope
def LamT.at (t : LamT) (env : Env) : LamRec := ⟨t.prm, t.bdy, t.scp, cloFrom env.cells t.scp.names [], env.qual ++ "<lambda>"⟩
/-- asker(f), f one of the lambdas that this def has made -/
def tKindS (n : Nat) (Lf : Nat → LamRec) (bs : Nat → List Str) (TT : Gv) (ts : Nat → XK → TE) (ta : TA) : TE := fun σ H Q => ta σ H fun vs H1 => ∃ (f c1 : Addr) (i : Nat), vs = [.ref f] ∧ i < n ∧ H1 c1 = some (LamX.CodeO c1 (Lf i).q) ∧
  TT (fun E HZ Q' => LamAt HZ f c1 (Lf i) (bs i) ∧ ts i E σ HZ Q') H1 Q
theorem pe_kindS {X : Cx} {TT : Gv} {x a : Str} {g : Addr} {k : Nat} {pg : Arguments} {bg : List Stmt} {sg : Scope} {dV kV doc pm cdv ct oc : Value} {an od : Option Addr} {osl : Array (Option Value)} {Ng : List Str} {e : Expr} {ta : TA} {n : Nat} {Lt : Nat → LamT} {bs : Nat → List Str} {ts : Nat → XK → TE} {p1 pos : Pos}
    (hg : Gl X x) (hm : X.mg x = some (.ref g)) (hk : PySem.W.keepIn X.K (.ref g) = true) (lk : X.K.lookup g = some ⟨oc, od, .func (PySem.W.fnOf x x pg bg sg dV kV doc pm an cdv ct), osl⟩) (hcg : PySem.W.codeIn X.K cdv x = true)
    (hb : L2.Binds X.K (PySem.W.fnOf x x pg bg sg dV kV doc pm an cdv ct) [a] []) (Sg : FnScope Ng [a] sg) (hNg : Ng[0]? = some a) (hva : Vis sg a) (hG : LamX.GivesTo X Ng x sg g cdv bg a (X.env.qual ++ "<lambda>") TT) (hr : Room (k + 2) X.A)
    (hL : ∀ i, i < n → LamG X.N X.env.scope (Lt i).scp (bs i) ∧ BindG (Lt i).prm (Lt i).bdy (Lt i).scp (bs i) ∧
      ∀ (A : Around) (outer : List Env) (s : Shared) (H : Hp) (E : XK) (f c1 : Addr), Room k (A.deeper (LamX.lamEnv X (Lt i).scp s.heap.objs.size f c1)) → PE (LamX.lamCx X A outer s H E (Lt i).scp f c1) (Lt i).bdy (ts i E))
    (ha : PA X [e] ta) (hs : starEach [e] X.env = (false, eval e X.env) :: starEach [] X.env := by rfl)
    (hdb : (x == ("__debug__" : Str)) = false := by decide) (hd : (a == ("__debug__" : Str)) = false := by decide) (hcd : (a == ("__classdict__" : Str)) = false := by decide) :
    PE X (.Call (.Name x p1) [e] [] pos) (tKindS n (fun i => (Lt i).at X.env) bs TT ts ta) := by
  refine ⟨fun pins s σ H Q I h => wpAny_Call_Name_kw (ld_glob I hg hm (PySem.W.callWith_K (h₀ := X.base) I.ok.mod.kin hk ?_ hs (by rfl)) hdb)⟩
  refine thn (ha.run pos pins s σ H _ I h) fun us s1 ⟨vs, H1, J, r1, f, c1, i, ev, hi, hc1, q⟩ => ⟨J.kIn, ?_⟩
  subst ev
  obtain rfl := Vals.ref1 r1
  obtain ⟨hL1, hL2, hL3⟩ := hL i hi
  refine wpAny_call (codeAny_mono (R := CR C8.CX0 X.stack X.prog X.w H1 s1 Q C8.E0) ?_ fun r s2 hq => ?_)
  · exact LamX.run_ofS (CX := C8.CX0) (E := C8.E0) (Q := Q) (H := H1) (N := Ng) (ps := [a]) (us := [.ref f]) (vs := [.ref f]) lk hcg Sg hr J.env0 (hb s1 [.ref f] J.kIn rfl) (.cons rfl .nil) rfl fun hr2 => by
      obtain ⟨t2, h1, h2⟩ := hG f c1 s1 H1 Q _ (fun W pn xe E q1 q2 tk hW => pe_actG (i := 0) J hL1 hL2 tk hW hr2 (fun A outer s H hr3 => hL3 A outer s H E f c1 hr3) hNg hva hd hcd) hc1 q
      exact ⟨t2, h1.nox, h2⟩
  match r, hq with
  | .error e, hq => exact (show False from hq).elim
  | .ok (.ret u), hq => exact J.after hq
  | .ok .next, hq => exact False.elim hq
  | .ok .brk, hq => exact False.elim hq
  | .ok .cont, hq => exact False.elim hq
theorem de_kindS {P : Pr} {M : Mp} {Q : D → Mp → Prop} {ε : DSt} {CS : Addr} {Kd : Addr → Str → Prop} {Kf : Addr → Str → Str → Prop} {n : Nat} {Lf : Nat → LamRec} {bs : Nat → List Str} {ts : Nat → XK → TE} {ta : TA}
    (h : DA P ta ε M fun ds M1 => ∃ (f : Addr) (i : Nat), ds = [.val (.ref f)] ∧ i < n ∧ ((bs i = [] ∧ M1 f = some (.lam (Lf i))) ∨ ∃ y, bs i = [y] ∧ M1 f = some (.lamd (Lf i))) ∧
      ∀ E', DE ⟨P.K, P.B, E', fun cls fs M' => ∃ C, cls = .ref C ∧ PySem.W.exmOne P.K cls (.ref CS) = some true ∧ ((fs = none ∧ ∃ w, Kd C w ∧ Q (.str w) M') ∨ ∃ w fl n, fs = some [(fl, .int n)] ∧ Kf C w fl ∧ Q (.tup [.str w, .int n]) M')⟩ (ts i E') ε M1 Q) : DE P (tKindS n Lf bs (TTf P.K CS Kd Kf) ts ta) ε M Q := fun σ H R a k => by
  refine h σ H _ a fun vs ds M1 H1 t1 g1 e1 h1 => ?_
  obtain ⟨f, i, rfl, hi, hf, hE⟩ := h1
  obtain ⟨vf, rfl, tf⟩ := trs1 t1
  cases tr_val tf
  have key : ∃ c1, H1 c1 = some (LamX.CodeO c1 (Lf i).q) ∧ LamAt H1 f c1 (Lf i) (bs i) := by
    rcases hf with ⟨hb, hf⟩ | ⟨y, hb, hf⟩
    · obtain ⟨c1, m1, m2, l1, l2, l3⟩ := g1.cell f _ hf
      exact ⟨c1, l2, .inl ⟨hb, m1, m2, l1⟩⟩
    · obtain ⟨c1, td, dc, m1, m2, l1, l2, l3, l4, l5⟩ := g1.cell f _ hf
      exact ⟨c1, l2, .inr ⟨y, td, dc, m1, m2, hb, l1, l4⟩⟩
  obtain ⟨c1, l2, hla⟩ := key
  refine ⟨f, c1, i, rfl, hi, l2, hla, ?_⟩
  refine hE _ σ H1 R ⟨a.env.ext e1, g1, fun cls fs M' H' g' e' ⟨C, h4, h5, h6⟩ => ?_⟩ (k.ext e1)
  rcases h6 with ⟨rfl, wd, hk, hq⟩ | ⟨wd, fl, n, rfl, hk, hq⟩
  · exact ⟨C, h4, h5, .inl ⟨rfl, wd, hk, fun H'' s => k _ _ M' H'' (.str _) (g'.same s) (e1.trans (e'.trans (same_ext g' s))) hq⟩⟩
  · exact fun d _ _ hx => ⟨C, h4, h5, .inr ⟨d, wd, fl, n, rfl, hk, hx, fun H'' v s t => k _ _ M' H'' (back_tr g' s t rfl) (g'.same s) (e1.trans (e'.trans (same_ext g' s))) hq⟩⟩
end DL

/-! {"x": a, "y": b, "z": c} with computed numbers -/
namespace DL
open PySem L2
theorem de_disp3 {P : Pr} {M : Mp} {Q : D → Mp → Prop} {ε : DSt} {k1 k2 k3 : Str} {t1 t2 t3 : TE} (hm : ∀ i1 i2 i3 : Int, mergeK [] [((.inr k1 : Key), V.int i1), (.inr k2, .int i2), (.inr k3, .int i3)] = [(.inr k1, .int i1), (.inr k2, .int i2), (.inr k3, .int i3)])
    (h : ∀ p, M p = none → P.B p = none → DE P t1 ε (updM M p (.dic [])) fun d1 M1 => ∃ i1, d1 = .int i1 ∧ M1 = updM M p (.dic []) ∧ DE P t2 ε (updM M p (.dic [])) fun d2 M2 => ∃ i2, d2 = .int i2 ∧ M2 = updM M p (.dic []) ∧ DE P t3 ε (updM M p (.dic [])) fun d3 M3 => ∃ i3, d3 = .int i3 ∧ M3 = updM M p (.dic []) ∧
      Q (.val (.ref p)) (updM M p (.dic [(.inr k1, .int i1), (.inr k2, .int i2), (.inr k3, .int i3)]))) : DE P (tDisp [(tC (.str k1), t1), (tC (.str k2), t2), (tC (.str k3), t3)]) ε M Q := fun σ H R a k p hp => by
  have g0 := a.good.newCell (c := .dic []) hp ⟨[], upd_same, rfl, .nil⟩
  have e0 : Ext M H (updM M p (.dic [])) (upd H p (.dK [])) := ext_cell hp
  refine h p (a.good.free hp) (a.good.base _ hp) σ _ _ (a.ext g0 e0) fun v1 d1 M1 H1 r1 g1 e1 h1 => ?_
  obtain ⟨i1, rfl, rfl, h1⟩ := h1
  refine h1 σ _ _ ((a.ext g0 e0).ext g1 e1) fun v2 d2 M2 H2 r2 g2 e2 h2 => ?_
  obtain ⟨i2, rfl, rfl, h2⟩ := h2
  refine h2 σ _ _ (((a.ext g0 e0).ext g1 e1).ext g2 e2) fun v3 d3 M3 H3 r3 g3 e3 h3 => ?_
  obtain ⟨i3, rfl, rfl, q⟩ := h3
  cases tr_int r1
  cases tr_int r2
  cases tr_int r3
  obtain ⟨ws, hH, hk, ht⟩ := g3.cell p (.dic []) updM_same
  obtain rfl : ws = [] := List.map_eq_nil_iff.mp hk
  refine ⟨hH, [(.inr k1, .int i1), (.inr k2, .int i2), (.inr k3, .int i3)], rfl, Nat.le_of_ble_eq_true rfl, ?_⟩
  rw [hm]
  have hu : ∀ c, updM (updM M p (.dic [])) p c = updM M p c := fun c => updM_updM
  have g4 := g3.set (p := p) (o := .dK [(.inr k1, .int i1), (.inr k2, .int i2), (.inr k3, .int i3)]) (c' := .dic [(.inr k1, .int i1), (.inr k2, .int i2), (.inr k3, .int i3)]) updM_same ⟨_, upd_same, rfl, .cons (.int _) (.cons (.int _) (.cons (.int _) .nil))⟩
  have e4 : Ext (updM M p (.dic [])) H3 (updM (updM M p (.dic [])) p (.dic [(.inr k1, .int i1), (.inr k2, .int i2), (.inr k3, .int i3)])) (upd H3 p (.dK [(.inr k1, .int i1), (.inr k2, .int i2), (.inr k3, .int i3)])) := ext_set updM_same
  rw [hu] at g4 e4
  exact k _ _ _ _ (.val _) g4 (e0.trans (e1.trans (e2.trans (e3.trans e4)))) q
end DL

/-! An exception that leaves a comprehension -/
namespace DL
open PySem PySem.Spec PyProof.Rows L2
theorem funFrames_but {base h h' : Heap} {C : Addr} (sb : Heap.SameBut C h h') : ∀ {l : List Env}, h.FunFrames base l → (∀ L ∈ frs l, L ≠ C) → h'.FunFrames base l
  | [], _, _ => trivial
  | env :: l, ⟨hk, ⟨L, o, hf, hb, ho, hd⟩, hr⟩, hn => ⟨hk, ⟨L, o, hf, hb, (sb.2 L (hn L (List.mem_filterMap.mpr ⟨env, List.mem_cons_self, hf⟩))).trans ho, hd⟩, funFrames_but sb hr fun b hb => by
      obtain ⟨e, he, q⟩ := List.mem_filterMap.mp hb
      exact hn b (List.mem_filterMap.mpr ⟨e, List.mem_cons_of_mem _ he, q⟩)⟩
theorem funFrames_sub {B B' h : Heap} (k : ∀ b, B.get? b = none → B'.get? b = none) : ∀ {l : List Env}, h.FunFrames B l → h.FunFrames B' l
  | [], _ => trivial
  | env :: l, ⟨hk, ⟨L, o, hf, hb, ho, hd⟩, hr⟩ => ⟨hk, ⟨L, o, hf, k L hb, ho, hd⟩, funFrames_sub k hr⟩
/-- an exception that left a comprehension whose locals are at C: the ground is without them -/
def XEC (X : Cx) (E : XK) (C : Addr) (fly : Heap → Addr → Heap → (Obj → Prop) → Prop) (u : Value) (s' : Shared) : Prop :=
  ∃ (a : Addr) (B : Heap) (sI : Shared) (pins : List (Addr × Obj)) (σ : L2.St) (H : Hp) (cls : Value) (d : Option Addr),
    u = .ref a ∧ Inv X pins σ H sI ∧ (∀ b o, sI.heap.get? b = some o → b ∉ frs X.stack → B.get? b = some o) ∧ sI.heap.UpToSlots s'.heap ∧
      fly B a s'.heap (Zc cls d) ∧ H a = none ∧ s'.os = sI.os ∧ AllBare s'.gens ∧ E cls d H ∧ B.get? C = none ∧ sI.heap.get? C = none ∧ C ∉ frs X.stack ∧ ∃ m, s'.heap.Ns C m
abbrev flyA (X : Cx) : Heap → Addr → Heap → (Obj → Prop) → Prop := fun B a h Z => HandSPX.FlyingZ B X.stack a Z h
abbrev flyH (X : Cx) : Heap → Addr → Heap → (Obj → Prop) → Prop := fun B a h Z => HandSPX.HeldZ B X.stack a Z X.env.locals h
theorem ns_slots {h h' : Heap} {C : Addr} {m : Str → Option Value} (hn : h.Ns C m) (up : h.UpToSlots h') : h'.Ns C m := by
  obtain ⟨o, es, ep, ho, hd, hs, hm⟩ := hn
  obtain ⟨sl, q⟩ := up C o ho fun vs z => by rw [hd] at z; cases z
  exact ⟨_, es, ep, q, hd, hs, hm⟩
theorem note_eq {env cenv : Env} (h : cenv.frame = env.frame) (u : Value) : noteFrame u cenv = noteFrame u env := by
  have e : PySem.frameOf cenv = PySem.frameOf env := by
    unfold PySem.frameOf
    rw [h]
  unfold noteFrame
  rw [e, h]
section
variable {X : Cx} {E : XK} {C : Addr} {u : Value} {s' : Shared}
theorem XEC.note (hs : X.stack = X.env :: X.outer) (hf : X.env.frame = some X.env.locals) {cenv : Env} (hc : cenv.frame = X.env.frame) {E₁ : Value → Shared → Prop} {Q : Unit → Shared → Prop} (x : XEC X E C (flyA X) u s') (h : ∀ s2, XEC X E C (flyH X) u s2 → Q () s2) :
    wpAny (model X.prog X.w) X.A (noteFrame u cenv) Q E₁ s' := by
  obtain ⟨a, B, sI, pins, σ, H, cls, d, rfl, I, nb, up, fl, na, os, ag, w, bC, iC, fC, m, hm⟩ := x
  have hfr : X.A.frames = some (X.env :: X.outer) := by rw [I.ok.frames, hs]
  rw [note_eq hc]
  have fl' : HandSPX.FlyingZ B (X.env :: X.outer) a (Zc cls d) s'.heap := by rw [← hs]; exact fl
  refine HandSPX.looks_onZ Zc.steady hfr hf fl' fun h' hh up' => h _ ⟨a, B, sI, pins, σ, H, cls, d, rfl, I, nb, up.trans up', ?_, na, os, ag, w, bC, iC, fC, m, ns_slots hm up'⟩
  show HandSPX.HeldZ B X.stack a (Zc cls d) X.env.locals h'
  rw [hs]
  exact hh
theorem XEC.pass (hf : X.env.frame = some X.env.locals) (tk : Takes X (fun cls d _ H => E cls d H)) (x : XEC X E C (flyH X) u s') {cenv : Env} (hc : cenv.frame = X.env.frame) {h' : Heap} (sb : Heap.SameBut C s'.heap h') {what : String} :
    wpAny (model X.prog X.w) X.A (PySem.passOn what u cenv : Sem Value) (fun _ _ => False) X.xe { s' with heap := h' } := by
  obtain ⟨a, B, sI, pins, σ, H, cls, d, rfl, I, nb, up, fl, na, os, ag, w, bC, iC, fC, m, hm⟩ := x
  obtain ⟨oC, es, ep, hoC, hdC, _⟩ := hm
  obtain ⟨k1, k2, k3, oe, vs, T, oT, ts, he, hz, hd, h1, hnT, hTe, hT, hdT, h3⟩ := fl
  have aC : a ≠ C := fun z => by rw [z, hoC] at he; cases he; rw [hdC] at hd; cases hd
  have TC : T ≠ C := fun z => by rw [z, hoC] at hT; cases hT; rw [hdC] at hdT; cases hdT
  have fl2 : HandSPX.HeldZ B X.stack a (Zc cls d) X.env.locals h' :=
    ⟨fun b o e => (sb.2 b fun z => by rw [z, bC] at e; cases e).trans (k1 b o e), k2, funFrames_but sb k3 fun L hL z => fC (z ▸ hL), oe, vs, T, oT, ts, (sb.2 a aC).trans he, hz, hd, h1, hnT, hTe, (sb.2 T TC).trans hT, hdT, h3⟩
  have up2 : sI.heap.UpToSlots h' := fun b o e hn => by
    obtain ⟨sl, q⟩ := up b o e hn
    exact ⟨sl, (sb.2 b fun z => by rw [z, iC] at e; cases e).trans q⟩
  unfold PySem.passOn
  refine wpAny_bind (wpAny_field ((sb.2 a aC).trans he) hd h1 ?_)
  rw [if_neg (show ¬ ((Value.ref T == Value.none) = true) from by simp)]
  rw [hc, hf]
  refine wpAny_bind (HandSPX.setFlight_onZ fl2 fun h2 hh up' => wpAny_throw ?_)
  exact tk _ _ ⟨a, B, sI, pins, σ, H, cls, d, rfl, I, nb, up2.trans up', .inr (.inr hh), na, os, ag, w⟩
end
/-- what is wished of an exception in a comprehension's block that starts at s -/
def blkWish (X : Cx) (E : XK) (s : Shared) (H : Hp) (C : Addr) (fp : List Addr) : Value → Shared → Prop := fun u s' => ∀ pins σ, Inv X pins σ H s → (∀ b ∈ fp, FpOk X pins H b ∧ b < s.heap.objs.size) → C = s.heap.objs.size → XEC X E C (flyA X) u s'
abbrev blkX (X : Cx) (E : XK) (s : Shared) (H : Hp) (scope : Scope) (cenv : Env) (fp : List Addr) : Cx := { X.blk s H scope cenv fp with xe := blkWish X E s H cenv.locals fp }
theorem psB {X : Cx} {E : XK} {s : Shared} {H : Hp} {scope : Scope} {cenv : Env} {fp : List Addr} : Passes (L2.CX X.prog X.w) (blkX X E s H scope cenv fp) E := by
  intro pins1 σ1 H1 s1 e s' I c pins σ I3 hfp hC
  obtain ⟨a, B, H', cls, d, rfl, fl, hok, ub, na, os, ag, hE⟩ := c
  have hCn : H1 cenv.locals = none := I.free
  have base : Un (frs X.stack) fp H H1 s.heap s1.heap := I.base
  have below : ∀ b o, s.heap.get? b = some o → b ≠ cenv.locals := fun b o e z => by
    have := Heap.lt_size e
    rw [z, hC] at this
    exact Nat.lt_irrefl _ this
  have hCf : cenv.locals ∉ frs X.stack := fun z => by
    rcases List.mem_cons.mp (I3.stkSub _ z) with y | y
    · have := I3.lt
      rw [← y, hC] at this
      exact Nat.lt_irrefl _ this
    · exact I3.nofs (Nat.le_of_eq hC.symm) y
  obtain ⟨m, hm, _⟩ := I.loc
  obtain ⟨oC, es, ep, hoC, hr⟩ := hm
  have hoC : s1.heap.get? cenv.locals = some oC := hoC
  have bC0 : B.get? cenv.locals = some oC := ub.keep _ _ hoC hCn hCf
  have hC' : H' cenv.locals = none := ub.free _ _ hoC hCn
  obtain ⟨B', b1, b2⟩ := restrict B fun b => !decide (b = cenv.locals)
  have bIn : ∀ b o, B.get? b = some o → b ≠ cenv.locals → B'.get? b = some o := fun b o e n => by rw [b1 b (by simp [n])]; exact e
  have bC : B'.get? cenv.locals = none := b2 _ (by simp)
  have sub : ∀ b o, B'.get? b = some o → B.get? b = some o := fun b o e => by
    by_cases z : b = cenv.locals
    · rw [z, bC] at e; cases e
    · rw [b1 b (by simp [z])] at e; exact e
  have subn : ∀ b, B.get? b = none → B'.get? b = none := fun b e => by
    cases q : B'.get? b with
    | none => rfl
    | some o => rw [sub b o q] at e; cases e
  obtain ⟨G, g1, g2⟩ := restrict s'.heap fun b => (B'.get? b).isSome || decide (b ∈ frs X.stack)
  have st : B.StaysIn s'.heap := fl.1
  have gB : ∀ b o, B'.get? b = some o → G.get? b = some o := fun b o e => by
    rw [g1 b (by simp [e])]
    exact st b o (sub b o e)
  have gF : ∀ b, b ∈ frs X.stack → G.get? b = s'.heap.get? b := fun b hb => g1 b (by simp [hb])
  have og : ∀ b o, G.get? b = some o → s'.heap.get? b = some o ∧ ((B'.get? b).isSome = true ∨ b ∈ frs X.stack) := fun b o e => by
    cases q : ((B'.get? b).isSome || decide (b ∈ frs X.stack)) with
    | false => rw [g2 b q] at e; cases e
    | true =>
      rw [g1 b q] at e
      exact ⟨e, by simpa [Bool.or_eq_true] using q⟩
  have iC : G.get? cenv.locals = none := g2 _ (by simp [bC, hCf])
  have hokG : HOk X.prog X.w H' G := fun b o q => (hok b o q).stay (fun c u hc r => gB c u (bIn c u r fun z => by
    rcases hc with y | y
    · rw [y] at z; rw [z, hC'] at q; cases q
    · rw [z, hC'] at y; cases y)) (fun _ r => r) fun _ _ r => r
  have inv : Inv X pins σ H' { s with heap := G, gens := s'.gens, drawn := s'.drawn, toks := s'.toks } := by
    refine I3.call (ch := fp) ⟨fun b o e n hb hc => ?_, fun b o e n hb hc => ?_, fun b o e n hc => ?_, fun b o e hc => ?_, fun b xs e => ub.tups b xs (base.tups b xs e), fun b o u e => ub.frzs b o u (base.frzs b o u e), fun b ps e => ?_⟩ hokG ag
      fun b hb => ⟨(hfp b hb).1.2.2.2.1, (hfp b hb).1.2.1, (hfp b hb).1.2.2.2.2.1, (hfp b hb).1.2.2.2.2.2⟩
    · exact gB b o (bIn b o (ub.keep b o (base.keep b o e n hb hc) (base.free b o e n hc) hb) (below b o e))
    · obtain ⟨sl, q⟩ := base.slot b o e n hb hc
      obtain ⟨sl2, q2⟩ := ub.slot b _ q hb
      exact ⟨sl2, by rw [gF b hb]; exact q2⟩
    · obtain ⟨sl, q⟩ := base.any e n hc
      exact ub.free b _ q (base.free b o e n hc)
    · obtain ⟨o1, e1⟩ := base.there b o e hc
      by_cases hb : b ∈ frs X.stack
      · obtain ⟨sl2, q2⟩ := ub.slot b _ e1 hb
        exact ⟨_, by rw [gF b hb]; exact q2⟩
      · obtain ⟨o2, q⟩ := ub.there b o1 e1 hb
        exact ⟨o2, gB b o2 (bIn b o2 q (below b o e))⟩
    · obtain ⟨m1, q1⟩ := base.tbls b ps e
      obtain ⟨m2, q2⟩ := ub.tbls b _ q1
      exact ⟨m1 ++ m2, by rw [← Array.append_assoc]; exact q2⟩
  have os1 : s1.os = s.os := I.os
  obtain ⟨f1, f2, f3, oe, vs, T, oT, ts, he, hz, hd, h1, hnT, r⟩ := fl
  refine ⟨a, B', _, pins, σ, H', cls, d, rfl, inv, fun b o e hb => ?_, Heap.UpToSlots.of_keeps fun b o e => (og b o e).1, ⟨fun b o e => f1 b o (sub b o e), subn _ f2, funFrames_sub subn f3, oe, vs, T, oT, ts, he, hz, hd, h1, subn _ hnT, r⟩, na, os.trans os1, ag, hE, bC, iC, hCf, m, oC, es, ep, st _ _ bC0, hr⟩
  obtain ⟨e', h⟩ := og b o e
  rcases h with h | h
  · obtain ⟨o', q⟩ := Option.isSome_iff_exists.mp h
    have z := st b o' (sub b o' q)
    rw [e'] at z; cases z
    exact q
  · exact absurd h hb
/-- behind a comprehension, the frame of its block known -/
def compPostX (M : Model) (A : Around) (E : Value → Shared → Prop) (use : Option (Value → Sem Unit)) (Q : Value → Shared → Prop) (acc : Value) (C : Addr) (fr : Option Addr) (r : Result) (s' : Shared) : Prop :=
  match r, use with
  | .ok _, none => ∃ m, s'.heap.Ns C m ∧ ∀ h', Heap.SameBut C s'.heap h' → Q acc { s' with heap := h' }
  | .ok _, some u => wpAny M A (u acc) (fun _ s'' => ∃ m, s''.heap.Ns C m ∧ ∀ h', Heap.SameBut C s''.heap h' → Q .none { s'' with heap := h' }) E s'
  | .error x, _ => ∃ m, s'.heap.Ns C m ∧ ∀ h', Heap.SameBut C s'.heap h' → ∀ cenv : Env, cenv.locals = C → cenv.frame = fr → wpAny M A (PySem.passOn "comprehension.variables-let-go" x cenv : Sem Value) (fun _ _ => False) E { s' with heap := h' }
theorem comp_freeX {M : Model} {A : Around} {E : Value → Shared → Prop} {s : Shared} {env : Env} {e : Expr} {scope : Scope} {pos : Pos} {newAcc first : Sem Value} {g : Comprehension} {gs : List Comprehension} {cl : List (Str × Addr)} {use : Option (Value → Sem Unit)}
    {Q : Value → Shared → Prop}
    (hcl : clausesOf e = g :: gs) (hs : ∀ x, foldedSetIterable g.iter env x = pure x) (hclos : closureFor scope env = pure cl)
    (hkind : scope.kind = .function) (hnames : ∀ x ∈ scope.names, x.2 = .local → scope.names.lookup x.1 = some .local)
    (h : wpAny M A first (fun x s₁ => wpAny M A (pyIter x) (fun it s₂ => wpAny M A newAcc (fun acc s₃ =>
      wpAny M A (newFunctionEnv scope env.globals cl [] env.qual none .none (some env)) (fun cenv s₄ =>
        codeAny M A (.compStart e 0 it acc { cenv with scope := relabel scope env }) (compPostX M A E use Q acc cenv.locals cenv.frame) s₄) E s₃) E s₂) E s₁) E s) :
    wpAny M A (comprehension e scope env pos newAcc false first use) Q E s := by
  unfold comprehension
  rw [hclos, hcl]
  refine wpAny_bind (wpAny_mono h (fun x s₁ h₁ => wpAny_bind (wpAny_standAt (wpAny_bind (wpAny_of_eq (hs x) (wpAny_bind (wpAny_holding (wpAny_mono h₁ (fun it s₂ h₂ =>
    wpAny_standIf (wpAny_bind (wpAny_mono h₂ (fun acc s₃ h₃ => wpAny_bind (wpAny_pure (wpAny_bind (wpAny_mono h₃ (fun cenv s₄ h₄ => ?_) fun _ _ h' => h')))) fun _ _ h' => h')))
      fun _ _ h' => h'))))))) fun _ _ h' => h')
  dsimp only
  have hv : ∀ x ∈ (scope.names.filter fun x => (x.2 == .local || x.2 == .cell) && x.1 != (".0" : Str)).reverse, x.2 = .local →
      Env.kindOf { cenv with scope := relabel scope env } x.1 = some .local := fun x hx hl => lookup_relabel_local (hnames x (List.mem_filter.mp (List.mem_reverse.mp hx)).1 hl)
  have hv' : ∀ x ∈ (scope.names.filter fun x => (x.2 == .local || x.2 == .cell) && x.1 != (".0" : Str)).reverse.drop 1 ++ (scope.names.filter fun x => (x.2 == .local || x.2 == .cell) && x.1 != (".0" : Str)).reverse.take 1,
      x.2 = .local → Env.kindOf { cenv with scope := relabel scope env } x.1 = some .local := fun x hx hl => by
    rcases List.mem_append.mp hx with h1 | h1
    · exact hv x (List.mem_of_mem_drop h1) hl
    · exact hv x (List.mem_of_mem_take h1) hl
  refine wpAny_holding (wpAny_bind (wpAny_attempt (wpAny_holding (wpAny_run (codeAny_mono h₄ fun r s' hr => ?_)))))
  cases r with
  | ok f =>
    cases use with
    | none =>
      obtain ⟨m, hn, hr⟩ := hr
      exact wpAny_bind (wpAny_holding (wpAny_comp_letGo (cenv := { cenv with scope := relabel scope env }) hkind _ s' m hv hn fun h' m' _ hs' => wpAny_pure (hr h' hs')))
    | some u =>
      refine wpAny_bind (wpAny_rule (wpAny_bind (wpAny_holding (wpAny_mono hr (fun _ s'' hr' => ?_) fun _ _ h' => h'))))
      obtain ⟨m, hn, hr'⟩ := hr'
      exact wpAny_bind (wpAny_comp_letGo (cenv := { cenv with scope := relabel scope env }) hkind _ s'' m hv' hn fun h' m' _ hs' => wpAny_pure (hr' h' hs'))
  | error x =>
    have hr' : ∃ m, s'.heap.Ns cenv.locals m ∧ ∀ h', Heap.SameBut cenv.locals s'.heap h' → ∀ cenv' : Env, cenv'.locals = cenv.locals → cenv'.frame = cenv.frame → wpAny M A (PySem.passOn "comprehension.variables-let-go" x cenv' : Sem Value) (fun _ _ => False) E { s' with heap := h' } := by cases use <;> exact hr
    obtain ⟨m, hn, hr⟩ := hr'
    exact wpAny_bind (wpAny_holding (wpAny_comp_letGo (cenv := { cenv with scope := relabel scope env }) hkind _ s' m hv hn fun h' m' _ hs' => wpAny_mono (hr h' hs' _ rfl rfl) (fun _ _ f => f.elim) fun _ _ y => y))
theorem lc_coreX {X : Cx} {E : XK} {pins : List (Addr × Obj)} {s : Shared} {σ : L2.St} {H : Hp} {Q : VK} {elt tg iter : Expr} {ifs : List Expr} {scope : Scope} {own : List (Str × Nat)} {pos pos' : Pos} {wi : TI} {g : TG} {tt : TT} {te : TE} {use : Option (Value → Sem Unit)} {Qf : Value → Shared → Prop}
    (tk : Takes X (fun cls d _ H => E cls d H)) (hs0 : X.stack = X.env :: X.outer) (hf0 : X.env.frame = some X.env.locals) (hc : X.calm = true) (hN : X.N.Nodup) (I : Inv X pins σ H s) (hi : PI X tg iter wi) (ok : BlkOk X.N X.env.scope scope own)
    (hg : ∀ (s : Shared) (H : Hp) (C : Addr) (cl : List (Str × Addr)) (fp : List Addr), PG (blkX X E s H scope (compEnvC scope cl C X.env) fp) tg g) (ht : ∀ (s : Shared) (H : Hp) (C : Addr) (cl : List (Str × Addr)) (fp : List Addr), PTs (blkX X E s H scope (compEnvC scope cl C X.env) fp) ifs tt)
    (he : ∀ (s : Shared) (H : Hp) (C : Addr) (cl : List (Str × Addr)) (fp : List Addr), PE (blkX X E s H scope (compEnvC scope cl C X.env) fp) elt te) (hs : ∀ x, foldedSetIterable iter X.env x = pure x)
    (h : tLc wi g tt te (own.map (·.2)) σ H Q)
    (hRR : ∀ D C s' m H', Inv X pins σ H' s' → Q (.ref D) H' → s'.heap.Ns C m → FpOk X pins H' C → compPostX (model X.prog X.w) X.A X.xe use Qf (.ref D) C X.env.frame (.ok .next) s') :
    wpAny (model X.prog X.w) X.A (comprehension (.ListComp elt [⟨tg, iter, ifs, 0⟩] scope pos) scope X.env pos' (newList []) false (eval iter X.env) use) Qf X.xe s := by
  have hfree : ∀ y ∈ scope.names, y.2 = .free → ∃ c, X.env.cells.lookup y.1 = some c := fun y hy e => by
    rcases ok.free y hy e with k | k
    · exact I.ok.has _ (.inl k)
    · exact I.ok.has _ (.inr k)
  refine comp_freeX (use := use) rfl hs (closure_ok hfree) ok.kind (fun y hy e => by rw [ok.uniq y hy, e])
    (thn (hi.run pins s σ H _ I h) fun xv s1 hx => thn hx fun itv s2 h2 => ?_)
  obtain ⟨it, fp, tn, J, H2, e, I2, T, st2, f2, q⟩ := h2
  subst e
  refine wpAny_newObj_type (newEnv_comp ?_) (by show 0 ≤ sizeLine; decide)
  generalize hD : s2.heap.objs.size = D
  have hDn : H2 D = none := I2.hok.fresh (Nat.le_of_eq hD)
  obtain ⟨W, ⟨m0, w0⟩, turn⟩ := q D hDn
  -- the new list
  generalize hs3 : ({ s2 with heap := s2.heap.push { cls := .type "list", data := .seq ([] : List Value).toArray } } : Shared) = s3
  have I3 : Inv X pins σ (upd H2 D (.lst [])) s3 := by
    rw [← hs3]
    refine I2.laid (t' := s2.toks) (fun b o e => Heap.get?_push_of_some _ e) (Nat.le_of_eq hD) ⟨Nat.zero_le _, [], 0, .nil, ?_⟩
    rw [← hD]
    exact Heap.get?_push_size _ rfl
  have h3 : s3.heap = s2.heap.push { cls := .type "list", data := .seq ([] : List Value).toArray } := by rw [← hs3]
  have sz : ∀ b ∈ fp, b < s2.heap.objs.size := fun b hb => by
    obtain ⟨o, e, _⟩ := T.obj _ _ st2 b hb
    exact Heap.lt_size e
  have f3 : ∀ b ∈ fp, FpOk X pins (upd H2 D (.lst [])) b ∧ b < s3.heap.objs.size := fun b hb => by
    have hlt := sz b hb
    refine ⟨⟨?_, (f2 b hb).2⟩, by rw [h3, Heap.size_push]; exact Nat.lt_succ_of_lt hlt⟩
    rw [upd_ne (by rw [← hD]; exact Nat.ne_of_lt hlt)]
    exact (f2 b hb).1
  have st3 : tn 0 s3.heap := T.keep _ _ _ st2 fun b _ o e => by rw [h3]; exact Heap.get?_push_of_some _ e
  have I4' := block_start I3 ok hN f3
  have pg := hg s3 (upd H2 D (.lst [])) s3.heap.objs.size (cellsFrom (s3.heap.objs.size + 1) scope.names (cloFrom X.env.cells scope.names [])) fp
  have pt := ht s3 (upd H2 D (.lst [])) s3.heap.objs.size (cellsFrom (s3.heap.objs.size + 1) scope.names (cloFrom X.env.cells scope.names [])) fp
  have pe := he s3 (upd H2 D (.lst [])) s3.heap.objs.size (cellsFrom (s3.heap.objs.size + 1) scope.names (cloFrom X.env.cells scope.names [])) fp
  show codeAny _ _ (.compStart (.ListComp elt [⟨tg, iter, ifs, 0⟩] scope pos) 0 (.ref it) (.ref D) (compEnvC scope (cellsFrom (s3.heap.objs.size + 1) scope.names (cloFrom X.env.cells scope.names [])) s3.heap.objs.size X.env)) (compPostX (model X.prog X.w) X.A X.xe use Qf (.ref D) s3.heap.objs.size X.env.frame) { s3 with heap := pushCells (s3.heap.push { cls := .type "dict", data := .dict #[] }) scope.names }
  have nfp : ∀ b ∈ fp, (upd H2 D (.lst [])) b = none := fun b hb => (f3 b hb).1.1
  generalize hce : compEnvC scope (cellsFrom (s3.heap.objs.size + 1) scope.names (cloFrom X.env.cells scope.names [])) s3.heap.objs.size X.env = ce at I4' pg pt pe ⊢
  have cL : ce.locals = s3.heap.objs.size := by subst hce; rfl
  have cF : ce.frame = X.env.frame := by subst hce; rfl
  generalize hH3 : upd H2 D (.lst []) = H3 at I3 I4' pg pt pe w0 nfp f3
  generalize hs4 : ({ s3 with heap := pushCells (s3.heap.push { cls := .type "dict", data := .dict #[] }) scope.names } : Shared) = s4 at I4' ⊢
  have I4 : Inv (blkX X E s3 H3 scope ce fp) [] (wipe σ (own.map (·.2))) H3 s4 := I4'.wish _
  have st4 : tn 0 s4.heap := T.keep _ _ _ st3 fun b _ o e => by rw [← hs4]; exact pushCells_keeps _ _ _ _ (Heap.get?_push_of_some _ e)
  have stat : ∀ {σ' : L2.St} {H' : Hp} {s' : Shared}, Inv (blkX X E s3 H3 scope ce fp) [] σ' H' s' → (∀ b ∈ fp, H' b = none) → ∀ b ∈ fp, FpOk (blkX X E s3 H3 scope ce fp) [] H' b := fun {σ' H' s'} I' hn b hb =>
    ⟨hn b hb, (I'.ok.exf b hb).1, I'.ok.exfs b hb, .inl hb, fun x c e => (I'.ok.exf b hb).2 x c e, fun p hp => absurd (show p ∈ ([] : List (Addr × Obj)) ++ [] from hp) (by simp)⟩
  have conv : ∀ (e : Value) (s' : Shared), blkWish X E s3 H3 ce.locals fp e s' → notedBy (model X.prog X.w) X.A ce (fun e s' => compPostX (model X.prog X.w) X.A X.xe use Qf (.ref D) s3.heap.objs.size X.env.frame (.error e) s') e s' := fun e s' bw => by
    have x := bw pins σ I3 f3 cL
    rw [cL] at x
    refine XEC.note hs0 hf0 cF x fun s2 y => ?_
    have hm : ∃ m, s2.heap.Ns s3.heap.objs.size m := by
      obtain ⟨_, _, _, _, _, _, _, _, _, _, _, _, _, _, _, _, _, _, _, _, hm⟩ := y
      exact hm
    obtain ⟨m, hm⟩ := hm
    show compPostX _ _ _ _ _ _ _ _ (.error e) s2
    cases use <;> exact ⟨m, hm, fun h' sb cenv' _ hfr => XEC.pass hf0 tk y hfr sb⟩
  have loop : codeAny (model X.prog X.w) X.A (.compLoop (.ListComp elt [⟨tg, iter, ifs, 0⟩] scope pos) 0 (.ref it) (.ref D) ce) (compPostX (model X.prog X.w) X.A X.xe use Qf (.ref D) s3.heap.objs.size X.env.frame) s4 := by
    refine compLoop_any (fun n s' => ∃ i H', Inv (blkX X E s3 H3 scope ce fp) [] (wipe σ (own.map (·.2))) H' s' ∧ tn i s'.heap ∧ (∀ b ∈ fp, H' b = none) ∧ W i n H') ?_ m0 ⟨0, H3, I4, st4, nfp, w0⟩
    rintro n s5 ⟨i, H5, I5, st5, n5, w5⟩
    rcases turn i n H5 w5 with ⟨stop, qq⟩ | ⟨go, Nx, hNx, step⟩
    · have td := T.done (blkX X E s3 H3 scope ce fp) rfl rfl rfl hc i [] s5 _ H5 (fun _ _ => False) I5 (stat I5 n5) st5 stop
      refine thnF td fun r s6 ⟨hr, I6⟩ => ?_
      subst hr
      -- back in the def's context
      have I7 : Inv X pins σ H5 s6 := I3.call' (ch := fp) I6.os I6.base I6.hok I6.bare fun b hb => ⟨(f3 b hb).1.2.2.2.1, (f3 b hb).1.2.1, (f3 b hb).1.2.2.2.2.1, (f3 b hb).1.2.2.2.2.2⟩
      have nC : H5 s3.heap.objs.size = none := by
        have z : H5 ce.locals = none := I6.free
        rw [cL] at z
        exact z
      obtain ⟨m, hn, _⟩ := I6.loc
      have hn : s6.heap.Ns ce.locals m := hn
      rw [cL] at hn
      exact hRR D s3.heap.objs.size s6 m H5 I7 qq hn (I3.fpOk (Nat.le_refl _) nC)
    · have ti := T.item (blkX X E s3 H3 scope ce fp) rfl rfl rfl hc i [] s5 _ H5 (fun _ _ => False) I5 (stat I5 n5) st5 go
      refine thnF ti fun r s6 ⟨u, hr, h6⟩ => ?_
      subst hr
      refine thnF h6 fun _ s7 ⟨x, H7, I7, r7, y7, st7, n7⟩ => ?_
      have I7' := I7.pinned (stat I7 n7) (T.obj _ _ st7)
      refine wpAny_mono (pg.run _ s7 _ H7 x u _ I7' r7 (step x H7 y7)) (fun _ s8 hx8 => ?_) conv
      obtain ⟨σ8, H8, I8, hw8, q8⟩ := hx8
      refine wpAny_mono (pt.run _ s8 σ8 H8 _ I8 q8) (fun b s9 hx9 => ?_) conv
      obtain ⟨H9, I9, q9⟩ := hx9
      -- the turn's end
      have fin : ∀ {s' : Shared} {H' : Hp}, Inv (blkX X E s3 H3 scope ce fp) ([] ++ pinsAt fp s7.heap) σ8 H' s' → Nx H' → ∃ m, m < n ∧ ∃ i H', Inv (blkX X E s3 H3 scope ce fp) [] (wipe σ (own.map (·.2))) H' s' ∧ tn i s'.heap ∧ (∀ b ∈ fp, H' b = none) ∧ W i m H' := fun {s' H'} I' nx => by
        obtain ⟨m', hm, w'⟩ := hNx H' nx
        have pin' : ∀ b ∈ fp, ∀ o, s7.heap.get? b = some o → s'.heap.get? b = some o ∧ H' b = none := fun b hb o e =>
          let z := I'.pin (b, o) (List.mem_append_right _ (List.mem_append_right _ (mem_pinsAt hb e)))
          ⟨z.1, z.2.1⟩
        have hl : (wipe σ (own.map (·.2))).length = σ8.length := by rw [← hw8, wipe_length]
        refine ⟨m', hm, i + 1, H', (I'.unpinned (pins := [])).weak hl (fun j v e => ?_), T.keep _ _ _ st7 fun b hb o e => (pin' b hb o e).1, fun b hb => ?_, w'⟩
        · rw [← hw8] at e
          exact (wipe_some e).1
        · obtain ⟨o, e, _⟩ := T.obj _ _ st7 b hb
          exact (pin' b hb o e).2
      cases b with
      | false =>
        simp only [Bool.false_eq_true, if_false] at q9 ⊢
        exact fin I9 q9
      | true =>
        simp only [if_true] at q9 ⊢
        refine wpAny_mono (pe.run _ s9 σ8 H9 _ I9 q9) (fun z s10 hx10 => ?_) conv
        obtain ⟨yv, H10, I10, r10, acc, hD10, hz10, nx⟩ := hx10
        exact app_ok (X := blkX X E s3 H3 scope ce fp) I10 hD10 hz10 r10 fun s11 I11 => fin I11 nx
  exact codeAny_compStart_list loop (T.self X.A 0 _ _ _ st4 loop)
theorem pe_lcX {X : Cx} {E : XK} {elt tg iter : Expr} {ifs : List Expr} {scope : Scope} {own : List (Str × Nat)} {pos : Pos} {wi : TI} {g : TG} {tt : TT} {te : TE} (tk : Takes X (fun cls d _ H => E cls d H)) (hs0 : X.stack = X.env :: X.outer) (hf0 : X.env.frame = some X.env.locals) (hc : X.calm = true) (hN : X.N.Nodup) (hi : PI X tg iter wi) (ok : BlkOk X.N X.env.scope scope own)
    (hg : ∀ (s : Shared) (H : Hp) (C : Addr) (cl : List (Str × Addr)) (fp : List Addr), PG (blkX X E s H scope (compEnvC scope cl C X.env) fp) tg g) (ht : ∀ (s : Shared) (H : Hp) (C : Addr) (cl : List (Str × Addr)) (fp : List Addr), PTs (blkX X E s H scope (compEnvC scope cl C X.env) fp) ifs tt)
    (he : ∀ (s : Shared) (H : Hp) (C : Addr) (cl : List (Str × Addr)) (fp : List Addr), PE (blkX X E s H scope (compEnvC scope cl C X.env) fp) elt te) (hs : ∀ x, foldedSetIterable iter X.env x = pure x := by intro _; rfl) :
    PE X (.ListComp elt [⟨tg, iter, ifs, 0⟩] scope pos) (tLc wi g tt te (own.map (·.2))) := by
  refine ⟨fun pins s σ H Q I h => ?_⟩
  rw [eval_ListComp]
  refine lc_coreX tk hs0 hf0 hc hN I hi ok hg ht he hs h fun D C s' m H' I' q hn f => ⟨m, hn, fun h'' sb => ?_⟩
  obtain ⟨f0, f1, f2, f3, f4, f5⟩ := f
  exact ⟨.ref D, H', I'.turned (t' := s'.toks) (fun b o hb e => (sb.2 b hb).trans e) f0 f1 f3 f4 f5, rfl, q⟩
/-- name = [..] on one line, the name a local -/
theorem ps_setLcX {X : Cx} {E : XK} {i : Nat} {y : Str} {py : Pos} {elt tg iter : Expr} {ifs : List Expr} {scope : Scope} {own : List (Str × Nat)} {pos spos : Pos} {wi : TI} {g : TG} {tt : TT} {te : TE} (tk : Takes X (fun cls d _ H => E cls d H)) (hs0 : X.stack = X.env :: X.outer) (hf0 : X.env.frame = some X.env.locals) (hc : X.calm = true) (hN : X.N.Nodup) (hy : X.N[i]? = some y) (hyl : X.env.scope.names.lookup y = some .local)
    (hsw : swapsWith (.ListComp elt [⟨tg, iter, ifs, 0⟩] scope pos) (some (.Name y py)) spos.line X.env = pure true) (hi : PI X tg iter wi) (ok : BlkOk X.N X.env.scope scope own)
    (hg : ∀ (s : Shared) (H : Hp) (C : Addr) (cl : List (Str × Addr)) (fp : List Addr), PG (blkX X E s H scope (compEnvC scope cl C X.env) fp) tg g) (ht : ∀ (s : Shared) (H : Hp) (C : Addr) (cl : List (Str × Addr)) (fp : List Addr), PTs (blkX X E s H scope (compEnvC scope cl C X.env) fp) ifs tt)
    (he : ∀ (s : Shared) (H : Hp) (C : Addr) (cl : List (Str × Addr)) (fp : List Addr), PE (blkX X E s H scope (compEnvC scope cl C X.env) fp) elt te) (hs : ∀ x, foldedSetIterable iter X.env x = pure x := by intro _; rfl) :
    PS X (.Assign [.Name y py] (.ListComp elt [⟨tg, iter, ifs, 0⟩] scope pos) spos) (tAsg (tLc wi g tt te (own.map (·.2))) (gName i)) := by
  refine ⟨fun pins s σ H D I h => ?_⟩
  rw [exec_Assign_Name_used _ _ _ _ hsw]
  refine wpAny_bind (wpAny_standAt (wpAny_bind ?_))
  show wpAny _ X.A (do let _ ← comprehension (.ListComp elt [⟨tg, iter, ifs, 0⟩] scope pos) scope X.env (firstIterPos [⟨tg, iter, ifs, 0⟩] pos) (newList []) false (eval iter X.env) (some (assign (.Name y py) X.env))) _ _ s
  have h : tLc wi g tt te (own.map (·.2)) σ H (fun x H1 => gName i x σ H1 D.nx) := h
  refine wpAny_bind (thn (lc_coreX (Qf := fun _ s' => SP X pins D .next s') tk hs0 hf0 hc hN I hi ok hg ht he hs h fun L C s' m H' I' q hn f => ?_) fun _ s' hq => wpAny_pure (wpAny_pure hq))
  show wpAny _ _ (assign (.Name y py) X.env (.ref L)) _ _ _
  refine wpAny_assign_Name (store_ok2 (v := V.ref L) I' hN hy (.inl hyl) rfl (fun s2 I2 ⟨a, sb, ha⟩ => ?_) (.inr hyl))
  obtain ⟨f0, f1, f2, f3, f4, f5⟩ := f
  have haC : C ≠ a := by
    rcases ha with z | z
    · rw [z]; exact f1
    · exact fun e => f4 y a z e.symm
  refine ⟨m, hn.sameBut sb haC, fun h3 sb3 => ?_⟩
  exact ⟨_, H', I2.turned (t' := s2.toks) (fun b o hb e => (sb3.2 b hb).trans e) f0 f1 f3 f4 f5, q⟩
theorem de_lcX {P : Pr} {M : Mp} {Q : D → Mp → Prop} {ε : DSt} {wi : TI} {g : TG} {tt : TT} {te : TE} {vs : List Nat} (hw : Wip g vs) (h : DI P wi ε M fun xs Ok M1 => ∀ p, M1 p = none → P.B p = none → ∃ I : Nat → List D → Mp → Prop, I 0 [] (updM M1 p (.lst [])) ∧
      (∀ i acc M', I i acc M' → Ok M' ∧ M' p = some (.lst acc) ∧ acc.length < 100000) ∧
      (∀ i d acc M', xs[i]? = some d → I i acc M' → DG P g d (wipeD ε vs) M' fun ε2 M2 => DT P tt ε2 M2 fun b M3 =>
        if b = true then DE P te ε2 M3 fun e M4 => M4 p = some (.lst acc) ∧ acc.length < 100000 ∧ I (i + 1) (acc ++ [e]) (updM M4 p (.lst (acc ++ [e]))) else I (i + 1) acc M3) ∧
      ∀ acc M', I xs.length acc M' → Q (.val (.ref p)) M') : DE P (tLc wi g tt te vs) ε M Q := fun σ H R a k => by
  refine h σ H _ a fun J xs Ok M1 H1 g1 e1 it q p hp => ?_
  obtain ⟨I, i0, iok, step, fin⟩ := q p (g1.free hp) (g1.base _ hp)
  have a1 := a.ext g1 e1
  have ec : Ext M1 H1 (updM M1 p (.lst [])) (upd H1 p (.lst [])) := ext_cell hp
  refine ⟨fun i m H' => m = xs.length - i ∧ i ≤ xs.length ∧ ∃ acc M', Good P.K P.B M' H' ∧ Ext M1 H1 M' H' ∧ I i acc M', ⟨xs.length, by simp, Nat.zero_le _, [], _, g1.newCell (c := .lst []) hp ⟨[], upd_same, .nil⟩, ec, i0⟩, ?_⟩
  rintro i m H' ⟨rfl, hi, acc, M', g', e', hI⟩
  have ok := iok _ _ _ hI
  by_cases hlt : i < xs.length
  · refine .inr ⟨it.go i M' H' g' e' ok.1 hlt, fun H2 => ∃ acc2 M2, Good P.K P.B M2 H2 ∧ Ext M1 H1 M2 H2 ∧ I (i + 1) acc2 M2, fun H2 ⟨acc2, M2, g2, e2, h2⟩ => ⟨xs.length - (i + 1), by omega, rfl, hlt, acc2, M2, g2, e2, h2⟩, fun x H2 y => ?_⟩
    obtain ⟨d, hd, td, g2, e2⟩ := it.yld i M' H' g' e' ok.1 x H2 y hlt
    have e12 := e'.trans e2
    have a2 : At P (wipeD ε vs) M' (L2.wipe σ vs) H2 := ⟨(a1.env.ext e12).wipe vs, g2, a1.link.ext e12⟩
    have q1 := step i d acc M' hd hI x (L2.wipe σ vs) H2 (fun σ3 H3 => tt σ3 H3 fun b H4 => if b = true then te σ3 H4 fun y H5 => ∃ acc, H5 p = some (.lst acc) ∧ acc.length < sizeLine ∧ (∃ acc2 M2, Good P.K P.B M2 (upd H5 p (.lst (acc ++ [y]))) ∧ Ext M1 H1 M2 (upd H5 p (.lst (acc ++ [y]))) ∧ I (i + 1) acc2 M2)
      else ∃ acc2 M2, Good P.K P.B M2 H4 ∧ Ext M1 H1 M2 H4 ∧ I (i + 1) acc2 M2) td a2 fun σ3 ε3 M3 H3 r3 g3 e3 h3 => ?_
    · have q2 := hw _ _ _ _ q1
      rw [wipe_wipe] at q2
      exact mono_and q2
    · have e13 := e12.trans e3
      refine h3 σ3 H3 _ ⟨r3, g3, a1.link.ext e13⟩ fun b M4 H4 g4 e4 h4 => ?_
      have e14 := e13.trans e4
      cases b with
      | false =>
        rw [if_neg Bool.false_ne_true] at h4 ⊢
        exact ⟨acc, M4, g4, e14, h4⟩
      | true =>
        rw [if_pos rfl] at h4 ⊢
        refine h4 σ3 H4 _ ⟨r3.ext e4, g4, a1.link.ext e14⟩ fun y' d' M5 H5 t5 g5 e5 h5 => ?_
        obtain ⟨h6, h7, h8⟩ := h5
        obtain ⟨ws, h9, r9⟩ := g5.cell _ _ h6
        refine ⟨ws, h9, by rw [r9.length]; exact Nat.lt_of_lt_of_le h7 (by decide), acc ++ [d'], _, g5.set (c' := .lst (acc ++ [d'])) h6 ⟨_, upd_same, (r9.append (.one t5)).ext (ext_set h6)⟩, ?_, h8⟩
        exact (e14.trans e5).trans (ext_set h6)
  · have e : i = xs.length := by omega
    subst e
    exact .inl ⟨it.stop M' H' g' e' ok.1, k _ _ M' H' (.val _) g' (e1.trans e') (fin _ _ hI)⟩

end DL

/-! Steps that are put back to a sum come to what the sum comes to -/
namespace DL
open PySem L2
inductive Ev (nm : Nat → Int) (f : Int → Int) (A : Int → Bool) : Sm → List Int → Int → Prop
  | num (n : Int) : Ev nm f A (.num n) [] n
  | nam (c : Nat) : Ev nm f A (.nam c) [] (nm c)
  | ask (e : Int) : A e = true → Ev nm f A .ask [e] (f e)
  | say {a : Sm} {es : List Int} {v : Int} (e : Int) : Ev nm f A a es v → A e = false → f e = v → Ev nm f A (.say a) (es ++ [e]) v
  | bin {a b : Sm} {es fs : List Int} {v w : Int} (o : Wd) : Ev nm f A a es v → Ev nm f A b fs w → Ev nm f A (.bin o a b) (es ++ fs) (jn o v w)
theorem ev_run {nm gv : Nat → Int} {f : Int → Int} {A : Int → Bool} {s : Sm} {es : List Int} {v : Int} (h : Ev nm f A s es v) : ∀ k : Nat, (∀ p e q, es = p ++ e :: q → A e = true → f e = gv (k + (p.filter A).length)) → s.run nm gv k = (v, (es.filter fun e => !A e).map f, k + (es.filter A).length) := by
  induction h with
  | num n => intro k _; rfl
  | nam c => intro k _; rfl
  | ask e ha =>
    intro k hk
    have := hk [] e [] rfl ha
    simp only [List.filter_nil, List.length_nil, Nat.add_zero] at this
    simp only [Sm.run, List.filter_cons, ha, if_true, Bool.not_true, Bool.false_eq_true, if_false, List.filter_nil, List.map_nil, List.length_cons, List.length_nil, Nat.zero_add, this]
  | say e _ ha hv ih =>
    intro k hk
    have r := ih k fun p e' q he hA => hk p e' (q ++ [e]) (by rw [he, List.append_assoc]; rfl) hA
    simp only [Sm.run, r, List.filter_append, List.filter_cons, ha, Bool.not_false, if_true, Bool.false_eq_true, if_false, List.filter_nil, List.append_nil, List.map_append, List.map_cons, List.map_nil, hv]
  | @bin a b es fs v w o _ _ iha ihb =>
    intro k hk
    have r1 := iha k fun p e' q he hA => hk p e' (q ++ fs) (by rw [he, List.append_assoc]; rfl) hA
    have r2 := ihb (k + (es.filter A).length) fun p e' q he hA => by
      rw [hk (es ++ p) e' q (by rw [he, List.append_assoc]) hA, List.filter_append, List.length_append, Nat.add_assoc]
    simp only [Sm.run, r1, r2, List.filter_append, List.map_append, List.length_append, Nat.add_assoc]
theorem split_nodup {α : Type} {e : α} : ∀ {p P q Q : List α}, p ++ e :: q = P ++ e :: Q → (p ++ e :: q).Nodup → p = P
  | [], [], _, _, _, _ => rfl
  | [], b :: P, q, Q, h, n => by
    rw [List.nil_append, List.cons_append] at h
    injection h with h1 h2
    rw [List.nil_append, List.nodup_cons] at n
    exact absurd (by rw [h2]; simp) n.1
  | a :: p, [], q, Q, h, n => by
    rw [List.nil_append, List.cons_append] at h
    injection h with h1 h2
    rw [List.cons_append, List.nodup_cons, h1] at n
    exact absurd (by simp) n.1
  | a :: p, b :: P, q, Q, h, n => by
    rw [List.cons_append, List.cons_append] at h
    injection h with h1 h2
    rw [List.cons_append, List.nodup_cons] at n
    rw [h1, split_nodup h2 n.2]
theorem sorted_ext : ∀ {xs ys : List Int}, xs.Pairwise (· < ·) → ys.Pairwise (· < ·) → (∀ e, e ∈ xs ↔ e ∈ ys) → xs = ys
  | [], [], _, _, _ => rfl
  | [], y :: ys, _, _, h => absurd ((h y).mpr List.mem_cons_self) (by simp)
  | x :: xs, [], _, _, h => absurd ((h x).mp List.mem_cons_self) (by simp)
  | x :: xs, y :: ys, hx, hy, h => by
    rw [List.pairwise_cons] at hx hy
    have e : x = y := by
      rcases List.mem_cons.mp ((h x).mp List.mem_cons_self) with z | z
      · exact z
      · rcases List.mem_cons.mp ((h y).mpr List.mem_cons_self) with w | w
        · exact w.symm
        · have h1 := hy.1 x z
          have h2 := hx.1 y w
          omega
    subst e
    rw [sorted_ext hx.2 hy.2 fun e => ?_]
    constructor
    · intro he
      rcases List.mem_cons.mp ((h e).mp (List.mem_cons_of_mem _ he)) with z | z
      · have := hx.1 e he; omega
      · exact z
    · intro he
      rcases List.mem_cons.mp ((h e).mpr (List.mem_cons_of_mem _ he)) with z | z
      · have := hy.1 e he; omega
      · exact z
section
variable (nm gv : Nat → Int) (l : List Stp)
/-- what is told at a place -/
def valF (e : Int) : Int := match l[e.toNat]? with
  | some t => (t.go nm gv (srun nm gv (l.take e.toNat) (fun _ => none, [], 0))).1
  | none => 0
def isA (e : Int) : Bool := match l[e.toNat]? with
  | some t => t.isAsk
  | none => false
end
theorem labs_take {l : List Stp} {i : Nat} {t : Stp} (h : l[i]? = some t) : labs 0 (l.take (i + 1)) = labs 0 (l.take i) ++ [(t, (i : Int))] := by
  have hi := (List.getElem?_eq_some_iff.mp h).1
  rw [List.take_add_one, h, labs_app]
  rw [show (0 : Int) + ((l.take i).length : Nat) = (i : Int) by rw [List.length_take]; omega]
  rfl
theorem louds_take {l : List Stp} {i : Nat} {t : Stp} (h : l[i]? = some t) : louds (labs 0 (l.take (i + 1))) = louds (labs 0 (l.take i)) ++ (if t.loud = true then [(i : Int)] else []) := by
  rw [labs_take h, louds_app]
  congr 1
  unfold louds
  rw [List.filter_cons]
  dsimp only
  cases t.loud <;> rfl
theorem bleft_keep {t : Stp} {H : Bk} {y : Int} (h : y ∉ t.uses) : t.bleft H y = H y := by
  cases t with
  | say b x => exact takeB_ne fun z => h (by rw [← z]; simp [Stp.uses])
  | bin b o x z =>
    show takeB (takeB H x) z y = H y
    rw [takeB_ne (fun q => h (by rw [← q]; simp [Stp.uses])), takeB_ne (fun q => h (by rw [← q]; simp [Stp.uses]))]
  | _ => rfl
structure Held (nm gv : Nat → Int) (l : List Stp) (i : Nat) : Prop where
  ef : Ef i (brun (labs 0 (l.take i)) noB)
  ev : ∀ x s es, brun (labs 0 (l.take i)) noB x = some (s, es) → ∃ v, (srun nm gv (l.take i) (fun _ => none, [], 0)).1 x = some v ∧ Ev nm (valF nm gv l) (isA l) s es v
  all : ∀ e ∈ louds (labs 0 (l.take i)), ∃ x v, brun (labs 0 (l.take i)) noB x = some v ∧ e ∈ v.2
  own : ∀ x v, brun (labs 0 (l.take i)) noB x = some v → ∀ e ∈ v.2, e ∈ louds (labs 0 (l.take i))
theorem held_all {nm gv : Nat → Int} {l : List Stp} (hb : bcan (labs 0 l) noB) : ∀ i, i ≤ l.length → Held nm gv l i
  | 0, _ => ⟨ef_nil, fun x s es h => (by cases h), fun e he => (by cases he), fun x v h => (by cases h)⟩
  | i + 1, hi => by
    have ih := held_all (nm := nm) (gv := gv) hb i (by omega)
    obtain ⟨t, ht⟩ : ∃ t, l[i]? = some t := ⟨_, List.getElem?_eq_getElem (by omega)⟩
    have hc : t.can (brun (labs 0 (l.take i)) noB) := by
      have e : labs 0 l = labs 0 (l.take (i + 1)) ++ labs (0 + (l.take (i + 1)).length) (l.drop (i + 1)) := by rw [← labs_app, List.take_append_drop]
      rw [e, bcan_app, labs_take ht, bcan_app] at hb
      exact hb.1.2.1
    have hH : brun (labs 0 (l.take (i + 1))) noB = t.bk i (brun (labs 0 (l.take i)) noB) := by rw [labs_take ht, brun_app]; rfl
    have hS : srun nm gv (l.take (i + 1)) (fun _ => none, [], 0) = t.put nm gv (srun nm gv (l.take i) (fun _ => none, [], 0)) := by
      rw [List.take_add_one, ht, srun_app]; rfl
    have hf : valF nm gv l i = (t.go nm gv (srun nm gv (l.take i) (fun _ => none, [], 0))).1 := by
      unfold valF
      rw [show (i : Int).toNat = i from rfl, ht]
    have hA : isA l i = t.isAsk := by
      unfold isA
      rw [show (i : Int).toNat = i from rfl, ht]
    refine ⟨?_, ?_, ?_, ?_⟩
    · rw [hH]
      exact ef_step ih.ef (by omega) hc
    · intro x s es hx
      rw [hH] at hx
      rw [hS]
      by_cases hb : t.box = x
      · rw [← hb] at hx ⊢
        have hv : t.bval i (brun (labs 0 (l.take i)) noB) = (s, es) := Option.some.inj (putB_eq.symm.trans hx)
        refine ⟨_, putT_eq, ?_⟩
        cases t with
        | num b v => cases hv; exact .num v
        | nam b c => cases hv; exact .nam c
        | ask b => cases hv; rw [← hf]; exact .ask i (by rw [hA]; rfl)
        | say b x =>
          obtain ⟨⟨a, es'⟩, hr⟩ := hc.us x (by simp [Stp.uses])
          obtain ⟨v, h1, h2⟩ := ih.ev x a es' hr
          have e0 : (Stp.say b x).bval i (brun (labs 0 (l.take i)) noB) = (.say a, es' ++ [(i : Int)]) := by simp only [Stp.bval, hr, Option.getD_some]
          rw [e0] at hv
          cases hv
          have e1 : ((Stp.say b x).go nm gv (srun nm gv (l.take i) (fun _ => none, [], 0))).1 = v := by simp only [Stp.go, h1, Option.getD_some]
          rw [e1] at hf ⊢
          exact .say i h2 (by rw [hA]; rfl) hf
        | bin b o x y =>
          obtain ⟨⟨a, es'⟩, hr⟩ := hc.us x (by simp [Stp.uses])
          obtain ⟨⟨a2, es2⟩, hr2⟩ := hc.us y (by simp [Stp.uses])
          obtain ⟨v, h1, h2⟩ := ih.ev x a es' hr
          obtain ⟨v2, h3, h4⟩ := ih.ev y a2 es2 hr2
          have e0 : (Stp.bin b o x y).bval i (brun (labs 0 (l.take i)) noB) = (.bin o a a2, es' ++ es2) := by simp only [Stp.bval, hr, hr2, Option.getD_some]
          rw [e0] at hv
          cases hv
          have e1 : ((Stp.bin b o x y).go nm gv (srun nm gv (l.take i) (fun _ => none, [], 0))).1 = jn o v v2 := by simp only [Stp.go, h1, h3, Option.getD_some]
          rw [e1]
          exact .bin o h2 h4
      · have hx' : t.bleft (brun (labs 0 (l.take i)) noB) x = some (s, es) := (putB_ne hb).symm.trans hx
        obtain ⟨v, h1, h2⟩ := ih.ev x s es (bleft_sub hx').1
        exact ⟨v, (putT_ne hb).trans h1, h2⟩
    · intro e he
      rw [louds_take ht] at he
      rw [hH]
      rcases List.mem_append.mp he with he | he
      · obtain ⟨y, w, hy, hw⟩ := ih.all e he
        by_cases hu : y ∈ t.uses
        · refine ⟨t.box, _, putB_eq, ?_⟩
          cases t with
          | num b v => cases hu
          | nam b c => cases hu
          | ask b => cases hu
          | say b x =>
            rw [List.mem_singleton.mp hu] at hy
            simp only [Stp.bval, hy, Option.getD_some]
            exact List.mem_append_left _ hw
          | bin b o x z =>
            simp only [Stp.uses, List.mem_cons, List.not_mem_nil, or_false] at hu
            rcases hu with rfl | rfl
            · simp only [Stp.bval, hy, Option.getD_some]
              exact List.mem_append_left _ hw
            · simp only [Stp.bval, hy, Option.getD_some]
              exact List.mem_append_right _ hw
        · have hl : t.bleft (brun (labs 0 (l.take i)) noB) y = some w := by rw [bleft_keep hu]; exact hy
          have hb : t.box ≠ y := fun z => by rw [← z, hc.fr] at hl; cases hl
          exact ⟨y, w, (putB_ne hb).trans hl, hw⟩
      · cases hlo : t.loud with
        | false => rw [hlo] at he; cases he
        | true =>
          rw [hlo, if_pos rfl, List.mem_singleton] at he
          subst he
          refine ⟨t.box, _, putB_eq, ?_⟩
          cases t with
          | ask b => simp [Stp.bval]
          | say b x => simp [Stp.bval]
          | _ => cases hlo
    · intro x v hx e he
      rw [hH] at hx
      rw [louds_take ht]
      by_cases hb : t.box = x
      · rw [← hb] at hx
        have hv : v = t.bval i (brun (labs 0 (l.take i)) noB) := (Option.some.inj (putB_eq.symm.trans hx)).symm
        rw [hv] at he
        cases t with
        | num b v => cases he
        | nam b c => cases he
        | ask b => exact List.mem_append_right _ he
        | say b x =>
          obtain ⟨r, hr⟩ := hc.us x (by simp [Stp.uses])
          simp only [Stp.bval, hr, Option.getD_some] at he
          rcases List.mem_append.mp he with he | he
          · exact List.mem_append_left _ (ih.own x r hr e he)
          · exact List.mem_append_right _ he
        | bin b o x y =>
          obtain ⟨r, hr⟩ := hc.us x (by simp [Stp.uses])
          obtain ⟨r2, hr2⟩ := hc.us y (by simp [Stp.uses])
          simp only [Stp.bval, hr, hr2, Option.getD_some] at he
          rcases List.mem_append.mp he with he | he
          · exact List.mem_append_left _ (ih.own x r hr e he)
          · exact List.mem_append_left _ (ih.own y r2 hr2 e he)
      · exact List.mem_append_left _ (ih.own x v (bleft_sub ((putB_ne hb).symm.trans hx)).1 e he)
theorem asks_take {l : List Stp} : ∀ j, j ≤ l.length → ((louds (labs 0 (l.take j))).filter (isA l)).length = nAsk (l.take j)
  | 0, _ => rfl
  | j + 1, hj => by
    obtain ⟨t, ht⟩ : ∃ t, l[j]? = some t := ⟨_, List.getElem?_eq_getElem (by omega)⟩
    have hA : isA l j = t.isAsk := by
      unfold isA
      rw [show (j : Int).toNat = j from rfl, ht]
    have ih := asks_take (l := l) j (by omega)
    rw [louds_take ht, List.filter_append, List.length_append, ih, List.take_add_one, ht]
    unfold nAsk
    rw [List.filter_append, List.length_append]
    congr 1
    cases t <;> simp [Stp.loud, Stp.isAsk, hA, List.filter_cons]
theorem said_take {nm gv : Nat → Int} {l : List Stp} : ∀ j, j ≤ l.length → (srun nm gv (l.take j) (fun _ => none, [], 0)).2.1 = ((louds (labs 0 (l.take j))).filter fun e => !isA l e).map (valF nm gv l)
  | 0, _ => rfl
  | j + 1, hj => by
    obtain ⟨t, ht⟩ : ∃ t, l[j]? = some t := ⟨_, List.getElem?_eq_getElem (by omega)⟩
    have hA : isA l j = t.isAsk := by
      unfold isA
      rw [show (j : Int).toNat = j from rfl, ht]
    have hf : valF nm gv l j = (t.go nm gv (srun nm gv (l.take j) (fun _ => none, [], 0))).1 := by
      unfold valF
      rw [show (j : Int).toNat = j from rfl, ht]
    have ih := said_take (nm := nm) (gv := gv) (l := l) j (by omega)
    have hS : srun nm gv (l.take (j + 1)) (fun _ => none, [], 0) = t.put nm gv (srun nm gv (l.take j) (fun _ => none, [], 0)) := by
      rw [List.take_add_one, ht, srun_app]; rfl
    rw [hS, louds_take ht, List.filter_append, List.map_append, ← ih]
    cases t <;> simp [Stp.put, Stp.go, Stp.loud, Stp.isAsk, hA, hf] <;> (simp [Stp.isAsk] at hA; simp [hA, hf, Stp.go])
theorem louds_split {l : List Stp} {p q : List Int} {e : Int} (h : louds (labs 0 l) = p ++ e :: q) : 0 ≤ e ∧ e.toNat < l.length ∧ p = louds (labs 0 (l.take e.toNat)) := by
  obtain ⟨h1, h2⟩ := louds_labs l 0
  have he := h2 e (by rw [h]; simp)
  obtain ⟨j, rfl⟩ : ∃ j : Nat, e = j := ⟨e.toNat, by omega⟩
  rw [show (j : Int).toNat = j from rfl]
  have hj : j < l.length := by omega
  refine ⟨he.1, hj, ?_⟩
  obtain ⟨t, ht⟩ : ∃ t, l[j]? = some t := ⟨_, List.getElem?_eq_getElem hj⟩
  have e1 : labs 0 l = labs 0 (l.take (j + 1)) ++ labs (0 + (l.take (j + 1)).length) (l.drop (j + 1)) := by rw [← labs_app, List.take_append_drop]
  have hle : (l.take (j + 1)).length = j + 1 := by rw [List.length_take]; omega
  have hlo : t.loud = true := by
    cases hlo : t.loud with
    | true => rfl
    | false =>
      have hm : (j : Int) ∈ louds (labs 0 l) := by rw [h]; simp
      rw [e1, louds_app, louds_take ht, hlo, hle] at hm
      simp only [Bool.false_eq_true, if_false, List.append_nil] at hm
      rcases List.mem_append.mp hm with hm | hm
      · have := (louds_labs (l.take j) 0).2 _ hm
        rw [List.length_take] at this
        omega
      · have := (louds_labs (l.drop (j + 1)) _).2 _ hm
        omega
  have e2 : louds (labs 0 l) = louds (labs 0 (l.take j)) ++ (j : Int) :: louds (labs (0 + (l.take (j + 1)).length) (l.drop (j + 1))) := by
    rw [e1, louds_app, louds_take ht, hlo, if_pos rfl, List.append_assoc]
    rfl
  have nd : (louds (labs 0 l)).Nodup := h1.imp fun h => Int.ne_of_lt h
  rw [h] at e2 nd
  exact split_nodup e2 nd
theorem back_run {nm gv : Nat → Int} {l : List Stp} (hb : bcan (labs 0 l) noB) {s : Sm} {es : List Int} (hl : brun (labs 0 l) noB (lastBox l) = some (s, es)) (only : ∀ x v, brun (labs 0 l) noB x = some v → x = lastBox l) (hs : es.Pairwise (· ≤ ·)) : runR nm gv l = s.run nm gv 0 := by
  have hd := held_all (nm := nm) (gv := gv) hb l.length (Nat.le_refl _)
  have hq : l.take l.length = l := List.take_length
  obtain ⟨v, h1, h2⟩ := hd.ev (lastBox l) s es (by rw [hq]; exact hl)
  rw [hq] at h1
  have hlt : es.Pairwise (· < ·) := by
    have nd := hd.ef.nd (lastBox l) (s, es) (by rw [hq]; exact hl)
    refine (List.Pairwise.and hs nd).imp fun ⟨a, b⟩ => ?_
    omega
  have hes : es = louds (labs 0 l) := sorted_ext hlt (louds_labs l 0).1 fun e => by
    constructor
    · intro he
      have := hd.own (lastBox l) (s, es) (by rw [hq]; exact hl) e he
      rw [hq] at this
      exact this
    · intro he
      obtain ⟨x, w, hx, hw⟩ := hd.all e (by rw [hq]; exact he)
      rw [hq] at hx
      rw [only x w hx, hl] at hx
      cases hx
      exact hw
  have r := ev_run (gv := gv) h2 0 fun p e q he hA => by
    rw [hes] at he
    obtain ⟨e0, e1, rfl⟩ := louds_split he
    obtain ⟨j, rfl⟩ : ∃ j : Nat, e = j := ⟨e.toNat, by omega⟩
    rw [show (j : Int).toNat = j from rfl] at e1 ⊢
    obtain ⟨t, ht⟩ : ∃ t, l[j]? = some t := ⟨_, List.getElem?_eq_getElem e1⟩
    have hA2 : t.isAsk = true := by
      unfold isA at hA
      rw [show (j : Int).toNat = j from rfl, ht] at hA
      exact hA
    rw [asks_take j (by omega), Nat.zero_add]
    unfold valF
    rw [show (j : Int).toNat = j from rfl, ht]
    cases t with
    | ask b =>
      show gv (srun nm gv (l.take j) (fun _ => none, [], 0)).2.2 = _
      rw [srun_asked, Nat.zero_add]
    | _ => cases hA2
  rw [r]
  have a1 := asks_take (l := l) l.length (Nat.le_refl _)
  have a2 := said_take (nm := nm) (gv := gv) (l := l) l.length (Nat.le_refl _)
  rw [hq] at a1 a2
  unfold runR
  rw [h1, a2, srun_asked, hes, a1]
  rfl
end DL

/-! Who uses what, against putting back -/
namespace DL
open PySem L2
/-- whence a box's sum comes, who uses a step, the sums -/
abbrev LS := (Int → Option Nat) × (Nat → List Nat) × List BV
def lawB (W : LS) : Bk := fun x => match W.1 x with
  | some k => W.2.2[k]?
  | none => none
def lawUs (t : Stp) (i : Nat) (W : LS) (k : Nat) : List Nat := (t.uses.filter fun x => decide (W.1 x = some k)).map fun _ => i
def cut3 (v : BV) : BV := (v.1, v.2.take 300)
def Stp.lw (t : Stp) (i : Nat) (W : LS) : LS := (fun x => if t.box = x then some i else W.1 x, fun k => W.2.1 k ++ lawUs t i W k, W.2.2 ++ [cut3 (t.bval i (lawB W))])
def lrun : List Stp → Nat → LS → LS
  | [], _, W => W
  | t :: l, i, W => lrun l (i + 1) (t.lw i W)
abbrev noL0 : LS := (fun _ => none, fun _ => [], [])
theorem lrun_app : ∀ (l m : List Stp) (i : Nat) (W : LS), lrun (l ++ m) i W = lrun m (i + l.length) (lrun l i W)
  | [], m, i, W => rfl
  | t :: l, m, i, W => by
    show lrun (l ++ m) (i + 1) (t.lw i W) = _
    rw [lrun_app l m, List.length_cons]
    show lrun m (i + 1 + l.length) _ = lrun m (i + (l.length + 1)) (lrun l (i + 1) (t.lw i W))
    rw [show i + 1 + l.length = i + (l.length + 1) by omega]
theorem lrun_take {l : List Stp} {i : Nat} {t : Stp} (h : l[i]? = some t) : lrun (l.take (i + 1)) 0 noL0 = t.lw i (lrun (l.take i) 0 noL0) := by
  have hi := (List.getElem?_eq_some_iff.mp h).1
  rw [List.take_add_one, h, lrun_app, show 0 + (l.take i).length = i by rw [List.length_take]; omega]
  rfl
structure LI (l : List Stp) (i : Nat) (H : Bk) (W : LS) : Prop where
  box : ∀ x k, W.1 x = some k → k < i ∧ ∃ t, l[k]? = some t ∧ t.box = x
  inn : ∀ x v, H x = some v → ∃ k, W.1 x = some k ∧ W.2.1 k = [] ∧ W.2.2[k]? = some v
  out : ∀ x k, H x = none → W.1 x = some k → (W.2.1 k).length = 1
  old : ∀ k, k < i → (∀ x, W.1 x ≠ some k) → (W.2.1 k).length = 1
  fut : ∀ k, i ≤ k → W.2.1 k = []
  put : ∀ x, x ∈ (l.take i).map Stp.box → ∃ k, W.1 x = some k
  len : W.2.2.length = i
  ef : Ef i H
def Bad (W : LS) (k : Nat) : Prop := 2 ≤ (W.2.1 k).length ∨ (W.2.1 k = [] ∧ ∀ x, W.1 x ≠ some k)
theorem bad_step {W : LS} {k i : Nat} {t : Stp} (hk : k < i) (h : Bad W k) : Bad (t.lw i W) k := by
  rcases h with h | ⟨h1, h2⟩
  · refine .inl ?_
    show 2 ≤ (W.2.1 k ++ lawUs t i W k).length
    rw [List.length_append]
    omega
  · refine .inr ⟨?_, fun x => ?_⟩
    · show W.2.1 k ++ lawUs t i W k = []
      have : lawUs t i W k = [] := by
        unfold lawUs
        rw [List.filter_eq_nil_iff.mpr fun x _ => by simpa using h2 x]
        rfl
      rw [h1, this]
      rfl
    · show (if t.box = x then some i else W.1 x) ≠ some k
      split
      · intro z; injection z; omega
      · exact h2 x
theorem lawUs_mem {W : LS} {k i : Nat} {t : Stp} {x : Int} (hx : x ∈ t.uses) (h : W.1 x = some k) : 1 ≤ (lawUs t i W k).length := by
  unfold lawUs
  rw [List.length_map]
  exact List.length_pos_of_mem (List.mem_filter.mpr ⟨hx, decide_eq_true h⟩)
theorem lawUs_nil {W : LS} {k i : Nat} {t : Stp} (h : ∀ x ∈ t.uses, W.1 x ≠ some k) : lawUs t i W k = [] := by
  unfold lawUs
  rw [List.filter_eq_nil_iff.mpr fun x hx => by simpa using h x hx]
  rfl
theorem li_nil (l : List Stp) : LI l 0 noB noL0 := ⟨fun x k h => (by cases h), fun x v h => (by cases h), fun x k _ h => (by cases h), fun k h => (by omega), fun _ _ => rfl, fun x h => (by simp at h), rfl, ef_nil⟩
theorem uses_case (t : Stp) : t.uses = [] ∨ (∃ x, t.uses = [x]) ∨ ∃ x y, t.uses = [x, y] := by
  cases t with
  | say b x => exact .inr (.inl ⟨x, rfl⟩)
  | bin b o x y => exact .inr (.inr ⟨x, y, rfl⟩)
  | _ => exact .inl rfl
theorem li_bad {l : List Stp} {i : Nat} {H : Bk} {W : LS} {t : Stp} (I : LI l i H W) (ht : l[i]? = some t) (hp : ∀ x ∈ t.uses, x ∈ (l.take i).map Stp.box) (hn : ¬ t.can H) : ∃ k, k < i ∧ Bad (t.lw i W) k := by
  by_cases h1 : ∀ x ∈ t.uses, ∃ r, H x = some r
  · by_cases h2 : t.uses.Nodup
    · cases h3 : t.bleft H t.box with
      | none => exact absurd ⟨h1, h2, h3⟩ hn
      | some v =>
        obtain ⟨h4, h5⟩ := bleft_sub h3
        obtain ⟨k, k1, k2, _⟩ := I.inn _ _ h4
        obtain ⟨hk, t', ht', hb'⟩ := I.box _ _ k1
        have one : ∀ y, W.1 y = some k → y = t.box := fun y hy => by
          obtain ⟨_, t2, ht2, hb2⟩ := I.box _ _ hy
          rw [ht'] at ht2
          cases ht2
          exact hb2.symm.trans hb'
        refine ⟨k, hk, .inr ⟨?_, fun y => ?_⟩⟩
        · show W.2.1 k ++ lawUs t i W k = []
          rw [k2, lawUs_nil fun x hx z => h5 (by rw [← one x z]; exact hx)]
          rfl
        · show (if t.box = y then some i else W.1 y) ≠ some k
          split
          · intro z; injection z; omega
          · intro z
            rename_i hne
            exact hne (one y z).symm
    · rcases uses_case t with e | ⟨x, e⟩ | ⟨x, y, e⟩
      · rw [e] at h2; exact absurd List.nodup_nil h2
      · rw [e] at h2; exact absurd (by simp) h2
      · rw [e] at h2
        have exy : x = y := by
          by_cases z : x = y
          · exact z
          · exact absurd (by simp [z]) h2
        subst exy
        obtain ⟨k, hk⟩ := I.put x (hp x (by rw [e]; simp))
        refine ⟨k, (I.box x k hk).1, .inl ?_⟩
        show 2 ≤ (W.2.1 k ++ lawUs t i W k).length
        unfold lawUs
        rw [e]
        simp [hk]
  · obtain ⟨x, hx⟩ := Classical.not_forall.mp h1
    obtain ⟨hx1, hx2⟩ := Classical.not_imp.mp hx
    have hxn : H x = none := by
      cases q : H x with
      | none => rfl
      | some r => exact absurd ⟨r, q⟩ hx2
    obtain ⟨k, hk⟩ := I.put x (hp x hx1)
    refine ⟨k, (I.box x k hk).1, .inl ?_⟩
    show 2 ≤ (W.2.1 k ++ lawUs t i W k).length
    have h3 := I.out x k hxn hk
    have h4 := lawUs_mem (i := i) hx1 hk
    rw [List.length_append]
    omega
theorem lawB_eq {l : List Stp} {i : Nat} {H : Bk} {W : LS} (I : LI l i H W) {x : Int} {v : BV} (h : H x = some v) : lawB W x = some v := by
  obtain ⟨k, k1, _, k3⟩ := I.inn x v h
  unfold lawB
  rw [k1]
  exact k3
theorem bval_eq {t : Stp} {i : Int} {H G : Bk} (h : ∀ x ∈ t.uses, H x = G x) : t.bval i H = t.bval i G := by
  cases t with
  | say b x => simp only [Stp.bval, h x (by simp [Stp.uses])]
  | bin b o x y => simp only [Stp.bval, h x (by simp [Stp.uses]), h y (by simp [Stp.uses])]
  | _ => rfl
theorem bleft_used {t : Stp} {H : Bk} {x : Int} (h : x ∈ t.uses) : t.bleft H x = none := by
  cases q : t.bleft H x with
  | none => rfl
  | some v => exact absurd h (bleft_sub q).2
theorem li_step {l : List Stp} {i : Nat} {H : Bk} {W : LS} {t : Stp} (hi300 : i < 300) (I : LI l i H W) (ht : l[i]? = some t) (c : t.can H) : LI l (i + 1) (t.bk i H) (t.lw i W) := by
  have hef := ef_step I.ef (by omega) c
  have inj : ∀ x y k, W.1 x = some k → W.1 y = some k → x = y := fun x y k hx hy => by
    obtain ⟨_, t1, e1, f1⟩ := I.box x k hx
    obtain ⟨_, t2, e2, f2⟩ := I.box y k hy
    rw [e1] at e2
    cases e2
    exact f1.symm.trans f2
  have usI : W.2.1 i = [] := I.fut i (Nat.le_refl _)
  have usI2 : lawUs t i W i = [] := lawUs_nil fun x _ z => by have := (I.box x i z).1; omega
  have hv : cut3 (t.bval i (lawB W)) = t.bval i H := by
    rw [bval_eq (H := lawB W) (G := H) fun x hx => by
      obtain ⟨r, hr⟩ := c.us x hx
      rw [hr, lawB_eq I hr]]
    have hb : t.bk i H t.box = some (t.bval i H) := putB_eq
    have := ef_len (i := i + 1) hef hb
    unfold cut3
    rw [List.take_of_length_le (by omega)]
  -- who uses what, for a step that is told
  have uOne : ∀ x k, x ∈ t.uses → W.1 x = some k → (W.2.1 k ++ lawUs t i W k).length = 1 := fun x k hx hk => by
    obtain ⟨r, hr⟩ := c.us x hx
    obtain ⟨k', k1, k2, _⟩ := I.inn x r hr
    rw [hk] at k1
    cases k1
    rw [k2, List.nil_append]
    unfold lawUs
    rw [List.length_map]
    have nd := c.nd
    rcases uses_case t with e | ⟨y, e⟩ | ⟨y, z, e⟩
    · rw [e] at hx; cases hx
    · rw [e] at hx ⊢
      rw [List.mem_singleton.mp hx] at hk
      simp [hk]
    · rw [e] at hx nd ⊢
      have ne : y ≠ z := by simpa using nd
      simp only [List.mem_cons, List.not_mem_nil, or_false] at hx
      rcases hx with rfl | rfl
      · have : W.1 z ≠ some k := fun q => ne (inj _ _ _ hk q)
        simp [hk, this]
      · have : W.1 y ≠ some k := fun q => ne (inj _ _ _ q hk)
        simp [hk, this]
  have uNo : ∀ x k, x ∉ t.uses → W.1 x = some k → lawUs t i W k = [] := fun x k hx hk => lawUs_nil fun y hy q => hx (by rw [inj x y k hk q]; exact hy)
  refine ⟨fun x k h => ?_, fun x v h => ?_, fun x k h hk => ?_, fun k hk hn => ?_, fun k hk => ?_, fun x hx => ?_, ?_, hef⟩
  · have h : (if t.box = x then some i else W.1 x) = some k := h
    split at h
    · rename_i hb
      cases h
      exact ⟨by omega, t, ht, hb⟩
    · obtain ⟨a, b⟩ := I.box x k h
      exact ⟨by omega, b⟩
  · by_cases hb : t.box = x
    · rw [← hb] at h ⊢
      have e : t.bval i H = v := Option.some.inj (putB_eq.symm.trans h)
      refine ⟨i, if_pos rfl, ?_, ?_⟩
      · show W.2.1 i ++ lawUs t i W i = []
        rw [usI, usI2]; rfl
      · show (W.2.2 ++ [cut3 (t.bval i (lawB W))])[i]? = some v
        rw [List.getElem?_append_right (by rw [I.len]; exact Nat.le_refl _), I.len, Nat.sub_self, hv, e]
        rfl
    · have h' : t.bleft H x = some v := (putB_ne hb).symm.trans h
      obtain ⟨h1, h2⟩ := bleft_sub h'
      obtain ⟨k, k1, k2, k3⟩ := I.inn x v h1
      refine ⟨k, (if_neg hb).trans k1, ?_, ?_⟩
      · show W.2.1 k ++ lawUs t i W k = []
        rw [k2, uNo x k h2 k1]; rfl
      · show (W.2.2 ++ [cut3 (t.bval i (lawB W))])[k]? = some v
        rw [List.getElem?_append_left (by rw [I.len]; exact (I.box x k k1).1)]
        exact k3
  · have hb : t.box ≠ x := fun z => by rw [← z] at h; rw [show t.bk i H t.box = some _ from putB_eq] at h; cases h
    have hk' : W.1 x = some k := (if_neg hb).symm.trans hk
    have h' : t.bleft H x = none := (putB_ne hb).symm.trans h
    by_cases hu : x ∈ t.uses
    · exact uOne x k hu hk'
    · rw [bleft_keep hu] at h'
      show (W.2.1 k ++ lawUs t i W k).length = 1
      rw [uNo x k hu hk', List.append_nil]
      exact I.out x k h' hk'
  · show (W.2.1 k ++ lawUs t i W k).length = 1
    have hki : k ≠ i := fun z => hn t.box (by rw [z]; exact if_pos rfl)
    have hk2 : k < i := by omega
    by_cases hw : ∃ x, W.1 x = some k
    · obtain ⟨x, hx⟩ := hw
      have hb : t.box = x := by
        by_cases z : t.box = x
        · exact z
        · exact absurd ((if_neg z).trans hx) (hn x)
      by_cases hu : x ∈ t.uses
      · exact uOne x k hu hx
      · rw [uNo x k hu hx, List.append_nil]
        refine I.out x k ?_ hx
        rw [← bleft_keep (H := H) hu, ← hb]
        exact c.fr
    · have hw' : ∀ x, W.1 x ≠ some k := fun x z => hw ⟨x, z⟩
      rw [lawUs_nil fun x _ => hw' x, List.append_nil]
      exact I.old k hk2 hw'
  · show W.2.1 k ++ lawUs t i W k = []
    rw [I.fut k (by omega), lawUs_nil fun x _ z => by have := (I.box x k z).1; omega]
    rfl
  · show ∃ k, (if t.box = x then some i else W.1 x) = some k
    split
    · exact ⟨i, rfl⟩
    · rename_i hb
      rw [List.take_add_one, ht, List.map_append] at hx
      rcases List.mem_append.mp hx with hx | hx
      · exact I.put x hx
      · simp only [Option.toList_some, List.map_cons, List.map_nil, List.mem_singleton] at hx
        exact absurd hx.symm hb
  · show (W.2.2 ++ [cut3 (t.bval i (lawB W))]).length = i + 1
    rw [List.length_append, I.len]
    rfl
theorem run_or {l : List Stp} (hok : okSt [] l) (hl : l.length ≤ 300) : ∀ i, i ≤ l.length → (bcan (labs 0 (l.take i)) noB ∧ LI l i (brun (labs 0 (l.take i)) noB) (lrun (l.take i) 0 noL0)) ∨ (¬ bcan (labs 0 (l.take i)) noB ∧ ∃ k, k < i ∧ Bad (lrun (l.take i) 0 noL0) k)
  | 0, _ => .inl ⟨trivial, li_nil l⟩
  | i + 1, hi => by
    obtain ⟨t, ht⟩ : ∃ t, l[i]? = some t := ⟨_, List.getElem?_eq_getElem (by omega)⟩
    have hto := okSt_get hok ht
    have hp : ∀ x ∈ t.uses, x ∈ (l.take i).map Stp.box := fun x hx => by simpa using (hto.us x hx).2.2
    have hH : brun (labs 0 (l.take (i + 1))) noB = t.bk i (brun (labs 0 (l.take i)) noB) := by rw [labs_take ht, brun_app]; rfl
    have hb : bcan (labs 0 (l.take (i + 1))) noB ↔ bcan (labs 0 (l.take i)) noB ∧ t.can (brun (labs 0 (l.take i)) noB) := by
      rw [labs_take ht, bcan_app]
      exact ⟨fun ⟨a, b, _⟩ => ⟨a, b⟩, fun ⟨a, b⟩ => ⟨a, b, trivial⟩⟩
    rw [lrun_take ht, hH, hb]
    rcases run_or hok hl i (by omega) with ⟨h1, I⟩ | ⟨h1, k, hk, hB⟩
    · by_cases c : t.can (brun (labs 0 (l.take i)) noB)
      · exact .inl ⟨⟨h1, c⟩, li_step (by omega) I ht c⟩
      · obtain ⟨k, hk, hB⟩ := li_bad I ht hp c
        exact .inr ⟨fun z => c z.2, k, by omega, hB⟩
    · exact .inr ⟨fun z => h1 z.1, k, by omega, bad_step hk hB⟩
theorem last_wh {l : List Stp} (hne : l ≠ []) : (lrun l 0 noL0).1 (lastBox l) = some (l.length - 1) := by
  obtain ⟨l', t, rfl⟩ : ∃ l' t, l = l' ++ [t] := ⟨l.dropLast, l.getLast hne, (List.dropLast_concat_getLast hne).symm⟩
  rw [lrun_app, lastBox_app, List.length_append]
  show (if t.box = t.box then some (0 + l'.length) else _) = _
  rw [if_pos rfl]
  simp
def Told1 (l : List Stp) : Prop := (∀ k, k + 1 < l.length → ((lrun l 0 noL0).2.1 k).length = 1) ∧ (lrun l 0 noL0).2.1 (l.length - 1) = []
def Whole1 (l : List Stp) : Prop := bcan (labs 0 l) noB ∧ ∀ x v, brun (labs 0 l) noB x = some v → x = lastBox l
theorem told_whole {l : List Stp} (hok : okSt [] l) (hne : l ≠ []) (hl : l.length ≤ 300) : Told1 l ↔ Whole1 l := by
  have hn : 0 < l.length := List.length_pos_iff.mpr hne
  have hw := last_wh hne
  have ro := run_or hok hl l.length (Nat.le_refl _)
  rw [List.take_length] at ro
  constructor
  · rintro ⟨c1, c2⟩
    rcases ro with ⟨h1, I⟩ | ⟨_, k, hk, hB⟩
    · refine ⟨h1, fun x v hx => ?_⟩
      obtain ⟨k, k1, k2, _⟩ := I.inn x v hx
      obtain ⟨k3, t, k4, k5⟩ := I.box x k k1
      have hk : k = l.length - 1 := by
        by_cases z : k + 1 < l.length
        · have := c1 k z
          rw [k2] at this
          cases this
        · omega
      obtain ⟨_, t', e1, e2⟩ := I.box _ _ hw
      rw [← hk, k4] at e1
      cases e1
      rw [← k5, e2]
    · exfalso
      rcases hB with hB | ⟨hB1, hB2⟩
      · by_cases z : k + 1 < l.length
        · have := c1 k z
          omega
        · have e : k = l.length - 1 := by omega
          rw [e, c2] at hB
          simp at hB
      · by_cases z : k + 1 < l.length
        · have := c1 k z
          rw [hB1] at this
          cases this
        · have e : k = l.length - 1 := by omega
          exact hB2 (lastBox l) (by rw [hw, e])
  · rintro ⟨b1, b2⟩
    rcases ro with ⟨_, I⟩ | ⟨h, _⟩
    · refine ⟨fun k hk => ?_, ?_⟩
      · by_cases hx : ∃ x, (lrun l 0 noL0).1 x = some k
        · obtain ⟨x, hx⟩ := hx
          cases hH : brun (labs 0 l) noB x with
          | none => exact I.out x k hH hx
          | some v =>
            rw [b2 x v hH, hw] at hx
            injection hx
            omega
        · exact I.old k (by omega) fun x z => hx ⟨x, z⟩
      · cases hH : brun (labs 0 l) noB (lastBox l) with
        | none =>
          exfalso
          obtain ⟨l', t, rfl⟩ : ∃ l' t, l = l' ++ [t] := ⟨l.dropLast, l.getLast hne, (List.dropLast_concat_getLast hne).symm⟩
          rw [labs_app, brun_app, lastBox_app] at hH
          rw [show brun (labs (0 + (l'.length : Nat)) [t]) (brun (labs 0 l') noB) t.box = some _ from putB_eq] at hH
          cases hH
        | some v =>
          obtain ⟨k, k1, k2, _⟩ := I.inn _ _ hH
          rw [hw] at k1
          cases k1
          exact k2
    · exact absurd b1 h
theorem whole_val {l : List Stp} (hok : okSt [] l) (hne : l ≠ []) (hl : l.length ≤ 300) (h : bcan (labs 0 l) noB) : ∃ v, brun (labs 0 l) noB (lastBox l) = some v ∧ (lrun l 0 noL0).2.2[l.length - 1]? = some v := by
  have hw := last_wh hne
  have ro := run_or hok hl l.length (Nat.le_refl _)
  rw [List.take_length] at ro
  rcases ro with ⟨_, I⟩ | ⟨z, _⟩
  · cases hH : brun (labs 0 l) noB (lastBox l) with
    | none =>
      exfalso
      obtain ⟨l', t, rfl⟩ : ∃ l' t, l = l' ++ [t] := ⟨l.dropLast, l.getLast hne, (List.dropLast_concat_getLast hne).symm⟩
      rw [labs_app, brun_app, lastBox_app] at hH
      rw [show brun (labs (0 + (l'.length : Nat)) [t]) (brun (labs 0 l') noB) t.box = some _ from putB_eq] at hH
      cases hH
    | some v =>
      obtain ⟨k, k1, _, k3⟩ := I.inn _ _ hH
      rw [hw] at k1
      cases k1
      exact ⟨v, rfl, k3⟩
  · exact absurd h z
end DL

/-! A comprehension that may raise, item by item; which steps are a sum: both ways -/
namespace DL
open PySem L2 PyProof.Rows
def LcUX (P : Pr) (g : TG) (tt : TT) (te : TE) (ε0 : DSt) (p : Addr) (Qf : List D → Mp → Prop) : List D → List D → Mp → Prop
  | [], acc, M => Qf acc M
  | x :: xs, acc, M => DG P g x ε0 M fun ε2 M2 => DT P tt ε2 M2 fun b M3 => if b = true then DE P te ε2 M3 fun e M4 => M4 p = some (.lst acc) ∧ LcUX P g tt te ε0 p Qf xs (acc ++ [e]) (updM M4 p (.lst (acc ++ [e]))) else M3 p = some (.lst acc) ∧ LcUX P g tt te ε0 p Qf xs acc M3
theorem de_lcUX {P : Pr} {M : Mp} {ε : DSt} {Q : D → Mp → Prop} {wi : TI} {g : TG} {tt : TT} {te : TE} {vs : List Nat} (hw : Wip g vs) (h : DI P wi ε M fun xs Ok M1 => xs.length < 100000 ∧ (∀ M', Ok M') ∧ ∀ p, M1 p = none → P.B p = none → LcUX P g tt te (wipeD ε vs) p (fun _ M' => Q (.val (.ref p)) M') xs [] (updM M1 p (.lst []))) : DE P (tLc wi g tt te vs) ε M Q := by
  refine de_lcX hw fun σ H R a k => h σ H R a fun J xs Ok M1 H1 g1 e1 it q => k J xs Ok M1 H1 g1 e1 it fun p hp hb => ?_
  obtain ⟨hx, hok, q⟩ := q
  refine ⟨fun i acc M' => M' p = some (.lst acc) ∧ acc.length ≤ i ∧ i ≤ xs.length ∧ LcUX P g tt te (wipeD ε vs) p (fun _ M' => Q (.val (.ref p)) M') (xs.drop i) acc M', ⟨updM_same, Nat.le_refl _, Nat.zero_le _, q p hp hb⟩, fun i acc M' ⟨h1, h2, h3, _⟩ => ⟨hok M', h1, by omega⟩, fun i d acc M' hd ⟨h1, h2, h3, h4⟩ => ?_, fun acc M' ⟨h1, h2, h3, h4⟩ => ?_⟩
  · rw [drop_get hd] at h4
    have hi := (List.getElem?_eq_some_iff.mp hd).1
    refine dg_imp h4 fun ε2 M2 h5 => dt_imp h5 fun b M3 h6 => ?_
    cases b with
    | true =>
      rw [if_pos rfl] at h6 ⊢
      refine de_imp h6 fun e M4 h7 => ⟨h7.1, by omega, updM_same, by rw [List.length_append, List.length_singleton]; omega, hi, h7.2⟩
    | false =>
      rw [if_neg Bool.false_ne_true] at h6 ⊢
      exact ⟨h6.1, by omega, hi, h6.2⟩
  · rw [List.drop_length] at h4
    exact h4
/-- put back: the sum that steps are -/
def PBok (l : List Stp) (s : Sm) : Prop := Whole1 l ∧ ∃ es, brun (labs 0 l) noB (lastBox l) = some (s, es) ∧ es.Pairwise (· ≤ ·) ∧ s.dp ≤ 15 ∧ s.sz ≤ 60
/-- by who uses what -/
def DueOk (l : List Stp) (s : Sm) : Prop := Told1 l ∧ ∃ es, (lrun l 0 noL0).2.2[l.length - 1]? = some (s, es) ∧ es.Pairwise (· ≤ ·) ∧ s.dp ≤ 15 ∧ s.sz ≤ 60
theorem due_back {l : List Stp} (hok : okSt [] l) (hne : l ≠ []) (hl : l.length ≤ 300) (s : Sm) : DueOk l s ↔ PBok l s := by
  have tw := told_whole hok hne hl
  constructor
  · rintro ⟨h1, es, h2, h3, h4, h5⟩
    have w := tw.mp h1
    obtain ⟨v, e1, e2⟩ := whole_val hok hne hl w.1
    rw [e2] at h2
    exact ⟨w, es, by rw [e1]; exact h2, h3, h4, h5⟩
  · rintro ⟨w, es, h2, h3, h4, h5⟩
    obtain ⟨v, e1, e2⟩ := whole_val hok hne hl w.1
    rw [e1] at h2
    exact ⟨tw.mpr w, es, by rw [e2]; exact h2, h3, h4, h5⟩
theorem back_unique {l : List Stp} {s s' : Sm} (h : PBok l s) (h' : PBok l s') : s = s' := by
  obtain ⟨_, es, h2, _⟩ := h
  obtain ⟨_, es', h2', _⟩ := h'
  rw [h2] at h2'
  cases h2'
  rfl
/-- what is held is a sum of numbers and letters that are -/
theorem held_ok : ∀ (l : List Stp) (k : Int) (H : Bk), (∀ t ∈ l, t.fit) → (∀ x v, H x = some v → v.1.ok) → bcan (labs k l) H → ∀ x v, brun (labs k l) H x = some v → v.1.ok
  | [], _, _, _, h, _ => h
  | t :: l, k, H, hf, h, c => by
    refine held_ok l (k + 1) (t.bk k H) (fun u hu => hf u (List.mem_cons_of_mem _ hu)) (fun x v hx => ?_) c.2
    have ct : t.can H := c.1
    by_cases hb : t.box = x
    · rw [← hb] at hx
      have e : v = t.bval k H := (Option.some.inj (putB_eq.symm.trans hx)).symm
      rw [e]
      have hft := hf t List.mem_cons_self
      cases t with
      | num b v => exact hft
      | nam b c => exact hft
      | ask b => trivial
      | say b x =>
        obtain ⟨r, hr⟩ := ct.us x (by simp [Stp.uses])
        simp only [Stp.bval, hr, Option.getD_some]
        exact h x r hr
      | bin b o x y =>
        obtain ⟨r, hr⟩ := ct.us x (by simp [Stp.uses])
        obtain ⟨r2, hr2⟩ := ct.us y (by simp [Stp.uses])
        simp only [Stp.bval, hr, hr2, Option.getD_some]
        exact ⟨h x r hr, h y r2 hr2⟩
    · exact h x v (bleft_sub ((putB_ne hb).symm.trans hx)).1
theorem back_good {l : List Stp} {s : Sm} (hok : okSt [] l) (h : PBok l s) : s.good := by
  obtain ⟨w, es, h2, _, h4, h5⟩ := h
  exact ⟨held_ok l 0 noB (okSt_fit hok) (fun _ _ z => by cases z) w.1 _ _ h2, h4, h5⟩
theorem back_told {nm gv : Nat → Int} {l : List Stp} {s : Sm} (h : PBok l s) : runR nm gv l = s.run nm gv 0 := by
  obtain ⟨w, es, h2, h3, _, _⟩ := h
  exact back_run w.1 h2 w.2 h3
def szB (H : Bk) (x : Int) : Nat := match H x with
  | some v => v.1.sz
  | none => 0
theorem sz_sum {t : Stp} {H : Bk} {k : Int} (c : t.can H) : ∀ xs : List Int, xs.Nodup → (xs.map (szB (t.bk k H))).sum ≤ (if t.box ∈ xs then 1 + (t.uses.map (szB H)).sum else 0) + ((xs.filter fun x => decide (x ≠ t.box) && decide (x ∉ t.uses)).map (szB H)).sum
  | [], _ => by simp
  | x :: xs, hn => by
    rw [List.nodup_cons] at hn
    have ih := sz_sum (k := k) c xs hn.2
    rw [List.map_cons, List.sum_cons]
    by_cases hb : x = t.box
    · have hno : t.box ∉ xs := by rw [← hb]; exact hn.1
      rw [if_neg hno] at ih
      have e1 : szB (t.bk k H) x = 1 + (t.uses.map (szB H)).sum := by
        unfold szB
        rw [hb, show t.bk k H t.box = some (t.bval k H) from putB_eq]
        cases t with
        | num b v => rfl
        | nam b c => rfl
        | ask b => rfl
        | say b x =>
          obtain ⟨r, hr⟩ := c.us x (by simp [Stp.uses])
          simp [Stp.bval, Stp.uses, hr, Sm.sz]
        | bin b o x y =>
          obtain ⟨r, hr⟩ := c.us x (by simp [Stp.uses])
          obtain ⟨r2, hr2⟩ := c.us y (by simp [Stp.uses])
          simp [Stp.bval, Stp.uses, hr, hr2, Sm.sz]
          omega
      have e2 : ((x :: xs).filter fun x => decide (x ≠ t.box) && decide (x ∉ t.uses)) = xs.filter fun x => decide (x ≠ t.box) && decide (x ∉ t.uses) := by
        rw [List.filter_cons, if_neg (by simp [hb])]
      rw [e2, if_pos (by rw [hb]; simp), e1]
      omega
    · have e3 : (t.box ∈ x :: xs) ↔ t.box ∈ xs := by
        rw [List.mem_cons]
        exact ⟨fun z => z.resolve_left fun q => hb q.symm, .inr⟩
      have hbk : t.bk k H x = t.bleft H x := putB_ne fun z => hb z.symm
      by_cases hu : x ∈ t.uses
      · have e1 : szB (t.bk k H) x = 0 := by unfold szB; rw [hbk, bleft_used hu]
        have e2 : ((x :: xs).filter fun x => decide (x ≠ t.box) && decide (x ∉ t.uses)) = xs.filter fun x => decide (x ≠ t.box) && decide (x ∉ t.uses) := by
          rw [List.filter_cons, if_neg (by simp [hu])]
        rw [e1, e2]
        simp only [e3]
        omega
      · have e1 : szB (t.bk k H) x = szB H x := by unfold szB; rw [hbk, bleft_keep hu]
        have e2 : ((x :: xs).filter fun x => decide (x ≠ t.box) && decide (x ∉ t.uses)) = x :: xs.filter fun x => decide (x ≠ t.box) && decide (x ∉ t.uses) := by
          rw [List.filter_cons, if_pos (by simp [hb, hu])]
        rw [e1, e2, List.map_cons, List.sum_cons]
        simp only [e3]
        omega
theorem held_sz : ∀ (l : List Stp) (k : Int) (H : Bk) (N : Nat), (∀ xs : List Int, xs.Nodup → (xs.map (szB H)).sum ≤ N) → bcan (labs k l) H → ∀ xs : List Int, xs.Nodup → (xs.map (szB (brun (labs k l) H))).sum ≤ N + l.length
  | [], _, _, _, h, _ => h
  | t :: l, k, H, N, h, c => fun xs hx => by
    have ct : t.can H := c.1
    have := held_sz l (k + 1) (t.bk k H) (N + 1) (fun ys hy => by
      have h1 := sz_sum (k := k) ct ys hy
      have h2 := h (t.uses ++ ys.filter fun x => decide (x ≠ t.box) && decide (x ∉ t.uses)) (by
        rw [List.nodup_append]
        refine ⟨ct.nd, hy.filter _, fun a ha b hb e => ?_⟩
        have := (List.mem_filter.mp hb).2
        simp only [Bool.and_eq_true, decide_eq_true_eq] at this
        exact this.2 (e ▸ ha))
      rw [List.map_append, List.sum_append] at h2
      have h3 : (if t.box ∈ ys then 1 + (t.uses.map (szB H)).sum else 0) ≤ 1 + (t.uses.map (szB H)).sum := by split <;> omega
      omega) c.2 xs hx
    rw [List.length_cons]
    show _ ≤ N + (l.length + 1)
    have e : brun (labs k (t :: l)) H = brun (labs (k + 1) l) (t.bk k H) := rfl
    rw [e]
    omega
theorem whole_sz {l : List Stp} {s : Sm} {es : List Int} (w : bcan (labs 0 l) noB) (h : brun (labs 0 l) noB (lastBox l) = some (s, es)) : s.sz ≤ l.length := by
  have z : ∀ xs : List Int, (xs.map (szB noB)).sum ≤ 0 := fun xs => by
    induction xs with
    | nil => exact Nat.le_refl _
    | cons x xs ih =>
      rw [List.map_cons, List.sum_cons, show szB noB x = 0 from rfl, Nat.zero_add]
      exact ih
  have := held_sz l 0 noB 0 (fun xs _ => z xs) w [lastBox l] (by simp)
  simp only [List.map_cons, List.map_nil, List.sum_cons, List.sum_nil] at this
  unfold szB at this
  rw [h] at this
  simpa using this
end DL

/-! xs[::-1] -/
namespace DL
open PySem L2
theorem de_revL {P : Pr} {M : Mp} {Q : D → Mp → Prop} {ε : DSt} {te : TE} (h : DE P te ε M fun x M1 => ∃ xs, IsL M1 x xs ∧ Q (.lst .own xs.reverse) M1) : DE P (tRevL P.K te) ε M Q := fun σ H R a k => by
  refine h σ H _ a fun v d M1 H1 t1 g1 e1 h1 => ?_
  obtain ⟨xs, hx, q⟩ := h1
  obtain ⟨p, vs, rfl, h2, r2⟩ := hx.at t1 g1
  refine ⟨p, vs, rfl, SqL.of h2, fun b hb => ?_⟩
  exact k _ (.lst .own xs.reverse) M1 _ (.lst (k := .own) ⟨g1.free hb, upd_same, g1.base _ hb⟩ (r2.reverse.ext (ext_new hb))) (g1.new hb) (e1.trans (ext_new hb)) q
end DL

namespace Lw
open PySem L2 DL
def top (i : Nat) : Stmt := PySem.Challenge.pw_stepnames_k10_whole_which_steps_are_a_su.main.body.getD i (.Pass ⟨0, 0, 0, 0⟩)
/-- what the top has written: its constants; the built-ins that it leaves -/
structure Tx (w : World) (K : PySem.W.Frag) (mg : Str → Option Value) (aP aS : Addr) (es : Array DictEntry) (n : Nat) : Prop where
  b_len : mg "len" = none
  b_isinstance : mg "isinstance" = none
  b_list : mg "list" = none
  b_tuple : mg "tuple" = none
  b_str : mg "str" = none
  b_int : mg "int" = none
  b_bool : mg "bool" = none
  b_range : mg "range" = none
  b_max : mg "max" = none
  b_min : mg "min" = none
  b_sorted : mg "sorted" = none
  b_set : mg "set" = none
  b_enumerate : mg "enumerate" = none
  b_reversed : mg "reversed" = none
  b_dict : mg "dict" = none
  g_WHEEL : ∃ t, mg "WHEEL" = some (.int 1000 t)
  g_LETTERS : ∃ t, mg "LETTERS" = some (.str "abcdef" t)
  g_PAIRS : mg "PAIRS" = some (.ref aP)
  k_PAIRS : KTup K aP [.str "add", .str "less", .str "times"]
  g_SIZES : mg "SIZES" = some (.ref aS)
  d_SIZES : KDict K w aS es n
  f_SIZES : ∀ x, KF es x (sizeOf' x)
  g_MOST_SUMS : ∃ t, mg "MOST_SUMS" = some (.int 60 t)
  g_MOST_WITHIN : ∃ t, mg "MOST_WITHIN" = some (.int 15 t)
  g_MOST_STEPS : ∃ t, mg "MOST_STEPS" = some (.int 200 t)
theorem de_pairs {P : Pr} {w : World} {mg : Str → Option Value} {aP aS : Addr} {es : Array DictEntry} {n0 : Nat} {M : Mp} {ε : DSt} {Q : D → Mp → Prop} (T : Tx w P.K mg aP aS es n0) (q : Q (.tup [.str "add", .str "less", .str "times"]) M) : DE P (tC (.ref aP)) ε M Q :=
  de_kflat (ds := [.str "add", .str "less", .str "times"]) T.k_PAIRS rfl rfl q

local macro_rules | `(tactic| walk_at "kit") => `(tactic| first | (with_reducible exact kit_NoneType_int) | (with_reducible exact kit_NoneType_bool) | (with_reducible exact kit_NoneType_str) | (with_reducible exact kit_NoneType_tuple) | (with_reducible exact kit_NoneType_list) | (with_reducible exact kit_bool_int) | (with_reducible exact kit_bool_bool) | (with_reducible exact kit_bool_str) | (with_reducible exact kit_bool_tuple) | (with_reducible exact kit_bool_list) | (with_reducible exact kit_int_int) | (with_reducible exact kit_int_bool) | (with_reducible exact kit_int_str) | (with_reducible exact kit_int_tuple) | (with_reducible exact kit_int_list) | (with_reducible exact kit_str_int) | (with_reducible exact kit_str_bool) | (with_reducible exact kit_str_str) | (with_reducible exact kit_str_tuple) | (with_reducible exact kit_str_list) | (with_reducible exact kit_tuple_int) | (with_reducible exact kit_tuple_bool) | (with_reducible exact kit_tuple_str) | (with_reducible exact kit_tuple_tuple) | (with_reducible exact kit_tuple_list) | (with_reducible exact kit_list_int) | (with_reducible exact kit_list_bool) | (with_reducible exact kit_list_str) | (with_reducible exact kit_list_tuple) | (with_reducible exact kit_list_list) | (with_reducible exact kit_dict_int) | (with_reducible exact kit_dict_bool) | (with_reducible exact kit_dict_str) | (with_reducible exact kit_dict_tuple) | (with_reducible exact kit_dict_list))
local macro_rules | `(tactic| walk_at "dx1") => `(tactic| first
  | (with_reducible refine ds_seq ?_) | (with_reducible refine ds_ret ?_) | (with_reducible refine ds_if ?_) | (with_reducible refine ds_asg ?_) | (with_reducible refine ds_drop ?_) | (with_reducible refine ds_next ?_) | (with_reducible refine ds_par ?_)
  | (with_reducible refine dg_name ?_)
  | (with_reducible refine de_op ?_) | (with_reducible refine de_un ?_) | (with_reducible refine de_cb ?_) | (with_reducible refine da_cons ?_) | (with_reducible refine da_nil ?_)
  | ((with_reducible refine' de_var ?hv ?_); (case hv => exact rfl)) | (with_reducible refine de_int ?_) | (with_reducible refine de_str ?_) | (with_reducible refine de_bl ?_) | (with_reducible refine de_non ?_)
  | (with_reducible refine de_if ?_) | (with_reducible refine de_and ?_) | (with_reducible refine de_or ?_) | (with_reducible refine de_not ?_) | (with_reducible refine de_chain ?_)
  | (with_reducible refine dt_test ?_) | (with_reducible refine dt_B ?_) | (with_reducible refine dt_and ?_) | (with_reducible refine dt_or ?_) | (with_reducible refine dt_not ?_) | (with_reducible refine dt_yes ?_)
  | (with_reducible refine d2_eq_int ?_) | (with_reducible refine d2_eq_str ?_) | (with_reducible refine d2_ne_int ?_) | (with_reducible refine d2_ne_str ?_)
  | (with_reducible refine d2_add_int ?_) | (with_reducible refine d2_sub ?_) | (with_reducible refine d2_lt ?_) | (with_reducible refine d2_le ?_) | (with_reducible refine d2_gt ?_) | (with_reducible refine d2_ge ?_)
  | (with_reducible refine ⟨_, rfl, ?_⟩)
  | (with_reducible refine dl_max2 ?_) | (with_reducible refine dl_min2 ?_) | (with_reducible refine dgs_cons ?_) | (with_reducible refine dgs_nil ?_)
  | (with_reducible refine de_tyT ?_) | (with_reducible refine d2_eq_bl ?_) | (with_reducible refine d2_ne_bl ?_) | (with_reducible refine d2_isN0 ?_) | (with_reducible refine d2_notN0 ?_) | (with_reducible refine d2_isN (.inr (.inl ⟨_, rfl⟩)) ?_) | (with_reducible refine d2_isN (.inr (.inr (.inl ⟨_, rfl⟩))) ?_) | (with_reducible refine d2_isN (.inl ⟨_, rfl⟩) ?_) | (with_reducible refine d2_isN (.inr (.inr (.inr (.inl ⟨_, rfl⟩)))) ?_)
  | ((with_reducible refine' dl_isi2 ?ht ?hb ?hc ?_); (case ht => first | assumption | exact rfl); (case hb => walk_at "kit"); (case hc => walk_at "kit"))
  | ((with_reducible refine' dl_isi ?ht ?hb ?_); (case ht => first | assumption | exact rfl); (case hb => walk_at "kit"))
  | (with_reducible refine dl_len (.frz _) ?_) | (with_reducible refine dl_len (.lst (.own _)) ?_) | (with_reducible refine dl_len (.lst (.arg _)) ?_) | ((with_reducible refine' dl_len (.lst (.cell ?hc)) ?_); (case hc => first | assumption | (with_reducible exact updM_same) | (with_reducible exact M2_b) | (with_reducible exact M2_a (by assumption))))
  | (with_reducible refine dl_len (.tup _) ?_) | ((with_reducible refine' dl_lenS ?hv ?_); (case hv => assumption))
  | ((with_reducible refine' d2_ix (.tup _) ?hv ?_); (case hv => first | (with_reducible exact at0) | (with_reducible exact at1) | (with_reducible exact at2) | (with_reducible exact at3) | exact rfl))
  | ((with_reducible refine' d2_ix (.lst (.cell ?hc)) ?hv ?_); (case hc => first | assumption | (with_reducible exact updM_same) | (with_reducible exact M2_b) | (with_reducible exact M2_a (by assumption))); (case hv => first | (with_reducible exact at0) | (with_reducible exact at1) | (with_reducible exact at2) | (with_reducible exact at3) | exact rfl))
  | (with_reducible refine de_sl ?_) | (with_reducible refine do_none ?_) | (with_reducible refine do_part ?_) | (with_reducible refine dsl_tup ?_) | (with_reducible refine dl_list (.tup _) ?_)
  | (with_reducible refine de_pairs (by assumption) ?_) | (with_reducible refine de_val ?_)
  | (with_reducible refine ite_t rfl ?_) | (with_reducible refine ite_f rfl ?_) | (with_reducible refine ite_t (by assumption) ?_) | (with_reducible refine ite_f (by assumption) ?_)
  | (with_reducible refine de_kget2 (fn := sizeOf') (Tx.f_SIZES (by assumption)) ?_) | (with_reducible refine de_callP0 ?_) | (with_reducible refine de_callI0 ?_)
  | (with_reducible refine ite_t (by decide +kernel) ?_) | (with_reducible refine ite_f (by decide +kernel) ?_)
  | (with_reducible refine fz_ret rfl ?_))
local macro_rules | `(tactic| walk_at "dx") => `(tactic| repeat (walk_at "dx1"))
section
variable {P : Program} {w : World} {K : PySem.W.Frag} {mg : Str → Option Value} {base : Heap} {aP aS : Addr} {es : Array DictEntry} {n0 : Nat}

abbrev s_is_number : Stmt := top 15
abbrev N_is_number : List Str := ["number"]
theorem sc_is_number : FnScope N_is_number ["number"] (defScope s_is_number) := ⟨rfl, rfl, rfl, by decide +kernel, rfl, by decide +kernel, by decide +kernel⟩
def pNumber : Pq := fun ds Q _ => ∃ d t, ds = [d] ∧ tyD d = some t ∧ Q (.bl (numD d))
theorem ok_is_number (T : Tx w K mg aP aS es n0) (d : Dn K mg "is_number" s_is_number ["number"]) : Cd P w K mg base "is_number" 1 ["number"] (spP K pNumber) := cd_of d fun f fd F => by
  refine fnP F sc_is_number (fun ds Q X h => ?_) (fun cdv A outer s H E hr => ⟨_, (pss_one (ps_ret (pe_and (pe_callB (call_isi3k K) (by rfl) T.b_isinstance (by decide +kernel) (pa_cons (pv 0) (pa_cons (pe_bltn (v := .ty "int") (by rfl) T.b_int (by decide +kernel) rfl) pa_nil))) (pe_and (pe_not (pe_callB (call_isi3k K) (by rfl) T.b_isinstance (by decide +kernel) (pa_cons (pv 0) (pa_cons (pe_bltn (v := .ty "bool") (by rfl) T.b_bool (by decide +kernel) rfl) pa_nil)))) (pe_one (pe_chain op_le op_lt pe_int (pv 0) (pe_gint rfl T.g_WHEEL))))))), fun B ds Qd Xd h => ?_⟩)
  · obtain ⟨d, t, rfl, _⟩ := h
    rfl
  obtain ⟨d, t, rfl, ht, q⟩ := h
  cases d <;> cases ht
  all_goals (walk_at "dx")
  all_goals first | exact q | skip
  rename_i i
  have e : numD (.int i) = (decide (0 ≤ i) && decide (i < 1000)) := rfl
  refine ite_2 (fun c => ?_) (fun c => ?_) <;> (walk_at "dx")
  all_goals
    rw [e, c] at q
    exact q
abbrev s_is_letter : Stmt := top 16
abbrev N_is_letter : List Str := ["word"]
theorem sc_is_letter : FnScope N_is_letter ["word"] (defScope s_is_letter) := ⟨rfl, rfl, rfl, by decide +kernel, rfl, by decide +kernel, by decide +kernel⟩
def pLetter : Pq := fun ds Q _ => ∃ d, ds = [d] ∧ wfD d = true ∧ Q (.bl (letD d))
theorem ok_is_letter (T : Tx w K mg aP aS es n0) (d : Dn K mg "is_letter" s_is_letter ["word"]) : Cd P w K mg base "is_letter" 1 ["word"] (spP K pLetter) := cd_of d fun f fd F => by
  refine fnP F sc_is_letter (fun ds Q X h => ?_) (fun cdv A outer s H E hr => ⟨_, (pss_one (ps_ret (pe_and (pe_callB (call_isi3k K) (by rfl) T.b_isinstance (by decide +kernel) (pa_cons (pv 0) (pa_cons (pe_bltn (v := .ty "str") (by rfl) T.b_str (by decide +kernel) rfl) pa_nil))) (pe_and (pe_cmpR (op_eq3k K hr) (pe_callB (call_lenk K) (by rfl) T.b_len (by decide +kernel) (pa_cons (pv 0) pa_nil)) pe_int (nomark _)) (pe_one (pe_cmpR (op_in2k K) (pv 0) (pe_gstr rfl T.g_LETTERS) (by rfl))))))), fun B ds Qd Xd h => ?_⟩)
  · obtain ⟨d, rfl, _⟩ := h
    rfl
  obtain ⟨d, rfl, ht, q⟩ := h
  cases d <;> first | (exact absurd ht Bool.false_ne_true) | skip
  all_goals (walk_at "dx")
  all_goals first | exact q | skip
  rename_i x
  have hx : x.length ≤ 100000 := by
    have : x.length ≤ 1000 := by simpa [wfD] using ht
    omega
  walk_at "dx"
  refine ite_2 (fun c => ?_) (fun c => ?_)
  · have c1 : (x.length : Int) = 1 := of_decide_eq_true c
    obtain ⟨⟨l⟩⟩ := x
    have hl : l.length = 1 := by
      have : ((⟨⟨l⟩⟩ : Str).length : Int) = (l.length : Int) := rfl
      omega
    obtain ⟨c, rfl⟩ := List.length_eq_one_iff.mp hl
    walk_at "dx"
    refine d2_inS ?_
    walk_at "dx"
    exact q
  · have c1 : ¬ (x.length : Int) = 1 := of_decide_eq_false c
    have e : letD (.str x) = false := by
      obtain ⟨⟨l⟩⟩ := x
      have hl : ¬ l.length = 1 := by
        have : ((⟨⟨l⟩⟩ : Str).length : Int) = (l.length : Int) := rfl
        omega
      unfold letD
      match l, hl with
      | [], _ => rfl
      | [c], h => exact absurd rfl h
      | _ :: _ :: _, _ => rfl
    rw [e] at q
    walk_at "dx"
    exact q
abbrev s_is_whole : Stmt := top 17
abbrev N_is_whole : List Str := ["part"]
theorem sc_is_whole : FnScope N_is_whole ["part"] (defScope s_is_whole) := ⟨rfl, rfl, rfl, by decide +kernel, rfl, by decide +kernel, by decide +kernel⟩
def pWhole : Pq := fun ds Q _ => ∃ d, ds = [d] ∧ wfD d = true ∧ Q (.bl (wholeD d))
theorem ok_is_whole (T : Tx w K mg aP aS es n0) (d : Dn K mg "is_whole" s_is_whole ["part"]) (D_is_number : Cd P w K mg base "is_number" 1 ["number"] (spP K pNumber)) (D_is_letter : Cd P w K mg base "is_letter" 1 ["word"] (spP K pLetter)) :
    Cd P w K mg base "is_whole" 2 ["part"] (spP K pWhole) := cd_of d fun f fd F => by
  refine fnP F sc_is_whole (fun ds Q X h => ?_) (fun cdv A outer s H E hr => ⟨_, (pss_cons (ps_if (PW.pt (pw_or (pt_not (pt_val (pe_callB (call_isi3k K) (by rfl) T.b_isinstance (by decide +kernel) (pa_cons (pv 0) (pa_cons (pe_bltn (v := .ty "tuple") (by rfl) T.b_tuple (by decide +kernel) rfl) pa_nil))))) (pw_or (pt_cmpR (op_eq3k K hr) (pe_callB (call_lenk K) (by rfl) T.b_len (by decide +kernel) (pa_cons (pv 0) pa_nil)) pe_int (nomark _)) (pw_or1 (pt_not (pt_val (pe_callB (call_isi3k K) (by rfl) T.b_isinstance (by decide +kernel) (pa_cons (pe_ix (ix_seqk K) (pv 0) pe_int (fun _ _ => rfl)) (pa_cons (pe_bltn (v := .ty "str") (by rfl) T.b_str (by decide +kernel) rfl) pa_nil))))))))) (pss_one (ps_ret pe_bl)) pss_nil) (pss_cons (ps_if (pt_cmpR (op_ne3k K hr) (pe_kget2 T.d_SIZES rfl T.g_SIZES (pe_ix (ix_seqk K) (pv 0) pe_int (fun _ _ => rfl)) pe_int ⟨rfl, rfl, rfl, rfl⟩) (pe_callB (call_lenk K) (by rfl) T.b_len (by decide +kernel) (pa_cons (pv 0) pa_nil)) (nomark _)) (pss_one (ps_ret pe_bl)) pss_nil) (pss_cons (ps_if (pt_cmpR (op_eq3k K hr) (pe_ix (ix_seqk K) (pv 0) pe_int (fun _ _ => rfl)) pe_str (nomark _)) (pss_one (ps_ret (pe_cd D_is_number (hr.mono (by omega)) rfl passL (pa_cons (pe_ix (ix_seqk K) (pv 0) pe_int (fun _ _ => rfl)) pa_nil)))) pss_nil) (pss_one (ps_ret (pe_or (pe_cmpR (op_ne3k K hr) (pe_ix (ix_seqk K) (pv 0) pe_int (fun _ _ => rfl)) pe_str (nomark _)) (pe_one (pe_cd D_is_letter (hr.mono (by omega)) rfl passL (pa_cons (pe_ix (ix_seqk K) (pv 0) pe_int (fun _ _ => rfl)) pa_nil))))))))), fun B ds Qd Xd h => ?_⟩)
  · obtain ⟨d, rfl, _⟩ := h
    rfl
  obtain ⟨d, rfl, ht, q⟩ := h
  cases d <;> first | (exact absurd ht Bool.false_ne_true) | skip
  all_goals (walk_at "dx")
  all_goals first | exact q | skip
  rename_i ds
  cases ds with
  | nil =>
    walk_at "dx"
    exact q
  | cons h r =>
    have hn : decide ((((h :: r).length : Nat) : Int) = 0) = false := by
      rw [decide_eq_false_iff_not, List.length_cons]
      omega
    have hw := wf_tup ht
    have hw1 := wf_cons hw.1
    walk_at "dx"
    cases h <;> first | (exact absurd hw1.1 Bool.false_ne_true) | skip
    all_goals (walk_at "dx")
    all_goals first | exact q | skip
    rename_i x
    have e : wholeD (.tup (.str x :: r)) = if (match sizeOf' x with | some i => i | none => 0) = ((r.length + 1 : Nat) : Int) then (if x = "num" then numD (r.getD 0 .non) else if x = "name" then letD (r.getD 0 .non) else true) else false := rfl
    have one : ∀ {v : Int}, sizeOf' x = some v → v = 2 → v = ((r.length + 1 : Nat) : Int) → ∃ y, r = [y] ∧ wfD y = true := fun {v} _ h2 h3 => by
      have hl : r.length = 1 := by omega
      obtain ⟨y, rfl⟩ := List.length_eq_one_iff.mp hl
      exact ⟨y, rfl, (wf_cons hw1.2).1⟩
    rw [e] at q
    cases hs : sizeOf' x with
    | none =>
      rw [hs] at q
      have n0 : ¬ ((0 : Int) = ((r.length + 1 : Nat) : Int)) := by omega
      rw [if_neg n0] at q
      have c : (!decide ((0 : Int) = (((.str x :: r : List D).length : Nat) : Int))) = true := by
        rw [List.length_cons, decide_eq_false n0]
        rfl
      walk_at "dx"
      exact q
    | some v =>
      rw [hs] at q
      by_cases hv : v = ((r.length + 1 : Nat) : Int)
      · rw [if_pos hv] at q
        have c : (!decide (v = (((.str x :: r : List D).length : Nat) : Int))) = false := by
          rw [decide_eq_true (show v = (((.str x :: r : List D).length : Nat) : Int) from hv)]
          rfl
        walk_at "dx"
        by_cases h1 : x = "num"
        · obtain ⟨y, rfl, wy⟩ := one hs (by subst h1; exact (Option.some.inj (hs.symm.trans (by decide +kernel)))) hv
          rw [if_pos h1] at q
          have c1 := decide_eq_true h1
          walk_at "dx"
          obtain ⟨t, hy⟩ := wf_ty wy
          exact ⟨_, vws_refl (by simp [noLs, wf_noL wy]), y, t, rfl, hy, fz_ret rfl q⟩
        · rw [if_neg h1] at q
          have c1 := decide_eq_false h1
          walk_at "dx"
          by_cases h2 : x = "name"
          · obtain ⟨y, rfl, wy⟩ := one hs (by subst h2; exact (Option.some.inj (hs.symm.trans (by decide +kernel)))) hv
            rw [if_pos h2] at q
            refine ite_f (by rw [decide_eq_true h2]; rfl) ?_
            walk_at "dx"
            exact ⟨_, vws_refl (by simp [noLs, wf_noL wy]), y, rfl, wy, fz_ret rfl q⟩
          · rw [if_neg h2] at q
            refine ite_t (by rw [decide_eq_false h2]; rfl) ?_
            exact fz_ret rfl q
      · rw [if_neg hv] at q
        have c : (!decide (v = (((.str x :: r : List D).length : Nat) : Int))) = true := by
          rw [decide_eq_false (show ¬ v = (((.str x :: r : List D).length : Nat) : Int) from hv)]
          rfl
        walk_at "dx"
        exact q
abbrev s_within : Stmt := top 18
abbrev N_within : List Str := ["part"]
theorem sc_within : FnScope N_within ["part"] (defScope s_within) := ⟨rfl, rfl, rfl, by decide +kernel, rfl, by decide +kernel, by decide +kernel⟩
def pWithin : Pq := fun ds Q _ => ∃ x r, ds = [.tup (.str x :: r)] ∧ noLs r = true ∧ Q (.lst .own (kidsD (.tup (.str x :: r))))
theorem ok_within (T : Tx w K mg aP aS es n0) (d : Dn K mg "within" s_within ["part"]) : Cd P w K mg base "within" 1 ["part"] (spP K pWithin) := cd_of d fun f fd F => by
  refine fnP F sc_within (fun ds Q X h => ?_) (fun cdv A outer s H E hr => ⟨_, (pss_one (ps_ret (pe_ifExp (PW.pt (pw_or (pt_cmpR (op_in2k K) (pe_ix (ix_seqk K) (pv 0) pe_int (fun _ _ => rfl)) (pe_glob (v := .ref aP) rfl T.g_PAIRS rfl) (by rfl)) (pw_or1 (pt_cmpR (op_eq3k K hr) (pe_ix (ix_seqk K) (pv 0) pe_int (fun _ _ => rfl)) pe_str (nomark _))))) (pe_callTy (call_listk K) (by rfl) T.b_list (by decide +kernel) (pa_cons (pe_slice (sl_3k K) (pv 0) (po_some pe_int) po_none) pa_nil)) (pe_lst pa_nil)))), fun B ds Qd Xd h => ?_⟩)
  · obtain ⟨x, r, rfl, _⟩ := h
    rfl
  obtain ⟨x, r, rfl, ht, q⟩ := h
  walk_at "dx"
  refine d2_in (.tup _) rfl rfl ?_
  refine ⟨_, rfl, ?_⟩
  show (if inV (.str x) [.str "add", .str "less", .str "times"] = true then _ else _)
  rw [inV3]
  have e : kidsD (.tup (.str x :: r)) = if x = "add" ∨ x = "less" ∨ x = "times" ∨ x = "say" then r else [] := rfl
  rw [e] at q
  by_cases h1 : x = "add" ∨ x = "less" ∨ x = "times"
  · have c : (decide (x = "add") || (decide (x = "less") || decide (x = "times"))) = true := by
      rcases h1 with h | h | h
      · rw [decide_eq_true h]; rfl
      · rw [decide_eq_true h, Bool.true_or, Bool.or_true]
      · rw [decide_eq_true h, Bool.or_true, Bool.or_true]
    rw [if_pos (by rcases h1 with h | h | h; exact .inl h; exact .inr (.inl h); exact .inr (.inr (.inl h)))] at q
    walk_at "dx"
    rw [cut1]
    exact fz_lst ht q
  · have c : (decide (x = "add") || (decide (x = "less") || decide (x = "times"))) = false := by
      rw [not_or, not_or] at h1
      rw [decide_eq_false h1.1, decide_eq_false h1.2.1, decide_eq_false h1.2.2]
      rfl
    walk_at "dx"
    by_cases h2 : x = "say"
    · rw [if_pos (.inr (.inr (.inr h2)))] at q
      refine ite_t (decide_eq_true h2) ?_
      walk_at "dx"
      rw [cut1]
      exact fz_lst ht q
    · rw [if_neg (by rw [not_or, not_or] at h1; rintro (h | h | h | h); exact h1.1 h; exact h1.2.1 h; exact h1.2.2 h; exact h2 h)] at q
      refine ite_f (decide_eq_false h2) ?_
      refine de_lst ?_
      refine da_nil ⟨by decide, ?_⟩
      exact fz_lst rfl q

abbrev s__law_kind : Stmt := top 41
abbrev N__law_kind : List Str := ["_law_work", "e", "_law_kinds", "_law_words", "_law_word"]
theorem sc__law_kind : FnScope N__law_kind ["_law_work"] (defScope s__law_kind) := ⟨rfl, rfl, rfl, by decide +kernel, rfl, by decide +kernel, by decide +kernel⟩
theorem kind_givesF {X : Cx} {g : Addr} {cdg : Value} {q : Str} {CS Ex0 Ex1 Ex2 Ex3 Ex4 Ex5 : Addr} (Kk : Ks X.K X.mg CS Ex0 Ex1 Ex2 Ex3 Ex4 Ex5) : LamX.GivesTo X N__law_kind "_law_kind" (defScope s__law_kind) g cdg (defBody s__law_kind) "_law_work" q (TTf X.K CS (KdW X.K CS Ex0 Ex1 Ex2 Ex3 Ex4 Ex5) (KindF X.K CS Ex0 Ex1 Ex2 Ex3 Ex4 Ex5)) := by
  intro f c1 s H Q tl act hc h
  refine ⟨_, pss_one (ps_try_as (X := (cxOf C8.CX0 X.prog X.w X.K X.mg X.base N__law_kind "_law_kind" (defScope s__law_kind) g cdg X.A X.stack s H C8.E0).nox) (c := .ref CS) (i := 1) (n := "e") (tb := fun W D σ H => ∃ Ey : XK, (∀ k d σ' H', Ey k d H' → σ'.length = 5 → W k d σ' H') ∧ (σ[0]? = some (some (.ref f)) ∧ H c1 = some (LamX.CodeO c1 q)) ∧ tl Ey H D.rt)
      rfl rfl sc__law_kind.nd rfl rfl ⟨rfl, by decide, .inl Kk.g_StepError⟩ LamX.takes0 (fun W pn xe tk _ => ?_) (fun a oe cls d pn hz hf => pss_exor (α := Addr × Str) (β := Addr × Addr × Str × Str) (Pp := fun x => cls = .ref x.1 ∧ d = none ∧ KdW X.K CS Ex0 Ex1 Ex2 Ex3 Ex4 Ex5 x.1 x.2) (Pq := fun y => cls = .ref y.1 ∧ d = some y.2.1 ∧ KindF X.K CS Ex0 Ex1 Ex2 Ex3 Ex4 Ex5 y.1 y.2.2.1 y.2.2.2) (fun x hx => (pss_cons (ps_set (i := 2) sc__law_kind.nd rfl (Or.inl rfl) (pe_lst (pa_cons (pe_callB (call_isEk X.K (kd_ec hx.2.2) (zc_of hz hx.1 hx.2.1) hf) (by rfl) Kk.b_isinstance (by decide +kernel) (pa_cons (pv 1) (pa_cons (pe_glob (v := .ref Ex0) rfl Kk.g_BadSum rfl) pa_nil))) (pa_cons (pe_callB (call_isEk X.K (kd_ec hx.2.2) (zc_of hz hx.1 hx.2.1) hf) (by rfl) Kk.b_isinstance (by decide +kernel) (pa_cons (pv 1) (pa_cons (pe_glob (v := .ref Ex1) rfl Kk.g_BadSteps rfl) pa_nil))) (pa_cons (pe_callB (call_isEk X.K (kd_ec hx.2.2) (zc_of hz hx.1 hx.2.1) hf) (by rfl) Kk.b_isinstance (by decide +kernel) (pa_cons (pv 1) (pa_cons (pe_glob (v := .ref Ex2) rfl Kk.g_NoName rfl) pa_nil))) (pa_cons (pe_callB (call_isEk X.K (kd_ec hx.2.2) (zc_of hz hx.1 hx.2.1) hf) (by rfl) Kk.b_isinstance (by decide +kernel) (pa_cons (pv 1) (pa_cons (pe_glob (v := .ref Ex3) rfl Kk.g_NoMore rfl) pa_nil))) pa_nil)))))) (pss_cons (ps_set (i := 2) sc__law_kind.nd rfl (Or.inl rfl) (pe_op (op_add4k X.K) (pv 2) (pe_lst (pa_cons (pe_callB (call_isEk X.K (kd_ec hx.2.2) (zc_of hz hx.1 hx.2.1) hf) (by rfl) Kk.b_isinstance (by decide +kernel) (pa_cons (pv 1) (pa_cons (pe_glob (v := .ref Ex4) rfl Kk.g_NoSum rfl) pa_nil))) (pa_cons (pe_callB (call_isEk X.K (kd_ec hx.2.2) (zc_of hz hx.1 hx.2.1) hf) (by rfl) Kk.b_isinstance (by decide +kernel) (pa_cons (pv 1) (pa_cons (pe_glob (v := .ref Ex5) rfl Kk.g_BadText rfl) pa_nil))) pa_nil))))) (pss_cons (ps_set (i := 3) sc__law_kind.nd rfl (Or.inl rfl) (pe_lst (pa_cons pe_str (pa_cons pe_str (pa_cons pe_str (pa_cons pe_str (pa_cons pe_str (pa_cons pe_str pa_nil)))))))) (pss_cons (ps_if (PW.pt (pw_or (pt_cmpR op_ne (pe_bmk X.K PySem.F.plainAttrs_list PySem.F.slot_list_count PySem.F.type_list_count (mt_countFk X.K) (pv 2) (pa_cons pe_bl pa_nil)) pe_int (nomark _)) (pw_or1 (pt_not (pt_val (pe_callB (call_isEk X.K (kd_ec hx.2.2) (zc_of hz hx.1 hx.2.1) hf) (by rfl) Kk.b_isinstance (by decide +kernel) (pa_cons (pv 1) (pa_cons (pe_bltn (v := .ty "ValueError") (by rfl) Kk.b_ValueError (by decide +kernel) rfl) pa_nil)))))))) (pss_one (ps_ret pe_str)) pss_nil) (pss_cons (ps_set (i := 4) sc__law_kind.nd rfl (Or.inl rfl) (pe_ix (ix_seqk X.K) (pv 3) (pe_bmk X.K PySem.F.plainAttrs_list PySem.F.slot_list_index PySem.F.type_list_index (mt_indexk X.K) (pv 2) (pa_cons pe_bl pa_nil)) (fun _ _ => rfl))) (pss_cons (ps_if (pt_cmpR op_eq (pv 4) pe_str (nomark _)) (pss_one (ps_ret (pe_tup (pa_cons (pv 4) (pa_cons (pe_fldk X.K (pv 1) rfl) pa_nil))))) pss_nil) (pss_one (ps_ret (pe_ifExp (pt_cmpR op_eq (pv 4) pe_str (nomark _)) (pe_tup (pa_cons (pv 4) (pa_cons (pe_fldk X.K (pv 1) rfl) pa_nil))) (pv 4))))))))))) (fun y hy => (pss_cons (ps_set (i := 2) sc__law_kind.nd rfl (Or.inl rfl) (pe_lst (pa_cons (pe_callB (call_isFk X.K hy.2.2.ec (zc_ofF hz hy.1 hy.2.1) hf) (by rfl) Kk.b_isinstance (by decide +kernel) (pa_cons (pv 1) (pa_cons (pe_glob (v := .ref Ex0) rfl Kk.g_BadSum rfl) pa_nil))) (pa_cons (pe_callB (call_isFk X.K hy.2.2.ec (zc_ofF hz hy.1 hy.2.1) hf) (by rfl) Kk.b_isinstance (by decide +kernel) (pa_cons (pv 1) (pa_cons (pe_glob (v := .ref Ex1) rfl Kk.g_BadSteps rfl) pa_nil))) (pa_cons (pe_callB (call_isFk X.K hy.2.2.ec (zc_ofF hz hy.1 hy.2.1) hf) (by rfl) Kk.b_isinstance (by decide +kernel) (pa_cons (pv 1) (pa_cons (pe_glob (v := .ref Ex2) rfl Kk.g_NoName rfl) pa_nil))) (pa_cons (pe_callB (call_isFk X.K hy.2.2.ec (zc_ofF hz hy.1 hy.2.1) hf) (by rfl) Kk.b_isinstance (by decide +kernel) (pa_cons (pv 1) (pa_cons (pe_glob (v := .ref Ex3) rfl Kk.g_NoMore rfl) pa_nil))) pa_nil)))))) (pss_cons (ps_set (i := 2) sc__law_kind.nd rfl (Or.inl rfl) (pe_op (op_add4k X.K) (pv 2) (pe_lst (pa_cons (pe_callB (call_isFk X.K hy.2.2.ec (zc_ofF hz hy.1 hy.2.1) hf) (by rfl) Kk.b_isinstance (by decide +kernel) (pa_cons (pv 1) (pa_cons (pe_glob (v := .ref Ex4) rfl Kk.g_NoSum rfl) pa_nil))) (pa_cons (pe_callB (call_isFk X.K hy.2.2.ec (zc_ofF hz hy.1 hy.2.1) hf) (by rfl) Kk.b_isinstance (by decide +kernel) (pa_cons (pv 1) (pa_cons (pe_glob (v := .ref Ex5) rfl Kk.g_BadText rfl) pa_nil))) pa_nil))))) (pss_cons (ps_set (i := 3) sc__law_kind.nd rfl (Or.inl rfl) (pe_lst (pa_cons pe_str (pa_cons pe_str (pa_cons pe_str (pa_cons pe_str (pa_cons pe_str (pa_cons pe_str pa_nil)))))))) (pss_cons (ps_if (PW.pt (pw_or (pt_cmpR op_ne (pe_bmk X.K PySem.F.plainAttrs_list PySem.F.slot_list_count PySem.F.type_list_count (mt_countFk X.K) (pv 2) (pa_cons pe_bl pa_nil)) pe_int (nomark _)) (pw_or1 (pt_not (pt_val (pe_callB (call_isFk X.K hy.2.2.ec (zc_ofF hz hy.1 hy.2.1) hf) (by rfl) Kk.b_isinstance (by decide +kernel) (pa_cons (pv 1) (pa_cons (pe_bltn (v := .ty "ValueError") (by rfl) Kk.b_ValueError (by decide +kernel) rfl) pa_nil)))))))) (pss_one (ps_ret pe_str)) pss_nil) (pss_cons (ps_set (i := 4) sc__law_kind.nd rfl (Or.inl rfl) (pe_ix (ix_seqk X.K) (pv 3) (pe_bmk X.K PySem.F.plainAttrs_list PySem.F.slot_list_index PySem.F.type_list_index (mt_indexk X.K) (pv 2) (pa_cons pe_bl pa_nil)) (fun _ _ => rfl))) (pss_cons (ps_if (pt_cmpR op_eq (pv 4) pe_str (nomark _)) (pss_one (ps_ret (pe_tup (pa_cons (pv 4) (pa_cons (pe_xf hy.2.2.xf hy.2.2.n1 (zc_ofF hz hy.1 hy.2.1) hf (pv 1)) pa_nil))))) pss_nil) (pss_one (ps_ret (pe_ifExp (pt_cmpR op_eq (pv 4) pe_str (nomark _)) (pe_tup (pa_cons (pv 4) (pa_cons (pe_xf hy.2.2.xf hy.2.2.n2 (zc_ofF hz hy.1 hy.2.1) hf (pv 1)) pa_nil))) (pv 4))))))))))))), ?_⟩
  · refine ⟨fun pins s' σ H' D I ⟨Ey, hW, ⟨h1, h2⟩, h3⟩ => ?_⟩
    exact (pss_one (ps_ret (act _ pn xe Ey _ _ (takes_len tk) hW))).run pins s' σ H' D I ⟨h1, h2, h3⟩
  · refine ⟨fun cls d H' => ∃ C, cls = .ref C ∧ PySem.W.exmOne X.K cls (.ref CS) = some true ∧ ((d = none ∧ ∃ w, KdW X.K CS Ex0 Ex1 Ex2 Ex3 Ex4 Ex5 C w ∧ ∀ H'', Same H' H'' → Q (.str w) H'') ∨ ∃ dd w fl n, d = some dd ∧ KindF X.K CS Ex0 Ex1 Ex2 Ex3 Ex4 Ex5 C w fl ∧ H' dd = some (.xd [(fl, .int n)]) ∧ ∀ H'' v, Same H' H'' → Tr X.K H' mt H'' v (.tup [.str w, .int n]) → Q v H''), fun cls d σ1 H1 hE hlen => ?_, ⟨rfl, hc⟩, h⟩
    obtain ⟨C, rfl, hex, hE⟩ := hE
    rcases hE with ⟨rfl, wd, hk, hq⟩ | ⟨dd, wd, fl, n, rfl, hk, hx, hq⟩
    · refine ⟨true, hex, fun _ a ha => .inl ⟨(C, wd), ⟨rfl, rfl, hk⟩, ?_⟩, fun z => by cases z⟩
      obtain ⟨j, hj, kc, hw⟩ := hk
      have env : EnvR X.K H1 mt H1 (σ1.set 1 (some (.ref a))) [none, some (.val (.ref a)), none, none, none] := by
        refine ⟨by rw [List.length_set, hlen]; rfl, fun i d hi => ?_⟩
        match i, hi with
        | 0, hi => cases hi
        | 1, hi =>
          cases hi
          exact ⟨_, List.getElem?_set_self (by rw [hlen]; decide), .val _⟩
        | 2, hi => cases hi
        | 3, hi => cases hi
        | 4, hi => cases hi
        | n + 5, hi => simp at hi
      have i0 := kc.is 0 Ex0 (j == 0) rfl rfl
      have i1 := kc.is 1 Ex1 (j == 1) rfl rfl
      have i2 := kc.is 2 Ex2 (j == 2) rfl rfl
      have i3 := kc.is 3 Ex3 (j == 3) rfl rfl
      have i4 := kc.is 4 Ex4 (j == 4) rfl rfl
      have i5 := kc.is 5 Ex5 (j == 5) rfl rfl
      have g0 : Good X.K H1 mt H1 := ⟨fun _ h => h, fun _ _ h => by cases h⟩
      refine (show DS ⟨X.K, H1, E0, X0⟩ _ { nx := fun _ _ => False, rt := fun d _ => d = .str wd } _ mt from ?_) _ H1 _ ⟨env, g0, link0⟩ ⟨fun _ _ _ _ _ _ _ q => q.elim, fun v d M2 H2 t g e q => ?_, fun _ _ _ _ _ _ _ q => q.elim, fun _ _ _ _ _ _ _ q => q.elim⟩
      · dsimp only
        refine ds_seq (ds_asg (de_lst ?_))
        walk_at "dx"
        refine dl_isE i0 ?_
        walk_at "dx"
        refine dl_isE i1 ?_
        walk_at "dx"
        refine dl_isE i2 ?_
        walk_at "dx"
        refine dl_isE i3 ?_
        walk_at "dx"
        refine ⟨by simp, ?_⟩
        walk_at "dx"
        refine de_lst ?_
        walk_at "dx"
        refine dl_isE i4 ?_
        walk_at "dx"
        refine dl_isE i5 ?_
        walk_at "dx"
        refine ⟨by simp, ?_⟩
        refine d2_add_lst (.own _) (.own _) (by simp) ?_
        walk_at "dx"
        refine de_lst ?_
        walk_at "dx"
        refine ⟨by simp, ?_⟩
        walk_at "dx"
        refine de_bm ?_
        walk_at "dx"
        refine ⟨ty_list (.own _), ?_⟩
        walk_at "dx"
        refine dm_count (.own _) rfl rfl ?_
        walk_at "dx"
        have kve := kc.ve
        clear i0 i1 i2 i3 i4 i5 kc
        have at_ : ∀ {xs : List D} {i : Nat} {d : D}, xs[i]? = some d → atI xs (i : Int) = some d := fun h => atI_nat h
        rcases hj with rfl | rfl | rfl | rfl
        all_goals (
          cases hw
          refine d2_ne0_int ?_
          refine ⟨_, rfl, ite_f (by decide +kernel) ?_⟩
          walk_at "dx"
          refine dl_isEt kve ?_
          walk_at "dx"
          refine de_bm ?_
          walk_at "dx"
          refine ⟨ty_list (.own _), ?_⟩
          walk_at "dx")
        · refine dm_index (j := 0) (.own _) rfl rfl rfl rfl (fun m z hm _ => absurd hm (Nat.not_lt_zero m)) ?_
          refine d2_ix (.lst (.own _)) (at_ (i := 0) rfl) ?_
          walk_at "dx"
          refine d2_eq0_str ?_
          refine ⟨_, rfl, ite_f (by decide +kernel) ?_⟩
          walk_at "dx"
          refine d2_eq0_str ?_
          refine ⟨_, rfl, ite_f (by decide +kernel) ?_⟩
          walk_at "dx"
          rfl
        · refine dm_index (j := 2) (.own _) rfl rfl rfl rfl (fun m z hm hz => ?_) ?_
          · match m, hm, hz with
            | 0, _, hz => cases hz; rfl
            | 1, _, hz => cases hz; rfl
          refine d2_ix (.lst (.own _)) (at_ (i := 2) rfl) ?_
          walk_at "dx"
          refine d2_eq0_str ?_
          refine ⟨_, rfl, ite_f (by decide +kernel) ?_⟩
          walk_at "dx"
          refine d2_eq0_str ?_
          refine ⟨_, rfl, ite_f (by decide +kernel) ?_⟩
          walk_at "dx"
          rfl
        · refine dm_index (j := 3) (.own _) rfl rfl rfl rfl (fun m z hm hz => ?_) ?_
          · match m, hm, hz with
            | 0, _, hz => cases hz; rfl
            | 1, _, hz => cases hz; rfl
            | 2, _, hz => cases hz; rfl
          refine d2_ix (.lst (.own _)) (at_ (i := 3) rfl) ?_
          walk_at "dx"
          refine d2_eq0_str ?_
          refine ⟨_, rfl, ite_f (by decide +kernel) ?_⟩
          walk_at "dx"
          refine d2_eq0_str ?_
          refine ⟨_, rfl, ite_f (by decide +kernel) ?_⟩
          walk_at "dx"
          rfl
        · refine dm_index (j := 4) (.own _) rfl rfl rfl rfl (fun m z hm hz => ?_) ?_
          · match m, hm, hz with
            | 0, _, hz => cases hz; rfl
            | 1, _, hz => cases hz; rfl
            | 2, _, hz => cases hz; rfl
            | 3, _, hz => cases hz; rfl
          refine d2_ix (.lst (.own _)) (at_ (i := 4) rfl) ?_
          walk_at "dx"
          refine d2_eq0_str ?_
          refine ⟨_, rfl, ite_f (by decide +kernel) ?_⟩
          walk_at "dx"
          refine d2_eq0_str ?_
          refine ⟨_, rfl, ite_f (by decide +kernel) ?_⟩
          walk_at "dx"
          rfl
      · subst q
        cases tr_str t
        exact hq H2 fun b o hb => (e b o rfl hb).2
    · refine ⟨true, hex, fun _ a ha => .inr ⟨(C, dd, wd, fl), ⟨rfl, rfl, hk⟩, ?_⟩, fun z => by cases z⟩
      have env : EnvR X.K H1 mt H1 (σ1.set 1 (some (.ref a))) [none, some (.val (.ref a)), none, none, none] := by
        refine ⟨by rw [List.length_set, hlen]; rfl, fun i d hi => ?_⟩
        match i, hi with
        | 0, hi => cases hi
        | 1, hi =>
          cases hi
          exact ⟨_, List.getElem?_set_self (by rw [hlen]; decide), .val _⟩
        | 2, hi => cases hi
        | 3, hi => cases hi
        | 4, hi => cases hi
        | n + 5, hi => simp at hi
      obtain ⟨j, hj, kc⟩ := hk.wh
      have i0 := kc.is 0 Ex0 (j == 0) rfl rfl
      have i1 := kc.is 1 Ex1 (j == 1) rfl rfl
      have i2 := kc.is 2 Ex2 (j == 2) rfl rfl
      have i3 := kc.is 3 Ex3 (j == 3) rfl rfl
      have i4 := kc.is 4 Ex4 (j == 4) rfl rfl
      have i5 := kc.is 5 Ex5 (j == 5) rfl rfl
      have g0 : Good X.K H1 mt H1 := ⟨fun _ h => h, fun _ _ h => by cases h⟩
      refine (show DS (prF X.K H1 dd [(fl, .int n)]) _ { nx := fun _ _ => False, rt := fun d M' => d = .tup [.str wd, .int n] } _ mt from ?_) _ H1 _ ⟨env, g0, linkF rfl hx⟩ ⟨fun _ _ _ _ _ _ _ q => q.elim, fun v d M2 H2 t g e q => ?_, fun _ _ _ _ _ _ _ q => q.elim, fun _ _ _ _ _ _ _ q => q.elim⟩
      · dsimp only
        refine ds_seq (ds_asg (de_lst (da_cons (de_isF ?_))))
        walk_at "dx"
        refine .inl ⟨_, _, rfl, i0, da_cons (de_isF ?_)⟩
        walk_at "dx"
        refine .inl ⟨_, _, rfl, i1, da_cons (de_isF ?_)⟩
        walk_at "dx"
        refine .inl ⟨_, _, rfl, i2, da_cons (de_isF ?_)⟩
        walk_at "dx"
        refine .inl ⟨_, _, rfl, i3, ?_⟩
        walk_at "dx"
        refine ⟨by simp, ?_⟩
        walk_at "dx"
        refine de_lst (da_cons (de_isF ?_))
        walk_at "dx"
        refine .inl ⟨_, _, rfl, i4, da_cons (de_isF ?_)⟩
        walk_at "dx"
        refine .inl ⟨_, _, rfl, i5, ?_⟩
        walk_at "dx"
        refine ⟨by simp, ?_⟩
        refine d2_add_lst (.own _) (.own _) (by simp) ?_
        walk_at "dx"
        refine de_lst ?_
        walk_at "dx"
        refine ⟨by simp, ?_⟩
        walk_at "dx"
        refine de_bm ?_
        walk_at "dx"
        refine ⟨ty_list (.own _), ?_⟩
        walk_at "dx"
        refine dm_count (.own _) rfl rfl ?_
        walk_at "dx"
        have kve := kc.ve
        clear i0 i1 i2 i3 i4 i5
        rcases hj with ⟨rfl, rfl, rfl⟩ | ⟨rfl, rfl, rfl⟩
        all_goals (
          refine d2_ne0_int ?_
          refine ⟨_, rfl, ite_f (by decide +kernel) ?_⟩
          refine dt_not (dt_B (de_isF ?_))
          walk_at "dx"
          refine .inr ⟨_, _, rfl, kve, ?_⟩
          walk_at "dx"
          refine de_bm ?_
          walk_at "dx"
          refine ⟨ty_list (.own _), ?_⟩
          walk_at "dx")
        · refine dm_index (j := 1) (.own _) rfl rfl rfl rfl (fun m z hm hz => ?_) ?_
          · match m, hm, hz with
            | 0, _, hz => cases hz; rfl
          refine d2_ix (.lst (.own _)) (atI_nat (j := 1) rfl) ?_
          walk_at "dx"
          refine d2_eq0_str ?_
          refine ⟨_, rfl, ite_t (by decide +kernel) ?_⟩
          walk_at "dx"
          refine de_tup ?_
          walk_at "dx"
          refine de_xf rfl ?_
          walk_at "dx"
          refine ⟨rfl, ?_⟩
          walk_at "dx"
          exact ⟨by simp, rfl⟩
        · refine dm_index (j := 5) (.own _) rfl rfl rfl rfl (fun m z hm hz => ?_) ?_
          · match m, hm, hz with
            | 0, _, hz => cases hz; rfl
            | 1, _, hz => cases hz; rfl
            | 2, _, hz => cases hz; rfl
            | 3, _, hz => cases hz; rfl
            | 4, _, hz => cases hz; rfl
          refine d2_ix (.lst (.own _)) (atI_nat (j := 5) rfl) ?_
          walk_at "dx"
          refine d2_eq0_str ?_
          refine ⟨_, rfl, ite_f (by decide +kernel) ?_⟩
          walk_at "dx"
          refine d2_eq0_str ?_
          refine ⟨_, rfl, ite_t (by decide +kernel) ?_⟩
          walk_at "dx"
          refine de_tup ?_
          walk_at "dx"
          refine de_xf rfl ?_
          walk_at "dx"
          refine ⟨rfl, ?_⟩
          walk_at "dx"
          exact ⟨by simp, rfl⟩
      · subst q
        have t2 : Tr X.K H1 mt H2 v (.tup [.str wd, .int n]) := by
          cases t with
          | tup h r => exact .tup (tupAt_mt h) (by cases r with | cons r1 r2 => cases r1; cases r2 with | cons r3 r4 => cases r3; cases r4; exact .cons (.str _) (.cons (.int _) .nil))
        exact hq H2 v (fun b o hb => (e b o rfl hb).2) t2

abbrev s__law_start : Stmt := top 38
abbrev N__law_start : List Str := ["_law_script", "_law_mixed", "_law_cell"]
theorem sc__law_start : FnScope N__law_start ["_law_script"] (defScope s__law_start) := ⟨rfl, rfl, rfl, by decide +kernel, rfl, by decide +kernel, by decide +kernel⟩
def pStart : Sq := fun ds M Q _ => ∃ ns : List Int, ds = [.lst .frz (ns.map .int)] ∧ ns.length ≤ 63 ∧ ∀ p c, M p = none → StOk ns c → Q (.val (.ref p)) (updM M p c)
theorem ok__law_start (T : Tx w K mg aP aS es n0) (d : Dn K mg "_law_start" s__law_start ["_law_script"]) : Cd P w K mg base "_law_start" 1 ["_law_script"] (spI K pStart) := cd_of d fun f fd F => by
  refine fnI F sc__law_start (fun ds M Q X h => ?_) (fun cdv A outer s H E hr => ⟨_, (pss_cons (ps_set (i := 1) sc__law_start.nd rfl (Or.inl rfl) pe_int) (pss_cons (ps_for PassesOwn.never rfl (pi_seqk K (pv 0)) (pg_name (i := 2) sc__law_start.nd rfl (Or.inl rfl)) (pss_one (ps_set (i := 1) sc__law_start.nd rfl (Or.inl rfl) (pe_op op_modN (pe_op (op_add4k K) (pe_op (op_add4k K) (pe_op op_mul2 (pv 1) pe_int) (pv 2)) pe_int) pe_int)))) (pss_one (ps_ret (pe_lst (pa_cons (pv 0) (pa_cons pe_int (pa_cons (pv 1) (pa_cons pe_int pa_nil))))))))), fun B ds M Qd Xd h => ?_⟩)
  · obtain ⟨ns, rfl, _⟩ := h
    rfl
  obtain ⟨ns, rfl, hl, q⟩ := h
  walk_at "dx"
  refine ds_for ?_
  refine di_seq ?_
  walk_at "dx"
  refine ⟨_, _, .lst _ _ _, fun i ε M' => ∃ (m : Int) (v : Option D), ε = [some (.lst .frz (ns.map .int)), some (.int m), v] ∧ M' = M ∧ 0 ≤ m ∧ m < 2147483647, ⟨1, none, rfl, rfl, by decide, by decide⟩, fun _ _ _ _ => trivial, ?_, ?_⟩
  · rintro i d ε M' hd ⟨m, v, rfl, rfl, h0, h1⟩
    rw [List.getElem?_map] at hd
    obtain ⟨z, hz, rfl⟩ : ∃ z, ns[i]? = some z ∧ D.int z = d := by
      cases q : ns[i]? with
      | none => rw [q] at hd; cases hd
      | some z => rw [q] at hd; exact ⟨z, rfl, Option.some.inj hd⟩
    walk_at "dx"
    refine d2_mul (.inl ⟨by omega, by omega⟩) ?_
    walk_at "dx"
    refine d2_modN (by decide) ?_
    walk_at "dx"
    have r := fmod_rng (i := m * 48271 + z + 7) (n := 2147483647) (by decide)
    exact ⟨_, _, rfl, rfl, r.1, r.2⟩
  · rintro ε M' ⟨m, v, rfl, rfl, h0, h1⟩
    walk_at "dx"
    refine de_lstC ?_
    walk_at "dx"
    exact ⟨by simp, fun p hp _ => q p _ hp ⟨⟨0, m, 0, rfl, by decide, h0, h1, by decide⟩, hl⟩⟩
abbrev s__law_drawn : Stmt := top 39
abbrev N__law_drawn : List Str := ["_law_state", "_law_many", "_law_found", "_law_cell"]
theorem sc__law_drawn : FnScope N__law_drawn ["_law_state", "_law_many"] (defScope s__law_drawn) := ⟨rfl, rfl, rfl, by decide +kernel, rfl, by decide +kernel, by decide +kernel⟩
def pDrawn : Sq := fun ds M Q _ => ∃ (ns : List Int) (a : Addr) (c : Cell) (n : Int), ds = [.val (.ref a), .int n] ∧ M a = some c ∧ StOk ns c ∧ 0 < n ∧ n < 1073741824 ∧ ∀ (r : Int) (c' : Cell), 0 ≤ r → r < n → StOk ns c' → Q (.int r) (updM M a c')
theorem ok__law_drawn (T : Tx w K mg aP aS es n0) (d : Dn K mg "_law_drawn" s__law_drawn ["_law_state", "_law_many"]) : Cd P w K mg base "_law_drawn" 1 ["_law_state", "_law_many"] (spI K pDrawn) := cd_of d fun f fd F => by
  refine fnI F sc__law_drawn (fun ds M Q X h => ?_) (fun cdv A outer s H E hr => ⟨_, (pss_cons (ps_if (pt_cmpR op_gt (pe_ix (ix_seqk K) (pv 0) pe_int (fun _ _ => rfl)) pe_int (nomark _)) (pss_cons (ps_set (i := 2) sc__law_drawn.nd rfl (Or.inl rfl) (pe_op op_modN (pe_ix (ix_seqk K) (pv 0) pe_int (fun _ _ => rfl)) (pv 1))) (pss_cons (ps_asg (pe_op op_fdivN (pe_ix (ix_seqk K) (pv 0) pe_int (fun _ _ => rfl)) (pv 1)) (pg_sub (pv 0) pe_int set_list)) (pss_one (ps_ret (pv 2))))) pss_nil) (pss_cons (ps_asg (pe_op (op_add4k K) (pe_ix (ix_seqk K) (pv 0) pe_int (fun _ _ => rfl)) pe_int) (pg_sub (pv 0) pe_int set_list)) (pss_cons (ps_if (pt_cmpR op_le (pe_ix (ix_seqk K) (pv 0) pe_int (fun _ _ => rfl)) (pe_callB (call_lenk K) (by rfl) T.b_len (by decide +kernel) (pa_cons (pe_ix (ix_seqk K) (pv 0) pe_int (fun _ _ => rfl)) pa_nil)) (nomark _)) (pss_cons (ps_set (i := 3) sc__law_drawn.nd rfl (Or.inl rfl) (pe_ix (ix_seqk K) (pe_ix (ix_seqk K) (pv 0) pe_int (fun _ _ => rfl)) (pe_op op_sub (pe_ix (ix_seqk K) (pv 0) pe_int (fun _ _ => rfl)) pe_int) (fun _ _ => rfl))) (pss_cons (ps_asg (pe_ifExp (pt_cmpR op_ge (pv 3) (pe_op op_pow pe_int pe_int) (nomark _)) (pe_op op_fdivN (pv 3) (pv 1)) pe_int) (pg_sub (pv 0) pe_int set_list)) (pss_one (ps_ret (pe_op op_modN (pv 3) (pv 1)))))) pss_nil) (pss_cons (ps_asg (pe_op op_modN (pe_op (op_add4k K) (pe_op op_mul2 (pe_ix (ix_seqk K) (pv 0) pe_int (fun _ _ => rfl)) pe_int) pe_int) pe_int) (pg_sub (pv 0) pe_int set_list)) (pss_one (ps_ret (pe_op op_modN (pe_op op_fdivN (pe_ix (ix_seqk K) (pv 0) pe_int (fun _ _ => rfl)) pe_int) (pv 1)))))))), fun B ds M Qd Xd h => ?_⟩)
  · obtain ⟨ns, a, c, n, rfl, _⟩ := h
    rfl
  obtain ⟨ns, a, _, n, rfl, hM, ⟨⟨c, m, l, rfl, hc, hm0, hm1, hl0⟩, hs⟩, hn0, hn1, q⟩ := h
  unfold stv at hM
  have hnn : ¬ n = 0 := by omega
  have hnd : CDivN l n := ⟨hnn, by omega⟩
  walk_at "dx"
  refine ite_2 (fun c1 => ?_) (fun c1 => ?_)
  · walk_at "dx"
    refine d2_modN hnn ?_
    walk_at "dx"
    refine d2_fdivN hnd ?_
    refine dg_setL ?_
    walk_at "dx"
    refine ⟨_, _, _, _, rfl, rfl, hM, rfl, ?_⟩
    walk_at "dx"
    have r := fmod_rng (i := l) hn0
    exact q _ _ r.1 r.2 ⟨⟨c, m, l.fdiv n, rfl, hc, hm0, hm1, fdiv_nn hn0 hl0⟩, hs⟩
  · walk_at "dx"
    refine dg_setL ?_
    walk_at "dx"
    refine ⟨_, _, _, _, rfl, rfl, hM, rfl, ?_⟩
    walk_at "dx"
    refine ite_2 (fun c2 => ?_) (fun c2 => ?_)
    · walk_at "dx"
      have c2' := Int.le_of_lt_add_one (Int.lt_add_one_of_le (of_decide_eq_true c2))
      rw [List.length_map] at c2'
      obtain ⟨d0, hd0, hdm⟩ := at_mem (xs := ns.map D.int) (i := c + 1 - 1) (by omega) (by rw [List.length_map]; omega)
      obtain ⟨z, _, rfl⟩ := List.mem_map.mp hdm
      refine d2_ix (.frz _) hd0 ?_
      walk_at "dx"
      refine d2_pow ⟨by decide, by decide, by decide⟩ ?_
      walk_at "dx"
      refine ite_2 (fun c3 => ?_) (fun c3 => ?_)
      · walk_at "dx"
        refine d2_fdivN hnd ?_
        refine dg_setL ?_
        walk_at "dx"
        refine ⟨_, _, _, _, rfl, rfl, updM_same, rfl, ?_⟩
        walk_at "dx"
        refine d2_modN hnn ?_
        walk_at "dx"
        rw [updM_updM]
        have r := fmod_rng (i := z) hn0
        have c3' : (10:Int) ^ (18:Int).toNat ≤ z := of_decide_eq_true c3
        have h18 : (0:Int) ≤ 10 ^ (18:Int).toNat := by decide
        exact q _ _ r.1 r.2 ⟨⟨c + 1, m, z.fdiv n, rfl, by omega, hm0, hm1, fdiv_nn hn0 (by omega)⟩, hs⟩
      · walk_at "dx"
        refine dg_setL ?_
        walk_at "dx"
        refine ⟨_, _, _, _, rfl, rfl, updM_same, rfl, ?_⟩
        walk_at "dx"
        refine d2_modN hnn ?_
        walk_at "dx"
        rw [updM_updM]
        have r := fmod_rng (i := z) hn0
        exact q _ _ r.1 r.2 ⟨⟨c + 1, m, 0, rfl, by omega, hm0, hm1, by decide⟩, hs⟩
    · walk_at "dx"
      refine d2_mul (.inl ⟨by omega, by omega⟩) ?_
      walk_at "dx"
      refine d2_modN (by decide) ?_
      refine dg_setL ?_
      walk_at "dx"
      refine ⟨_, _, _, _, rfl, rfl, updM_same, rfl, ?_⟩
      walk_at "dx"
      refine d2_fdivN ⟨by decide, by decide⟩ ?_
      walk_at "dx"
      refine d2_modN hnn ?_
      walk_at "dx"
      rw [updM_updM]
      have r := fmod_rng (i := ((m * 48271 + 11).fmod 2147483647).fdiv 7) hn0
      have r2 := fmod_rng (i := m * 48271 + 11) (n := 2147483647) (by decide)
      exact q _ _ r.1 r.2 ⟨⟨c + 1, _, l, rfl, by omega, r2.1, r2.2, hl0⟩, hs⟩

abbrev s_is_sum : Stmt := top 19
abbrev N_is_sum : List Str := ["part", "left", "many", "here", "deep", "one"]
theorem sc_is_sum : FnScope N_is_sum ["part"] (defScope s_is_sum) := ⟨rfl, rfl, rfl, by decide +kernel, rfl, by decide +kernel, by decide +kernel⟩
def pIsSum : Pq := fun ds Q _ => ∃ d, ds = [d] ∧ wfD d = true ∧ Q (.bl (sumD d))
theorem ok_is_sum (T : Tx w K mg aP aS es n0) (d : Dn K mg "is_sum" s_is_sum ["part"]) (D_is_whole : Cd P w K mg base "is_whole" 2 ["part"] (spP K pWhole)) (D_within : Cd P w K mg base "within" 1 ["part"] (spP K pWithin)) :
    Cd P w K mg base "is_sum" 3 ["part"] (spP K pIsSum) := cd_of d fun f fd F => by
  refine fnP F sc_is_sum (fun ds Q X h => ?_) (fun cdv A outer s H E hr => ⟨_, (pss_cons (ps_set (i := 1) sc_is_sum.nd rfl (Or.inl rfl) (pe_lst (pa_cons (pe_tup (pa_cons (pv 0) (pa_cons pe_int pa_nil))) pa_nil))) (pss_cons (ps_set (i := 2) sc_is_sum.nd rfl (Or.inl rfl) pe_int) (pss_cons (ps_while PassesOwn.never (pt_cmpR (op_ne3k K hr) (pv 1) (pe_lst pa_nil) (nomark _)) (pss_cons (ps_asg (pe_bm0k K PySem.F.plainAttrs_list PySem.F.slot_list_pop PySem.F.type_list_pop mt_pop (pv 1)) (pg_tupk K (n := 2) (by rfl) (pgs_cons (pg_name (i := 3) sc_is_sum.nd rfl (Or.inl rfl)) (pgs_cons (pg_name (i := 4) sc_is_sum.nd rfl (Or.inr rfl)) pgs_nil)))) (pss_cons (ps_set (i := 2) sc_is_sum.nd rfl (Or.inl rfl) (pe_op (op_add4k K) (pv 2) pe_int)) (pss_cons (ps_if (PW.pt (pw_or (pt_cmpR op_gt (pv 2) (pe_gint rfl T.g_MOST_SUMS) (nomark _)) (pw_or (pt_cmpR op_gt (pv 4) (pe_gint rfl T.g_MOST_WITHIN) (nomark _)) (pw_or1 (pt_not (pt_val (pe_cd D_is_whole (hr.mono (by omega)) rfl passL (pa_cons (pv 3) pa_nil)))))))) (pss_one (ps_ret pe_bl)) pss_nil) (pss_one (ps_expr (pe_bmk K PySem.F.plainAttrs_list PySem.F.slot_list_extend PySem.F.type_list_extend mt_extend (pv 1) (pa_cons (pe_lc (own := [("one", 5)]) (by rfl) sc_is_sum.nd (pi_seqk K (pe_cd D_within (hr.mono (by omega)) rfl passL (pa_cons (pv 3) pa_nil))) (blkOk_by (N := N_is_sum) (sc := defScope s_is_sum) (by decide +kernel)) (fun _ _ _ _ _ => (pg_name (i := 5) sc_is_sum.nd rfl (Or.inl rfl))) (fun _ _ _ _ _ => pts_nil) (fun _ _ _ _ _ => (pe_tup (pa_cons (pv 5) (pa_cons (pe_op (op_add4k K) (pv 4) pe_int) pa_nil))))) pa_nil)))))))) (pss_one (ps_ret pe_bl))))), fun B ds Qd Xd h => ?_⟩)
  · obtain ⟨d, rfl, _⟩ := h
    rfl
  obtain ⟨d, rfl, ht, q⟩ := h
  walk_at "dx"
  refine de_lstC ?_
  walk_at "dx"
  refine de_tup ?_
  walk_at "dx"
  refine ⟨by simp, ?_⟩
  walk_at "dx"
  refine ⟨by simp, fun p hp hb => ?_⟩
  walk_at "dx"
  refine ds_while (fun m ε M => ∃ (st : List (D × Nat)) (h dp : Option D), m ≤ 60 ∧ ε = [some d, some (.val (.ref p)), some (.int (60 - (m : Int))), h, dp, none] ∧ M = updM DL.mt p (.lst (st.map pr).reverse) ∧ (∀ e ∈ st, wfD e.1 = true) ∧
      st.length + 100 * m ≤ 6001 ∧ loopD m st = sumD d) ⟨60, [(d, 1)], none, none, Nat.le_refl _, rfl, rfl, (by simpa using ht), by simp, loopD_sum d⟩ ?_
  rintro m ε M ⟨st, h, dp, hm, rfl, rfl, wf, hl, hq⟩
  walk_at "dx"
  refine de_lst ?_
  walk_at "dx"
  refine ⟨by decide, ?_⟩
  refine d2_neE (.cell updM_same) (.own _) ?_
  walk_at "dx"
  cases st with
  | nil =>
    have e : sumD d = true := by
      rw [← hq]
      cases m <;> rfl
    rw [e] at q
    refine ite_f rfl ?_
    walk_at "dx"
    exact q
  | cons top st =>
    obtain ⟨t, k⟩ := top
    refine ite_t (by simp) ?_
    have wt := wf (t, k) List.mem_cons_self
    walk_at "dx"
    refine de_bm0 ?_
    walk_at "dx"
    refine ⟨ty_list (.cell updM_same), ?_⟩
    refine dm_pop (xs := (st.map pr).reverse) (y := pr (t, k)) (by rw [updM_same, List.map_cons, List.reverse_cons]) ?_
    refine dg_tup rfl ?_
    walk_at "dx"
    cases m with
    | zero =>
      refine ite_t (by decide) ?_
      have e : sumD d = false := by rw [← hq]; rfl
      rw [e] at q
      walk_at "dx"
      exact q
    | succ m =>
      refine ite_f (by rw [decide_eq_false_iff_not]; omega) ?_
      have hq' : sumD d = if 15 < k then false else if wholeD t = true then loopD m (((kidsD t).map fun e => (e, k + 1)).reverse ++ st) else false := by rw [← hq]; rfl
      walk_at "dx"
      by_cases hk : 15 < k
      · rw [hq', if_pos hk] at q
        refine ite_t (by rw [decide_eq_true_iff]; omega) ?_
        walk_at "dx"
        exact q
      · rw [if_neg hk] at hq'
        refine ite_f (by rw [decide_eq_false_iff_not]; omega) ?_
        walk_at "dx"
        refine ⟨_, vws_refl (by simp [noLs, wf_noL wt]), t, rfl, wt, ?_⟩
        walk_at "dx"
        by_cases hw : wholeD t = true
        · rw [if_pos hw] at hq'
          refine ite_f (by rw [hw]; rfl) ?_
          walk_at "dx"
          refine de_bm ?_
          walk_at "dx"
          refine ⟨ty_list (.cell updM_same), ?_⟩
          walk_at "dx"
          obtain ⟨kw, kl⟩ := kids_wf wt
          obtain ⟨x, r, rfl⟩ := whole_shape hw
          have hwr := wf_cons (wf_tup wt).1
          have kl' : (kidsD (.tup (.str x :: r))).length ≤ 100 := kl
          have hl' : st.length + 1 + 100 * (m + 1) ≤ 6001 := hl
          refine de_map (fun _ => true) (fun e => .tup [e, .int ((k : Int) + 1)]) (wip_name (by decide)) ?_
          refine di_seq ?_
          walk_at "dx"
          refine ⟨_, vws_refl (by simp [noLs, wf_noL wt]), x, r, rfl, wfs_noLs hwr.2, _, _, .lst _ _ _, by omega, fun _ _ => trivial, fun e he M' hM => ?_, ?_⟩
          · walk_at "dx"
            refine ⟨rfl, ?_⟩
            walk_at "dx"
            refine ⟨rfl, rfl, fun _ => ?_⟩
            refine de_tup ?_
            walk_at "dx"
            exact ⟨by simp, rfl, rfl⟩
          · walk_at "dx"
            refine dm_extend updM_same (.own _) ?_ ?_
            · rw [List.length_reverse, List.length_map, List.length_map]
              have := List.length_filter_le (fun _ => true) (kidsD (.tup (.str x :: r)))
              omega
            refine ⟨m, Nat.lt_succ_self m, ((kidsD (.tup (.str x :: r))).map fun e => (e, k + 1)).reverse ++ st, some (.tup (.str x :: r)), some (.int (k : Nat)), by omega, ?_, ?_, fun e he => ?_, ?_, hq'.symm⟩
            · have e1 : (60 : Int) - ((m + 1 : Nat) : Int) + 1 = 60 - (m : Int) := by omega
              rw [e1]
              rfl
            · rw [updM_updM, updM_updM, show (kidsD (.tup (.str x :: r))).filter (fun _ => true) = kidsD (.tup (.str x :: r)) from List.filter_eq_self.mpr (fun _ _ => rfl), stack_ext]
            · rcases List.mem_append.mp he with he | he
              · obtain ⟨e', he', rfl⟩ := List.mem_map.mp (List.mem_reverse.mp he)
                exact wfs_mem kw he'
              · exact wf e (List.mem_cons_of_mem _ he)
            · show (((kidsD (.tup (.str x :: r))).map fun e => (e, k + 1)).reverse ++ st).length + 100 * m ≤ 6001
              rw [List.length_append, List.length_reverse, List.length_map]
              omega
        · rw [if_neg hw] at hq'
          rw [hq'] at q
          refine ite_t (by simpa using hw) ?_
          walk_at "dx"
          exact q

abbrev s_need_sum : Stmt := top 20
abbrev N_need_sum : List Str := ["part"]
theorem sc_need_sum : FnScope N_need_sum ["part"] (defScope s_need_sum) := ⟨rfl, rfl, rfl, by decide +kernel, rfl, by decide +kernel, by decide +kernel⟩
/-- of sums that can be -/
def pNeed : Pq := fun ds Q _ => ∃ d, ds = [d] ∧ wfD d = true ∧ sumD d = true ∧ Q .non
theorem ok_need_sum (d : Dn K mg "need_sum" s_need_sum ["part"]) (D_is_sum : Cd P w K mg base "is_sum" 3 ["part"] (spP K pIsSum)) : Cd P w K mg base "need_sum" 4 ["part"] (spP K pNeed) := cd_of d fun f fd F => by
  refine fnP F sc_need_sum (fun ds Q X h => ?_) (fun cdv A outer s H E hr => ⟨_, (pss_one (ps_if (pt_not (pt_val (pe_cd D_is_sum (hr.mono (by omega)) rfl passL (pa_cons (pv 0) pa_nil)))) (pss_one ps_never) pss_nil)), fun B ds Qd Xd h => ?_⟩)
  · obtain ⟨d, rfl, _⟩ := h
    rfl
  obtain ⟨d, rfl, ht, hs, q⟩ := h
  walk_at "dx"
  refine ⟨_, vws_refl (by simp [noLs, wf_noL ht]), d, rfl, ht, ?_⟩
  rw [hs]
  walk_at "dx"
  exact q
def pWithinS : Pq := fun ds Q _ => ∃ s : Sm, ds = [enc s] ∧ Q (.lst .own (s.kids.map enc))
theorem to_withinS {k : Nat} {ps : List Str} (D : Cd P w K mg base "within" k ps (spP K pWithin)) : Cd P w K mg base "within" k ps (spP K pWithinS) := D.imp (spP_imp fun ds Q X ⟨s, e, q⟩ => ⟨s.wd, s.tl, by rw [e, enc_eq], tl_noL s, by rw [← enc_eq, kids_enc]; exact q⟩)

abbrev s__law_quiet : Stmt := top 44
abbrev N__law_quiet : List Str := ["_law_part"]
theorem sc__law_quiet : FnScope N__law_quiet ["_law_part"] (defScope s__law_quiet) := ⟨rfl, rfl, rfl, by decide +kernel, rfl, by decide +kernel, by decide +kernel⟩
def pQuiet (n : Nat) : Pq := fun ds Q _ => ∃ s : Sm, ds = [enc s] ∧ s.dp ≤ n ∧ Q (enc s.quiet)
theorem ok__law_quiet (T : Tx w K mg aP aS es n0) (d : Dn K mg "_law_quiet" s__law_quiet ["_law_part"]) : ∀ n : Nat, Cd P w K mg base "_law_quiet" (n + 1) ["_law_part"] (spP K (pQuiet n))
  | 0 => cd_of d fun f fd F => fn_noneP fun ds Q X ⟨s, _, h, _⟩ => by have := s.dp_pos; omega
  | n + 1 => cd_of d fun f fd F => by
    have D__law_quiet := ok__law_quiet T d n
    refine fnP F sc__law_quiet (fun ds Q X h => ?_) (fun cdv A outer s H E hr => ⟨_, (pss_cons (ps_if (pt_cmpR (op_eq3k K hr) (pe_ix (ix_seqk K) (pv 0) pe_int (fun _ _ => rfl)) pe_str (nomark _)) (pss_one (ps_ret (pe_tup (pa_cons pe_str (pa_cons pe_int pa_nil))))) pss_nil) (pss_cons (ps_if (pt_cmpR (op_eq3k K hr) (pe_ix (ix_seqk K) (pv 0) pe_int (fun _ _ => rfl)) pe_str (nomark _)) (pss_one (ps_ret (pe_cd D__law_quiet (hr.mono (by omega)) rfl passL (pa_cons (pe_ix (ix_seqk K) (pv 0) pe_int (fun _ _ => rfl)) pa_nil)))) pss_nil) (pss_cons (ps_if (pt_cmpR (op_in2k K) (pe_ix (ix_seqk K) (pv 0) pe_int (fun _ _ => rfl)) (pe_tup (pa_cons pe_str (pa_cons pe_str pa_nil))) (by rfl)) (pss_one (ps_ret (pv 0))) pss_nil) (pss_one (ps_ret (pe_tup (pa_cons (pe_ix (ix_seqk K) (pv 0) pe_int (fun _ _ => rfl)) (pa_cons (pe_cd D__law_quiet (hr.mono (by omega)) rfl passL (pa_cons (pe_ix (ix_seqk K) (pv 0) pe_int (fun _ _ => rfl)) pa_nil)) (pa_cons (pe_cd D__law_quiet (hr.mono (by omega)) rfl passL (pa_cons (pe_ix (ix_seqk K) (pv 0) pe_int (fun _ _ => rfl)) pa_nil)) pa_nil))))))))), fun B ds Qd Xd h => ?_⟩)
    · obtain ⟨s, rfl, _⟩ := h
      rfl
    obtain ⟨s, rfl, hs, q⟩ := h
    cases s with
    | ask =>
      simp only [enc]
      walk_at "dx"
      refine de_tup ?_
      walk_at "dx"
      exact ⟨by simp, fz_ret rfl q⟩
    | say a =>
      simp only [Sm.dp] at hs
      simp only [enc]
      walk_at "dx"
      refine ⟨_, vws_refl (by simp [noLs, enc_noL]), a, rfl, by omega, ?_⟩
      exact fz_ret (enc_noL _) q
    | num v =>
      simp only [enc]
      walk_at "dx"
      refine de_tup ?_
      walk_at "dx"
      refine ⟨by simp, d2_in (.tup _) rfl rfl ?_⟩
      refine ⟨_, rfl, ite_t (by rfl) ?_⟩
      walk_at "dx"
      exact q
    | nam v =>
      simp only [enc]
      walk_at "dx"
      refine de_tup ?_
      walk_at "dx"
      refine ⟨by simp, d2_in (.tup _) rfl rfl ?_⟩
      refine ⟨_, rfl, ite_t (by rfl) ?_⟩
      walk_at "dx"
      exact q
    | bin o a b =>
      simp only [Sm.dp] at hs
      simp only [enc]
      walk_at "dx"
      refine ite_f (by cases o <;> rfl) ?_
      walk_at "dx"
      refine ite_f (by cases o <;> rfl) ?_
      walk_at "dx"
      refine de_tup ?_
      walk_at "dx"
      refine ⟨by simp, d2_in (.tup _) rfl rfl ?_⟩
      refine ⟨_, rfl, ite_f (by cases o <;> rfl) ?_⟩
      walk_at "dx"
      refine de_tup ?_
      walk_at "dx"
      refine ⟨_, vws_refl (by simp [noLs, enc_noL]), a, rfl, by omega, ?_⟩
      walk_at "dx"
      refine ⟨_, vws_refl (by simp [noLs, enc_noL]), b, rfl, by omega, ?_⟩
      walk_at "dx"
      exact ⟨by simp, fz_ret (by simp [noL, noLs, enc_noL]) q⟩
abbrev s__law_parts : Stmt := top 45
abbrev N__law_parts : List Str := ["_law_part", "_law_one"]
theorem sc__law_parts : FnScope N__law_parts ["_law_part"] (defScope s__law_parts) := ⟨rfl, rfl, rfl, by decide +kernel, rfl, by decide +kernel, by decide +kernel⟩
theorem ok__law_parts (T : Tx w K mg aP aS es n0) (d : Dn K mg "_law_parts" s__law_parts ["_law_part"]) : Cd P w K mg base "_law_parts" 1 ["_law_part"] (spP K pWithinS) := cd_of d fun f fd F => by
  refine fnP F sc__law_parts (fun ds Q X h => ?_) (fun cdv A outer s H E hr => ⟨_, (pss_one (ps_ret (pe_lc (own := [("_law_one", 1)]) (by rfl) sc__law_parts.nd (pi_seqk K (pe_slice (sl_3k K) (pv 0) (po_some pe_int) po_none)) (blkOk_by (N := N__law_parts) (sc := defScope s__law_parts) (by decide +kernel)) (fun _ _ _ _ _ => (pg_name (i := 1) sc__law_parts.nd rfl (Or.inl rfl))) (fun _ _ _ _ _ => (pts_one (pt_val (pe_callB (call_isi3k K) (by rfl) T.b_isinstance (by decide +kernel) (pa_cons (pv 1) (pa_cons (pe_bltn (v := .ty "tuple") (by rfl) T.b_tuple (by decide +kernel) rfl) pa_nil)))))) (fun _ _ _ _ _ => (pv 1))))), fun B ds Qd Xd h => ?_⟩)
  · obtain ⟨s, rfl, _⟩ := h
    rfl
  obtain ⟨s, rfl, q⟩ := h
  rw [enc_eq]
  walk_at "dx"
  refine de_map isT id (wip_name (by decide)) ?_
  refine di_seq ?_
  walk_at "dx"
  rw [cut1]
  refine ⟨_, _, .tup _ _, by have := tl_len s; omega, fun _ _ => trivial, fun d hd M' hM => ?_, ?_⟩
  · rcases tl_ty s d hd with ⟨i, rfl⟩ | ⟨x, rfl⟩ | ⟨ds, rfl⟩
    all_goals (walk_at "dx")
    all_goals (refine ⟨rfl, ?_⟩)
    all_goals (walk_at "dx")
    all_goals (refine ⟨rfl, rfl, fun z => ?_⟩)
    all_goals first | (cases z; done) | skip
    walk_at "dx"
    exact ⟨rfl, rfl⟩
  · rw [tl_isT]
    refine fz_lst (noLs_of fun d hd => ?_) q
    obtain ⟨k, _, rfl⟩ := List.mem_map.mp hd
    exact enc_noL k

abbrev s__law_all : Stmt := top 46
abbrev N__law_all : List Str := ["_law_part", "_law_found", "_law_one"]
theorem sc__law_all : FnScope N__law_all ["_law_part"] (defScope s__law_all) := ⟨rfl, rfl, rfl, by decide +kernel, rfl, by decide +kernel, by decide +kernel⟩
def pAll (n : Nat) : Pq := fun ds Q _ => ∃ s : Sm, ds = [enc s] ∧ s.dp ≤ n ∧ s.sz ≤ 1000 ∧ Q (.lst .own (s.all.map enc))
theorem ok__law_all (T : Tx w K mg aP aS es n0) (d : Dn K mg "_law_all" s__law_all ["_law_part"]) (D__law_parts : Cd P w K mg base "_law_parts" 1 ["_law_part"] (spP K pWithinS)) : ∀ n : Nat, Cd P w K mg base "_law_all" (n + 2) ["_law_part"] (spP K (pAll n))
  | 0 => cd_of d fun f fd F => fn_noneP fun ds Q X ⟨s, _, h, _⟩ => by have := s.dp_pos; omega
  | n + 1 => cd_of d fun f fd F => by
    have D__law_all := ok__law_all T d D__law_parts n
    refine fnP (k := n + 2) F sc__law_all (fun ds Q X h => ?_) (fun cdv A outer s H E hr => ⟨_, (pss_cons (ps_set (i := 1) sc__law_all.nd rfl (Or.inl rfl) (pe_lst (pa_cons (pv 0) pa_nil))) (pss_cons (ps_for PassesOwn.never rfl (pi_seqk K (pe_cd D__law_parts (hr.mono (by omega)) rfl passL (pa_cons (pv 0) pa_nil))) (pg_name (i := 2) sc__law_all.nd rfl (Or.inl rfl)) (pss_one (ps_set (i := 1) sc__law_all.nd rfl (Or.inl rfl) (pe_op (op_add4k K) (pv 1) (pe_cd D__law_all (hr.mono (by omega)) rfl passL (pa_cons (pv 2) pa_nil)))))) (pss_one (ps_ret (pv 1))))), fun B ds Qd Xd h => ?_⟩)
    · obtain ⟨s, rfl, _⟩ := h
      rfl
    obtain ⟨s, rfl, hs, hz, q⟩ := h
    walk_at "dx"
    refine de_lst ?_
    walk_at "dx"
    refine ⟨by simp, ?_⟩
    walk_at "dx"
    refine ds_for ?_
    refine di_seq ?_
    walk_at "dx"
    refine ⟨_, vws_refl (by simp [noLs, enc_noL]), s, rfl, _, _, .lst _ _ _, fun i ε M' => ∃ v : Option D, ε = [some (enc s), some (.lst .own ((s.upto i).map enc)), v] ∧ M' = DL.mt, ⟨none, by rw [upto_0]; rfl, rfl⟩, fun _ _ _ _ => trivial, ?_, ?_⟩
    · rintro i d ε M' hd ⟨v, rfl, rfl⟩
      rw [List.getElem?_map] at hd
      obtain ⟨k, hk, rfl⟩ : ∃ k, s.kids[i]? = some k ∧ enc k = d := by
        cases e : s.kids[i]? with
        | none => rw [e] at hd; cases hd
        | some k => rw [e] at hd; exact ⟨k, rfl, Option.some.inj hd⟩
      have hm : k ∈ s.kids := List.mem_of_getElem? hk
      have hl := upto_len s (i + 1)
      rw [upto_step hk, List.length_append, all_len'] at hl
      walk_at "dx"
      refine ⟨_, vws_refl (by simp [noLs, enc_noL]), k, rfl, by have := kids_dp hm; omega, by omega, ?_⟩
      refine d2_add_lst (.own _) (.own _) (by rw [List.length_map, List.length_map, all_len']; omega) ?_
      walk_at "dx"
      exact ⟨some (enc k), by rw [upto_step hk, List.map_append]; rfl, rfl⟩
    · rintro ε M' ⟨v, rfl, rfl⟩
      rw [List.length_map, upto_end]
      walk_at "dx"
      refine fz_lst (noLs_of fun d hd => ?_) q
      obtain ⟨k, _, rfl⟩ := List.mem_map.mp hd
      exact enc_noL k

theorem vw_sd {M : Mp} : ∀ (n : Nat) (d : D), sdD n d = true → Vw M d d
  | _, .non, _ => .non
  | _, .bl _, _ => .bl _
  | _, .int _, _ => .int _
  | _, .str _, _ => .str _
  | 0, .tup _, h => by simp [sdD] at h
  | n + 1, .tup ds, h => by
    simp only [sdD, Bool.and_eq_true, List.all_eq_true] at h
    have h2 := h.2
    clear h
    refine .tup ?_
    induction ds with
    | nil => exact .nil
    | cons d ds ih => exact .cons (vw_sd n d (h2 d (by simp))) (ih fun x hx => h2 x (by simp [hx]))
  | 0, .lst k _, h => by cases k <;> simp [sdD] at h
  | n + 1, .lst .arg ds, h => by
    simp only [sdD, Bool.and_eq_true, List.all_eq_true] at h
    have h2 := h.2
    clear h
    refine .arg ?_
    induction ds with
    | nil => exact .nil
    | cons d ds ih => exact .cons (vw_sd n d (h2 d (by simp))) (ih fun x hx => h2 x (by simp [hx]))
  | n + 1, .lst .own ds, h => by simp [sdD] at h
  | n + 1, .lst .frz ds, h => by simp [sdD] at h
  | _, .dic _, h => by simp [sdD] at h
  | _, .val _, h => by simp [sdD] at h
theorem ints_mem {n : Nat} {d : D} (h : d ∈ intsD 0 n) : ∃ i : Nat, d = .int i ∧ i < n := by
  unfold intsD at h
  obtain ⟨i, h1, rfl⟩ := List.mem_map.mp h
  exact ⟨i, by rw [Int.zero_add], List.mem_range.mp h1⟩
abbrev s__law_same : Stmt := top 40
abbrev N__law_same : List Str := ["_law_found", "_law_due_here", "_law_k"]
theorem sc__law_same : FnScope N__law_same ["_law_found", "_law_due_here"] (defScope s__law_same) := ⟨rfl, rfl, rfl, by decide +kernel, rfl, by decide +kernel, by decide +kernel⟩
def pSame (n : Nat) : Pq := fun ds Q _ => ∃ d, ds = [d, d] ∧ sdD n d = true ∧ Q (.bl true)
theorem ok__law_same (T : Tx w K mg aP aS es n0) (d : Dn K mg "_law_same" s__law_same ["_law_found", "_law_due_here"]) : ∀ n : Nat, Cd P w K mg base "_law_same" (n + 2) ["_law_found", "_law_due_here"] (spP K (pSame n)) := fun n => by
  induction n with
  | zero =>
    refine cd_of d fun f fd F => ?_
    have D__law_same : Cd P w K mg base "_law_same" 1 ["_law_found", "_law_due_here"] (spP K fun _ _ _ => False) := cd_of d fun f fd F => fn_noneP fun ds Q X h => h
    refine fnP (k := 1) F sc__law_same (fun ds Q X h => ?_) (fun cdv A outer s H E hr => ⟨_, (pss_cons (ps_if (pt_val (pe_callB (call_isi3k K) (by rfl) T.b_isinstance (by decide +kernel) (pa_cons (pv 1) (pa_cons (pe_tup (pa_cons (pe_bltn (v := .ty "tuple") (by rfl) T.b_tuple (by decide +kernel) rfl) (pa_cons (pe_bltn (v := .ty "list") (by rfl) T.b_list (by decide +kernel) rfl) pa_nil))) pa_nil)))) (pss_cons (ps_if (PW.pt (pw_or (pt_not (pt_val (pe_callB (call_isi3k K) (by rfl) T.b_isinstance (by decide +kernel) (pa_cons (pv 0) (pa_cons (pe_tup (pa_cons (pe_bltn (v := .ty "tuple") (by rfl) T.b_tuple (by decide +kernel) rfl) (pa_cons (pe_bltn (v := .ty "list") (by rfl) T.b_list (by decide +kernel) rfl) pa_nil))) pa_nil))))) (pw_or1 (pt_cmpR (op_ne3k K hr) (pe_callB (call_isi3k K) (by rfl) T.b_isinstance (by decide +kernel) (pa_cons (pv 0) (pa_cons (pe_bltn (v := .ty "list") (by rfl) T.b_list (by decide +kernel) rfl) pa_nil))) (pe_callB (call_isi3k K) (by rfl) T.b_isinstance (by decide +kernel) (pa_cons (pv 1) (pa_cons (pe_bltn (v := .ty "list") (by rfl) T.b_list (by decide +kernel) rfl) pa_nil))) (nomark _))))) (pss_one (ps_ret pe_bl)) pss_nil) (pss_cons (ps_if (pt_cmpR (op_ne3k K hr) (pe_callB (call_lenk K) (by rfl) T.b_len (by decide +kernel) (pa_cons (pv 0) pa_nil)) (pe_callB (call_lenk K) (by rfl) T.b_len (by decide +kernel) (pa_cons (pv 1) pa_nil)) (nomark _)) (pss_one (ps_ret pe_bl)) pss_nil) (pss_one (ps_ret (pe_cmpR (op_eq3k K hr) (pe_lc (own := [("_law_k", 2)]) (by rfl) sc__law_same.nd (pi_range1 (by rfl) T.b_range (pa_cons (pe_callB (call_lenk K) (by rfl) T.b_len (by decide +kernel) (pa_cons (pv 1) pa_nil)) pa_nil)) (blkOk_by (N := N__law_same) (sc := defScope s__law_same) (by decide +kernel)) (fun _ _ _ _ _ => (pg_name (i := 2) sc__law_same.nd rfl (Or.inl rfl))) (fun _ _ _ _ _ => (pts_one (pt_not (pt_val (pe_cd D__law_same (hr.mono (by omega)) rfl passL (pa_cons (pe_ix (ix_seqk K) (pv 0) (pv 2) (fun _ _ => rfl)) (pa_cons (pe_ix (ix_seqk K) (pv 1) (pv 2) (fun _ _ => rfl)) pa_nil))))))) (fun _ _ _ _ _ => (pv 2))) (pe_lst pa_nil) (nomark _)))))) pss_nil) (pss_cons (ps_if (pt_cmpR op_isN (pv 1) pe_non (nomark _)) (pss_one (ps_ret (pe_cmpR op_isN (pv 0) pe_non (nomark _)))) pss_nil) (pss_cons (ps_if (pt_val (pe_callB (call_isi3k K) (by rfl) T.b_isinstance (by decide +kernel) (pa_cons (pv 1) (pa_cons (pe_bltn (v := .ty "str") (by rfl) T.b_str (by decide +kernel) rfl) pa_nil)))) (pss_one (ps_ret (pe_and (pe_callB (call_isi3k K) (by rfl) T.b_isinstance (by decide +kernel) (pa_cons (pv 0) (pa_cons (pe_bltn (v := .ty "str") (by rfl) T.b_str (by decide +kernel) rfl) pa_nil))) (pe_one (pe_cmpR (op_eq3k K hr) (pv 0) (pv 1) (nomark _)))))) pss_nil) (pss_cons (ps_if (PW.pt (pw_or (pt_val (pe_callB (call_isi3k K) (by rfl) T.b_isinstance (by decide +kernel) (pa_cons (pv 1) (pa_cons (pe_bltn (v := .ty "bool") (by rfl) T.b_bool (by decide +kernel) rfl) pa_nil)))) (pw_or1 (pt_val (pe_callB (call_isi3k K) (by rfl) T.b_isinstance (by decide +kernel) (pa_cons (pv 0) (pa_cons (pe_bltn (v := .ty "bool") (by rfl) T.b_bool (by decide +kernel) rfl) pa_nil))))))) (pss_one (ps_ret (pe_and (pe_callB (call_isi3k K) (by rfl) T.b_isinstance (by decide +kernel) (pa_cons (pv 1) (pa_cons (pe_bltn (v := .ty "bool") (by rfl) T.b_bool (by decide +kernel) rfl) pa_nil))) (pe_and (pe_callB (call_isi3k K) (by rfl) T.b_isinstance (by decide +kernel) (pa_cons (pv 0) (pa_cons (pe_bltn (v := .ty "bool") (by rfl) T.b_bool (by decide +kernel) rfl) pa_nil))) (pe_one (pe_cmpR (op_eq3k K hr) (pv 0) (pv 1) (nomark _))))))) pss_nil) (pss_one (ps_ret (pe_and (pe_callB (call_isi3k K) (by rfl) T.b_isinstance (by decide +kernel) (pa_cons (pv 0) (pa_cons (pe_bltn (v := .ty "int") (by rfl) T.b_int (by decide +kernel) rfl) pa_nil))) (pe_one (pe_cmpR (op_eq3k K hr) (pv 0) (pv 1) (nomark _)))))))))), fun B ds Qd Xd h => ?_⟩)
    · obtain ⟨d, rfl, _⟩ := h
      rfl
    obtain ⟨d, rfl, h, q⟩ := h
    cases d <;> first | (simp [sdD] at h; done) | skip
    all_goals (walk_at "dx")
    all_goals first | exact q | (simp only [decide_true]; exact q)
  | succ n ih =>
    refine cd_of d fun f fd F => ?_
    have D__law_same := ih
    refine fnP (k := n + 2) F sc__law_same (fun ds Q X h => ?_) (fun cdv A outer s H E hr => ⟨_, (pss_cons (ps_if (pt_val (pe_callB (call_isi3k K) (by rfl) T.b_isinstance (by decide +kernel) (pa_cons (pv 1) (pa_cons (pe_tup (pa_cons (pe_bltn (v := .ty "tuple") (by rfl) T.b_tuple (by decide +kernel) rfl) (pa_cons (pe_bltn (v := .ty "list") (by rfl) T.b_list (by decide +kernel) rfl) pa_nil))) pa_nil)))) (pss_cons (ps_if (PW.pt (pw_or (pt_not (pt_val (pe_callB (call_isi3k K) (by rfl) T.b_isinstance (by decide +kernel) (pa_cons (pv 0) (pa_cons (pe_tup (pa_cons (pe_bltn (v := .ty "tuple") (by rfl) T.b_tuple (by decide +kernel) rfl) (pa_cons (pe_bltn (v := .ty "list") (by rfl) T.b_list (by decide +kernel) rfl) pa_nil))) pa_nil))))) (pw_or1 (pt_cmpR (op_ne3k K hr) (pe_callB (call_isi3k K) (by rfl) T.b_isinstance (by decide +kernel) (pa_cons (pv 0) (pa_cons (pe_bltn (v := .ty "list") (by rfl) T.b_list (by decide +kernel) rfl) pa_nil))) (pe_callB (call_isi3k K) (by rfl) T.b_isinstance (by decide +kernel) (pa_cons (pv 1) (pa_cons (pe_bltn (v := .ty "list") (by rfl) T.b_list (by decide +kernel) rfl) pa_nil))) (nomark _))))) (pss_one (ps_ret pe_bl)) pss_nil) (pss_cons (ps_if (pt_cmpR (op_ne3k K hr) (pe_callB (call_lenk K) (by rfl) T.b_len (by decide +kernel) (pa_cons (pv 0) pa_nil)) (pe_callB (call_lenk K) (by rfl) T.b_len (by decide +kernel) (pa_cons (pv 1) pa_nil)) (nomark _)) (pss_one (ps_ret pe_bl)) pss_nil) (pss_one (ps_ret (pe_cmpR (op_eq3k K hr) (pe_lc (own := [("_law_k", 2)]) (by rfl) sc__law_same.nd (pi_range1 (by rfl) T.b_range (pa_cons (pe_callB (call_lenk K) (by rfl) T.b_len (by decide +kernel) (pa_cons (pv 1) pa_nil)) pa_nil)) (blkOk_by (N := N__law_same) (sc := defScope s__law_same) (by decide +kernel)) (fun _ _ _ _ _ => (pg_name (i := 2) sc__law_same.nd rfl (Or.inl rfl))) (fun _ _ _ _ _ => (pts_one (pt_not (pt_val (pe_cd D__law_same (hr.mono (by omega)) rfl passL (pa_cons (pe_ix (ix_seqk K) (pv 0) (pv 2) (fun _ _ => rfl)) (pa_cons (pe_ix (ix_seqk K) (pv 1) (pv 2) (fun _ _ => rfl)) pa_nil))))))) (fun _ _ _ _ _ => (pv 2))) (pe_lst pa_nil) (nomark _)))))) pss_nil) (pss_cons (ps_if (pt_cmpR op_isN (pv 1) pe_non (nomark _)) (pss_one (ps_ret (pe_cmpR op_isN (pv 0) pe_non (nomark _)))) pss_nil) (pss_cons (ps_if (pt_val (pe_callB (call_isi3k K) (by rfl) T.b_isinstance (by decide +kernel) (pa_cons (pv 1) (pa_cons (pe_bltn (v := .ty "str") (by rfl) T.b_str (by decide +kernel) rfl) pa_nil)))) (pss_one (ps_ret (pe_and (pe_callB (call_isi3k K) (by rfl) T.b_isinstance (by decide +kernel) (pa_cons (pv 0) (pa_cons (pe_bltn (v := .ty "str") (by rfl) T.b_str (by decide +kernel) rfl) pa_nil))) (pe_one (pe_cmpR (op_eq3k K hr) (pv 0) (pv 1) (nomark _)))))) pss_nil) (pss_cons (ps_if (PW.pt (pw_or (pt_val (pe_callB (call_isi3k K) (by rfl) T.b_isinstance (by decide +kernel) (pa_cons (pv 1) (pa_cons (pe_bltn (v := .ty "bool") (by rfl) T.b_bool (by decide +kernel) rfl) pa_nil)))) (pw_or1 (pt_val (pe_callB (call_isi3k K) (by rfl) T.b_isinstance (by decide +kernel) (pa_cons (pv 0) (pa_cons (pe_bltn (v := .ty "bool") (by rfl) T.b_bool (by decide +kernel) rfl) pa_nil))))))) (pss_one (ps_ret (pe_and (pe_callB (call_isi3k K) (by rfl) T.b_isinstance (by decide +kernel) (pa_cons (pv 1) (pa_cons (pe_bltn (v := .ty "bool") (by rfl) T.b_bool (by decide +kernel) rfl) pa_nil))) (pe_and (pe_callB (call_isi3k K) (by rfl) T.b_isinstance (by decide +kernel) (pa_cons (pv 0) (pa_cons (pe_bltn (v := .ty "bool") (by rfl) T.b_bool (by decide +kernel) rfl) pa_nil))) (pe_one (pe_cmpR (op_eq3k K hr) (pv 0) (pv 1) (nomark _))))))) pss_nil) (pss_one (ps_ret (pe_and (pe_callB (call_isi3k K) (by rfl) T.b_isinstance (by decide +kernel) (pa_cons (pv 0) (pa_cons (pe_bltn (v := .ty "int") (by rfl) T.b_int (by decide +kernel) rfl) pa_nil))) (pe_one (pe_cmpR (op_eq3k K hr) (pv 0) (pv 1) (nomark _)))))))))), fun B ds Qd Xd h => ?_⟩)
    · obtain ⟨d, rfl, _⟩ := h
      rfl
    obtain ⟨d, rfl, h, q⟩ := h
    cases d <;> first | (simp [sdD] at h; done) | skip
    all_goals first | (walk_at "dx"; first | exact q | (simp only [decide_true]; exact q)) | skip
    case tup xs =>
      simp only [sdD, Bool.and_eq_true, List.all_eq_true, decide_eq_true_eq] at h
      walk_at "dx"
      refine ite_f (by simp) ?_
      walk_at "dx"
      refine de_mapA (α := D) id (fun _ => false) id (wip_name (by decide)) ?_
      refine di_rng1 ?_
      walk_at "dx"
      refine ⟨by omega, by omega, _, (List.map_id _).symm, by rw [intsD_len]; omega, fun _ _ => trivial, fun e he M' hM => ?_, ?_⟩
      · obtain ⟨i, rfl, hi⟩ := ints_mem he
        obtain ⟨d, hd, hm⟩ := at_mem (xs := xs) (i := (i : Int)) (by omega) (by omega)
        walk_at "dx"
        refine ⟨rfl, ?_⟩
        walk_at "dx"
        refine d2_ix (.tup _) hd ?_
        walk_at "dx"
        refine d2_ix (.tup _) hd ?_
        walk_at "dx"
        refine ⟨_, .cons (vw_sd n d (h.2 d hm)) (.cons (vw_sd n d (h.2 d hm)) .nil), d, rfl, h.2 d hm, ?_⟩
        walk_at "dx"
        exact ⟨rfl, rfl, fun z => by cases z⟩
      · refine de_lst ?_
        walk_at "dx"
        refine ⟨by simp, d2_eqE (.own _) (.own _) ?_⟩
        rw [show (List.map id (List.filter (fun _ => false) (intsD 0 (xs.length : Int).toNat))) = [] by simp]
        exact fz_ret rfl q
    case lst k xs =>
      cases k <;> first | (simp [sdD] at h; done) | skip
      simp only [sdD, Bool.and_eq_true, List.all_eq_true, decide_eq_true_eq] at h
      walk_at "dx"
      refine ite_f (by simp) ?_
      walk_at "dx"
      refine de_mapA (α := D) id (fun _ => false) id (wip_name (by decide)) ?_
      refine di_rng1 ?_
      walk_at "dx"
      refine ⟨by omega, by omega, _, (List.map_id _).symm, by rw [intsD_len]; omega, fun _ _ => trivial, fun e he M' hM => ?_, ?_⟩
      · obtain ⟨i, rfl, hi⟩ := ints_mem he
        obtain ⟨d, hd, hm⟩ := at_mem (xs := xs) (i := (i : Int)) (by omega) (by omega)
        walk_at "dx"
        refine ⟨rfl, ?_⟩
        walk_at "dx"
        refine d2_ix (.lst (.arg _)) hd ?_
        walk_at "dx"
        refine d2_ix (.lst (.arg _)) hd ?_
        walk_at "dx"
        refine ⟨_, .cons (vw_sd n d (h.2 d hm)) (.cons (vw_sd n d (h.2 d hm)) .nil), d, rfl, h.2 d hm, ?_⟩
        walk_at "dx"
        exact ⟨rfl, rfl, fun z => by cases z⟩
      · refine de_lst ?_
        walk_at "dx"
        refine ⟨by simp, d2_eqE (.own _) (.own _) ?_⟩
        rw [show (List.map id (List.filter (fun _ => false) (intsD 0 (xs.length : Int).toNat))) = [] by simp]
        exact fz_ret rfl q

theorem ite_k {b : Bool} {A B : Prop} (hA : A) (h : A → b = false → B) : if b = true then A else B := ite_2 (fun _ => hA) (h hA)
theorem set0 {x y : D} : [x].set (Int.toNat 0) y = [y] := rfl
abbrev s__law_sum : Stmt := top 42
abbrev N__law_sum : List Str := ["_law_state", "_law_deep_here", "_law_room", "_law_way", "_law_few", "_law_some", "_law_one"]
theorem sc__law_sum : FnScope N__law_sum ["_law_state", "_law_deep_here", "_law_room"] (defScope s__law_sum) := ⟨rfl, rfl, rfl, by decide +kernel, rfl, by decide +kernel, by decide +kernel⟩
def pSumL (n : Nat) : Sq := fun ds M Q _ => ∃ (ns : List Int) (a b : Addr) (c : Cell) (deep r : Int), ds = [.val (.ref a), .int deep, .val (.ref b)] ∧ a ≠ b ∧ M a = some c ∧ StOk ns c ∧ M b = some (.lst [.int r]) ∧ deep ≤ n ∧ 1 ≤ r ∧
  ∀ (s : Sm) (c' : Cell), s.ok → ((s.dp : Int) ≤ 1 ∨ (s.dp : Int) ≤ deep) → (s.sz : Int) ≤ r → StOk ns c' → Q (enc s) (M2 M a c' b (.lst [.int (r - s.sz)]))
theorem step__law_sum (T : Tx w K mg aP aS es n0) (d : Dn K mg "_law_sum" s__law_sum ["_law_state", "_law_deep_here", "_law_room"]) (D__law_drawn : Cd P w K mg base "_law_drawn" 1 ["_law_state", "_law_many"] (spI K pDrawn)) (n : Nat) (S : Sq) (D__law_sum : Cd P w K mg base "_law_sum" (n + 1) ["_law_state", "_law_deep_here", "_law_room"] (spI K S)) (hS : 2 ≤ n → S = pSumL (n - 1)) : Cd P w K mg base "_law_sum" (n + 2) ["_law_state", "_law_deep_here", "_law_room"] (spI K (pSumL n)) := by
  refine cd_of d fun f fd F => ?_
  refine fnI (k := n + 1) F sc__law_sum (fun ds M Q X h => ?_) (fun cdv A outer s H E hr => ⟨_, (pss_cons (ps_asg (pe_op op_sub (pe_ix (ix_seqk K) (pv 2) pe_int (fun _ _ => rfl)) pe_int) (pg_sub (pv 2) pe_int set_list)) (pss_cons (ps_set (i := 3) sc__law_sum.nd rfl (Or.inl rfl) (pe_cd D__law_drawn (hr.mono (by omega)) rfl passL (pa_cons (pv 0) (pa_cons pe_int pa_nil)))) (pss_cons (ps_if (PW.pt (pw_or (pt_cmpR op_lt (pv 1) pe_int (nomark _)) (pw_or (pt_cmpR op_lt (pe_ix (ix_seqk K) (pv 2) pe_int (fun _ _ => rfl)) pe_int (nomark _)) (pw_or1 (pt_cmpR op_lt (pv 3) pe_int (nomark _)))))) (pss_cons (ps_set (i := 4) sc__law_sum.nd rfl (Or.inl rfl) (pe_ix (ix_seqk K) (pe_lst (pa_cons pe_int (pa_cons pe_int pa_nil))) (pe_cd D__law_drawn (hr.mono (by omega)) rfl passL (pa_cons (pv 0) (pa_cons pe_int pa_nil))) (fun _ _ => rfl))) (pss_cons (ps_set (i := 5) sc__law_sum.nd rfl (Or.inl rfl) (pe_lst (pa_cons (pe_tup (pa_cons pe_str (pa_cons (pe_cd D__law_drawn (hr.mono (by omega)) rfl passL (pa_cons (pv 0) (pa_cons (pv 4) pa_nil))) pa_nil))) (pa_cons (pe_tup (pa_cons pe_str (pa_cons (pe_ix (ix_seqk K) pe_str (pe_cd D__law_drawn (hr.mono (by omega)) rfl passL (pa_cons (pv 0) (pa_cons (pe_ix (ix_seqk K) (pe_lst (pa_cons pe_int (pa_cons pe_int pa_nil))) (pe_cd D__law_drawn (hr.mono (by omega)) rfl passL (pa_cons (pv 0) (pa_cons pe_int pa_nil))) (fun _ _ => rfl)) pa_nil))) (fun _ _ => rfl)) pa_nil))) pa_nil)))) (pss_one (ps_ret (pe_ix (ix_seqk K) (pe_op (op_add4k K) (pv 5) (pe_lst (pa_cons (pe_tup (pa_cons pe_str pa_nil)) (pa_cons (pe_tup (pa_cons pe_str (pa_cons pe_str pa_nil))) pa_nil)))) (pe_cd D__law_drawn (hr.mono (by omega)) rfl passL (pa_cons (pv 0) (pa_cons pe_int pa_nil))) (fun _ _ => rfl)))))) pss_nil) (pss_cons (ps_if (pt_cmpR (op_eq3k K hr) (pv 3) pe_int (nomark _)) (pss_one (ps_ret (pe_tup (pa_cons pe_str (pa_cons (pe_cd D__law_sum (hr.mono (by omega)) rfl passL (pa_cons (pv 0) (pa_cons (pe_op op_sub (pv 1) pe_int) (pa_cons (pv 2) pa_nil)))) pa_nil))))) pss_nil) (pss_cons (ps_asg (pe_op op_sub (pe_ix (ix_seqk K) (pv 2) pe_int (fun _ _ => rfl)) pe_int) (pg_sub (pv 2) pe_int set_list)) (pss_cons (ps_set (i := 6) sc__law_sum.nd rfl (Or.inl rfl) (pe_cd D__law_sum (hr.mono (by omega)) rfl passL (pa_cons (pv 0) (pa_cons (pe_op op_sub (pe_op op_sub (pv 1) pe_int) (pe_ix (ix_seqk K) (pe_lst (pa_cons pe_int (pa_cons pe_int (pa_cons pe_int pa_nil)))) (pe_cd D__law_drawn (hr.mono (by omega)) rfl passL (pa_cons (pv 0) (pa_cons pe_int pa_nil))) (fun _ _ => rfl))) (pa_cons (pv 2) pa_nil))))) (pss_cons (ps_asg (pe_op (op_add4k K) (pe_ix (ix_seqk K) (pv 2) pe_int (fun _ _ => rfl)) pe_int) (pg_sub (pv 2) pe_int set_list)) (pss_one (ps_ret (pe_tup (pa_cons (pe_ix (ix_seqk K) (pe_lst (pa_cons pe_str (pa_cons pe_str (pa_cons pe_str pa_nil)))) (pe_op op_modN (pv 3) pe_int) (fun _ _ => rfl)) (pa_cons (pv 6) (pa_cons (pe_cd D__law_sum (hr.mono (by omega)) rfl passL (pa_cons (pv 0) (pa_cons (pe_op op_sub (pe_op op_sub (pv 1) pe_int) (pe_ix (ix_seqk K) (pe_lst (pa_cons pe_int (pa_cons pe_int (pa_cons pe_int pa_nil)))) (pe_cd D__law_drawn (hr.mono (by omega)) rfl passL (pa_cons (pv 0) (pa_cons pe_int pa_nil))) (fun _ _ => rfl))) (pa_cons (pv 2) pa_nil)))) pa_nil))))))))))))), fun B ds M Qd Xd h => ?_⟩)
  · obtain ⟨ns, a, b, c, deep, r, rfl, _⟩ := h
    rfl
  obtain ⟨ns, a, b, c, deep, r, rfl, hab, ha, hs, hb, hd, hr1, q⟩ := h
  rw [← M2_id ha hb]
  walk_at "dx"
  refine dg_setL ?_
  walk_at "dx"
  refine ⟨_, _, _, _, rfl, rfl, M2_b, rfl, ?_⟩
  rw [M2_setb, set0]
  walk_at "dx"
  refine ⟨ns, a, c, 12, rfl, M2_a hab, hs, by decide, by decide, fun way c1 hw0 hw1 hs1 => ?_⟩
  rw [M2_seta hab]
  walk_at "dx"
  refine ite_k ?leaf (fun hleaf c1 => ?_)
  case leaf =>
    walk_at "dx"
    refine de_lst ?_
    walk_at "dx"
    refine ⟨by simp, ?_⟩
    walk_at "dx"
    refine ⟨ns, a, _, 2, rfl, M2_a hab, hs1, by decide, by decide, fun i1 c2 h0 h1 hs2 => ?_⟩
    rw [M2_seta hab]
    obtain ⟨d1, hd1, hm1⟩ := at_mem (xs := [D.int 3, D.int 1000]) (i := i1) h0 h1
    refine d2_ix (.lst (.own _)) hd1 ?_
    obtain ⟨few, rfl, hf0, hf1⟩ : ∃ few : Int, d1 = .int few ∧ 0 < few ∧ few ≤ 1000 := by
      simp only [List.mem_cons, List.not_mem_nil, or_false] at hm1
      rcases hm1 with rfl | rfl
      · exact ⟨3, rfl, by decide, by decide⟩
      · exact ⟨1000, rfl, by decide, by decide⟩
    walk_at "dx"
    refine de_lst ?_
    walk_at "dx"
    refine de_tup ?_
    walk_at "dx"
    refine ⟨ns, a, _, few, rfl, M2_a hab, hs2, hf0, by omega, fun i2 c3 h20 h21 hs3 => ?_⟩
    rw [M2_seta hab]
    walk_at "dx"
    refine ⟨by simp, ?_⟩
    walk_at "dx"
    refine de_tup ?_
    walk_at "dx"
    refine de_lst ?_
    walk_at "dx"
    refine ⟨by simp, ?_⟩
    walk_at "dx"
    refine ⟨ns, a, _, 2, rfl, M2_a hab, hs3, by decide, by decide, fun i3 c4 h30 h31 hs4 => ?_⟩
    rw [M2_seta hab]
    obtain ⟨d2, hd2, hm2⟩ := at_mem (xs := [D.int 2, D.int 6]) (i := i3) h30 h31
    refine d2_ix (.lst (.own _)) hd2 ?_
    obtain ⟨lets, rfl, hl0, hl1⟩ : ∃ few : Int, d2 = .int few ∧ 0 < few ∧ few ≤ 6 := by
      simp only [List.mem_cons, List.not_mem_nil, or_false] at hm2
      rcases hm2 with rfl | rfl
      · exact ⟨2, rfl, by decide, by decide⟩
      · exact ⟨6, rfl, by decide, by decide⟩
    walk_at "dx"
    refine ⟨ns, a, _, lets, rfl, M2_a hab, hs4, hl0, by omega, fun i4 c5 h40 h41 hs5 => ?_⟩
    rw [M2_seta hab]
    obtain ⟨cc, hcc, hmc⟩ := at_mem (xs := [97, 98, 99, 100, 101, 102]) (i := i4) h40 (by show i4 < 6; omega)
    refine d2_ixS (by decide) hcc ?_
    have hc1 : 97 ≤ cc ∧ cc < 103 := by
      simp only [List.mem_cons, List.not_mem_nil, or_false] at hmc
      omega
    walk_at "dx"
    refine ⟨by simp, ?_⟩
    walk_at "dx"
    refine ⟨by simp, ?_⟩
    walk_at "dx"
    refine de_lst ?_
    walk_at "dx"
    refine de_tup ?_
    walk_at "dx"
    refine ⟨by simp, ?_⟩
    walk_at "dx"
    refine de_tup ?_
    walk_at "dx"
    refine ⟨by simp, ?_⟩
    walk_at "dx"
    refine ⟨by simp, ?_⟩
    refine d2_add_lst (.own _) (.own _) (by simp) ?_
    walk_at "dx"
    refine ⟨ns, a, _, 4, rfl, M2_a hab, hs5, by decide, by decide, fun i5 c6 h50 h51 hs6 => ?_⟩
    rw [M2_seta hab]
    obtain ⟨d3, hd3, hm3⟩ := at_mem (xs := ([.tup [.str "num", .int i2], .tup [.str "name", .str ⟨#[cc]⟩]] ++ [.tup [.str "ask"], .tup [.str "name", .str "a"]] : List D)) (i := i5) h50 (by show i5 < 4; exact h51)
    refine d2_ix (.lst (.own _)) hd3 ?_
    obtain ⟨z, rfl, z1, z2, z3⟩ := leaf_enc ⟨h20, by omega⟩ hc1 hm3
    walk_at "dx"
    have hq := q z c6 z1 (.inl (by rw [z2]; decide)) (by rw [z3]; exact hr1) hs6
    rw [z3] at hq
    exact hq
  walk_at "dx"
  refine ite_2 (fun _ => hleaf) (fun c2 => ?_)
  walk_at "dx"
  refine ite_2 (fun _ => hleaf) (fun c3 => ?_)
  walk_at "dx"
  clear hleaf
  have g1 : 2 ≤ deep := by have := of_decide_eq_false c1; omega
  have g2 : 3 ≤ r - 1 := by have := of_decide_eq_false c2; omega
  have hS2 := hS (by omega)
  subst hS2
  refine ite_2 (fun c4 => ?_) (fun c4 => ?_)
  · walk_at "dx"
    refine de_tup ?_
    walk_at "dx"
    refine ⟨ns, a, b, _, deep - 1, r - 1, rfl, hab, M2_a hab, hs1, M2_b, by omega, by omega, fun s1 c' k1 k2 k3 k4 => ?_⟩
    rw [M2_M2 hab]
    walk_at "dx"
    refine ⟨by simp, ?_⟩
    have hq := q (.say s1) c' k1 (.inr (by simp only [Sm.dp]; omega)) (by simp only [Sm.sz]; omega) k4
    simp only [Sm.sz] at hq
    rw [show r - ((1 + s1.sz : Nat) : Int) = r - 1 - (s1.sz : Int) by omega] at hq
    exact hq
  · walk_at "dx"
    refine dg_setL ?_
    walk_at "dx"
    refine ⟨_, _, _, _, rfl, rfl, M2_b, rfl, ?_⟩
    rw [M2_setb, set0]
    walk_at "dx"
    refine de_lst ?_
    walk_at "dx"
    refine ⟨by simp, ?_⟩
    walk_at "dx"
    refine ⟨ns, a, _, 3, rfl, M2_a hab, hs1, by decide, by decide, fun i1 c2 h0 h1 hs2 => ?_⟩
    rw [M2_seta hab]
    obtain ⟨d1, hd1, hm1⟩ := at_mem (xs := [D.int 0, D.int 0, D.int 3]) (i := i1) h0 h1
    refine d2_ix (.lst (.own _)) hd1 ?_
    obtain ⟨l1, rfl, hl0, hl1⟩ : ∃ few : Int, d1 = .int few ∧ 0 ≤ few ∧ few ≤ 3 := by
      simp only [List.mem_cons, List.not_mem_nil, or_false] at hm1
      rcases hm1 with rfl | rfl | rfl <;> exact ⟨_, rfl, by decide, by decide⟩
    walk_at "dx"
    refine ⟨ns, a, b, _, deep - 1 - l1, r - 1 - 1, rfl, hab, M2_a hab, hs2, M2_b, by omega, by omega, fun s1 c3 k1 k2 k3 k4 => ?_⟩
    rw [M2_M2 hab]
    walk_at "dx"
    refine dg_setL ?_
    walk_at "dx"
    refine ⟨_, _, _, _, rfl, rfl, M2_b, rfl, ?_⟩
    rw [M2_setb, set0]
    walk_at "dx"
    refine de_tup ?_
    walk_at "dx"
    refine de_lst ?_
    walk_at "dx"
    refine ⟨by simp, ?_⟩
    walk_at "dx"
    refine d2_modN (by decide) ?_
    have rw3 := fmod_rng (i := way) (n := 3) (by decide)
    obtain ⟨d2, hd2, hm2⟩ := at_mem (xs := [D.str "add", D.str "less", D.str "times"]) (i := way.fmod 3) rw3.1 rw3.2
    refine d2_ix (.lst (.own _)) hd2 ?_
    obtain ⟨o, rfl⟩ : ∃ o : Wd, d2 = .str o.word := by
      simp only [List.mem_cons, List.not_mem_nil, or_false] at hm2
      rcases hm2 with rfl | rfl | rfl
      · exact ⟨.add, rfl⟩
      · exact ⟨.less, rfl⟩
      · exact ⟨.times, rfl⟩
    walk_at "dx"
    refine de_lst ?_
    walk_at "dx"
    refine ⟨by simp, ?_⟩
    walk_at "dx"
    refine ⟨ns, a, _, 3, rfl, M2_a hab, k4, by decide, by decide, fun i2 c4 h20 h21 hs3 => ?_⟩
    rw [M2_seta hab]
    obtain ⟨d3, hd3, hm3⟩ := at_mem (xs := [D.int 0, D.int 0, D.int 3]) (i := i2) h20 h21
    refine d2_ix (.lst (.own _)) hd3 ?_
    obtain ⟨l2, rfl, hl20, hl21⟩ : ∃ few : Int, d3 = .int few ∧ 0 ≤ few ∧ few ≤ 3 := by
      simp only [List.mem_cons, List.not_mem_nil, or_false] at hm3
      rcases hm3 with rfl | rfl | rfl <;> exact ⟨_, rfl, by decide, by decide⟩
    walk_at "dx"
    refine ⟨ns, a, b, _, deep - 1 - l2, r - 1 - 1 - s1.sz + 1, rfl, hab, M2_a hab, hs3, M2_b, by omega, by omega, fun s2 c5 m1 m2 m3 m4 => ?_⟩
    rw [M2_M2 hab]
    walk_at "dx"
    refine ⟨by simp, ?_⟩
    have hq := q (.bin o s1 s2) c5 ⟨k1, m1⟩ (.inr (by simp only [Sm.dp]; omega)) (by simp only [Sm.sz]; omega) m4
    simp only [Sm.sz] at hq
    rw [show r - ((1 + s1.sz + s2.sz : Nat) : Int) = r - 1 - 1 - (s1.sz : Int) + 1 - (s2.sz : Int) by omega] at hq
    exact hq
theorem ok__law_sum (T : Tx w K mg aP aS es n0) (d : Dn K mg "_law_sum" s__law_sum ["_law_state", "_law_deep_here", "_law_room"]) (D__law_drawn : Cd P w K mg base "_law_drawn" 1 ["_law_state", "_law_many"] (spI K pDrawn)) (n : Nat) : Cd P w K mg base "_law_sum" (n + 2) ["_law_state", "_law_deep_here", "_law_room"] (spI K (pSumL n)) := by
  induction n with
  | zero => exact step__law_sum T d D__law_drawn 0 _ (cd_of d fun f fd F => fn_noneI (S := fun _ _ _ _ => False) fun ds M Q X h => h) (fun h => by omega)
  | succ n ih => exact step__law_sum T d D__law_drawn (n + 1) _ ih fun _ => rfl

abbrev s__law_any : Stmt := top 43
abbrev N__law_any : List Str := ["_law_state", "_law_part"]
theorem sc__law_any : FnScope N__law_any ["_law_state"] (defScope s__law_any) := ⟨rfl, rfl, rfl, by decide +kernel, rfl, by decide +kernel, by decide +kernel⟩
def pAny : Sq := fun ds M Q _ => ∃ (ns : List Int) (a : Addr) (c : Cell), ds = [.val (.ref a)] ∧ M a = some c ∧ StOk ns c ∧ ∀ (s : Sm) (c' : Cell) (M' : Mp), s.good → StOk ns c' → M' a = some c' → (∀ b e, b ≠ a → M b = some e → M' b = some e) → Q (enc s) M'
theorem ok__law_any (T : Tx w K mg aP aS es n0) (d : Dn K mg "_law_any" s__law_any ["_law_state"]) (D__law_drawn : Cd P w K mg base "_law_drawn" 1 ["_law_state", "_law_many"] (spI K pDrawn)) (D__law_sum : Cd P w K mg base "_law_sum" 17 ["_law_state", "_law_deep_here", "_law_room"] (spI K (pSumL 15))) (D__law_quiet : Cd P w K mg base "_law_quiet" 16 ["_law_part"] (spP K (pQuiet 15))) : Cd P w K mg base "_law_any" 18 ["_law_state"] (spI K pAny) := cd_of d fun f fd F => by
  refine fnI F sc__law_any (fun ds M Q X h => ?_) (fun cdv A outer s H E hr => ⟨_, (pss_cons (ps_set (i := 1) sc__law_any.nd rfl (Or.inl rfl) (pe_cd D__law_sum (hr.mono (by omega)) rfl passL (pa_cons (pv 0) (pa_cons (pe_ix (ix_seqk K) (pe_lst (pa_cons pe_int (pa_cons pe_int (pa_cons pe_int (pa_cons pe_int pa_nil))))) (pe_cd D__law_drawn (hr.mono (by omega)) rfl passL (pa_cons (pv 0) (pa_cons pe_int pa_nil))) (fun _ _ => rfl)) (pa_cons (pe_lst (pa_cons (pe_ix (ix_seqk K) (pe_lst (pa_cons pe_int (pa_cons pe_int (pa_cons pe_int pa_nil)))) (pe_cd D__law_drawn (hr.mono (by omega)) rfl passL (pa_cons (pv 0) (pa_cons pe_int pa_nil))) (fun _ _ => rfl)) pa_nil)) pa_nil))))) (pss_one (ps_ret (pe_ifExp (pt_cmpR (op_eq3k K hr) (pe_cd D__law_drawn (hr.mono (by omega)) rfl passL (pa_cons (pv 0) (pa_cons pe_int pa_nil))) pe_int (nomark _)) (pe_cd D__law_quiet (hr.mono (by omega)) rfl passL (pa_cons (pv 1) pa_nil)) (pv 1))))), fun B ds M Qd Xd h => ?_⟩)
  · obtain ⟨ns, a, c, rfl, _⟩ := h
    rfl
  obtain ⟨ns, a, c, rfl, hM, hs, q⟩ := h
  walk_at "dx"
  refine de_lst ?_
  walk_at "dx"
  refine ⟨by simp, ?_⟩
  walk_at "dx"
  refine ⟨ns, a, c, 4, rfl, hM, hs, by decide, by decide, fun i1 c1 h10 h11 hs1 => ?_⟩
  obtain ⟨d1, hd1, hm1⟩ := at_mem (xs := [D.int 3, D.int 5, D.int 9, D.int 15]) (i := i1) h10 h11
  refine d2_ix (.lst (.own _)) hd1 ?_
  obtain ⟨deep, rfl, hp0, hp1⟩ : ∃ few : Int, d1 = .int few ∧ 1 ≤ few ∧ few ≤ 15 := by
    simp only [List.mem_cons, List.not_mem_nil, or_false] at hm1
    rcases hm1 with rfl | rfl | rfl | rfl <;> exact ⟨_, rfl, by decide, by decide⟩
  walk_at "dx"
  refine de_lstC ?_
  walk_at "dx"
  refine de_lst ?_
  walk_at "dx"
  refine ⟨by simp, ?_⟩
  walk_at "dx"
  refine ⟨ns, a, _, 3, rfl, updM_same, hs1, by decide, by decide, fun i2 c2 h20 h21 hs2 => ?_⟩
  obtain ⟨d2, hd2, hm2⟩ := at_mem (xs := [D.int 8, D.int 20, D.int 60]) (i := i2) h20 h21
  refine d2_ix (.lst (.own _)) hd2 ?_
  obtain ⟨r, rfl, hr0, hr1⟩ : ∃ few : Int, d2 = .int few ∧ 1 ≤ few ∧ few ≤ 60 := by
    simp only [List.mem_cons, List.not_mem_nil, or_false] at hm2
    rcases hm2 with rfl | rfl | rfl <;> exact ⟨_, rfl, by decide, by decide⟩
  walk_at "dx"
  refine ⟨by simp, fun p hp hb => ?_⟩
  rw [updM_updM] at hp ⊢
  have hap : a ≠ p := fun z => by rw [← z, updM_same] at hp; cases hp
  walk_at "dx"
  refine ⟨ns, a, p, c2, deep, r, rfl, hap, (updM_ne hap).trans updM_same, hs2, updM_same, hp1, hr0, fun s1 c3 k1 k2 k3 k4 => ?_⟩
  walk_at "dx"
  refine ⟨ns, a, c3, 3, rfl, M2_a hap, k4, by decide, by decide, fun i3 c4 h30 h31 hs4 => ?_⟩
  rw [M2_seta hap]
  have g1 : s1.good := ⟨k1, by omega, by omega⟩
  have fin : ∀ s2 : Sm, s2.good → Qd (enc s2) (DL.M2 (updM (updM M a c2) p (.lst [.int r])) a c4 p (.lst [.int (r - s1.sz)])) := fun s2 g2 => by
    refine q s2 c4 _ g2 hs4 (M2_a hap) fun b e hb he => ?_
    have hbp : b ≠ p := fun z => by
      rw [updM_ne (fun w => hap w.symm)] at hp
      rw [z, hp] at he
      cases he
    unfold DL.M2
    rw [updM_ne hbp, updM_ne hb, updM_ne hbp, updM_ne hb]
    exact he
  walk_at "dx"
  refine ite_2 (fun c5 => ?_) (fun c5 => ?_)
  · walk_at "dx"
    refine ⟨_, vws_refl (by simp [noLs, enc_noL]), s1, rfl, g1.dp, ?_⟩
    exact fin _ ⟨quiet_ok g1.ok, by have := quiet_dp s1; have := g1.dp; omega, by have := quiet_sz s1; have := g1.sz; omega⟩
  · walk_at "dx"
    exact fin _ g1

abbrev s__law_cut : Stmt := top 50
abbrev N__law_cut : List Str := ["_law_part", "_law_found", "_law_spots", "_law_one"]
theorem sc__law_cut : FnScope N__law_cut ["_law_part", "_law_found"] (defScope s__law_cut) := ⟨rfl, rfl, rfl, by decide +kernel, rfl, by decide +kernel, by decide +kernel⟩
def pCutL (n : Nat) : Sq := fun ds M Q _ => ∃ (q : Addr) (s : Sm) (st : List D), ds = [enc s, .val (.ref q)] ∧ M q = some (.lst st) ∧ s.dp ≤ n ∧ st.length + s.sz ≤ 900 ∧ ∀ M', M' q = some (.lst (st ++ s.cuts (st.length : Nat))) → (∀ b e, b ≠ q → M b = some e → M' b = some e) → Q (.int ((st.length : Nat) + s.sz - 1)) M'
theorem ok__law_cut (T : Tx w K mg aP aS es n0) (d : Dn K mg "_law_cut" s__law_cut ["_law_part", "_law_found"]) (D__law_parts : Cd P w K mg base "_law_parts" 1 ["_law_part"] (spP K pWithinS)) : ∀ n : Nat, Cd P w K mg base "_law_cut" (n + 2) ["_law_part", "_law_found"] (spI K (pCutL n))
  | 0 => cd_of d fun f fd F => fn_noneI fun ds M Q X ⟨_, s, _, _, _, h, _⟩ => by have := s.dp_pos; omega
  | n + 1 => cd_of d fun f fd F => by
    have D__law_cut := ok__law_cut T d D__law_parts n
    refine fnI (k := n + 2) F sc__law_cut (fun ds M Q X h => ?_) (fun cdv A outer s H E hr => ⟨_, (pss_cons (ps_set (i := 2) sc__law_cut.nd rfl (Or.inl rfl) (pe_callTy (call_tuplek K) (by rfl) T.b_tuple (by decide +kernel) (pa_cons (pe_lc (own := [("_law_one", 3)]) (by rfl) sc__law_cut.nd (pi_seqk K (pe_cd D__law_parts (hr.mono (by omega)) rfl passL (pa_cons (pv 0) pa_nil))) (blkOk_by (N := N__law_cut) (sc := defScope s__law_cut) (by decide +kernel)) (fun _ _ _ _ _ => (pg_name (i := 3) sc__law_cut.nd rfl (Or.inl rfl))) (fun _ _ _ _ _ => pts_nil) (fun _ _ _ _ _ => (pe_cd D__law_cut (hr.mono (by omega)) rfl passL (pa_cons (pv 3) (pa_cons (pv 1) pa_nil))))) pa_nil))) (pss_cons (ps_expr (pe_bmk K PySem.F.plainAttrs_list PySem.F.slot_list_append PySem.F.type_list_append mt_append (pv 1) (pa_cons (pe_op (op_add4k K) (pe_tup (pa_cons (pe_callB (call_lenk K) (by rfl) T.b_len (by decide +kernel) (pa_cons (pv 1) pa_nil)) (pa_cons (pe_ix (ix_seqk K) (pv 0) pe_int (fun _ _ => rfl)) pa_nil))) (pe_ifExp (pt_cmpR (op_ne3k K hr) (pv 2) (pe_tup pa_nil) (nomark _)) (pv 2) (pe_slice (sl_3k K) (pv 0) (po_some pe_int) po_none))) pa_nil))) (pss_one (ps_ret (pe_op op_sub (pe_callB (call_lenk K) (by rfl) T.b_len (by decide +kernel) (pa_cons (pv 1) pa_nil)) pe_int))))), fun B ds M Qd Xd h => ?_⟩)
    · obtain ⟨q, s, st, rfl, _⟩ := h
      rfl
    obtain ⟨q, s, st, rfl, hq, hd, hz, k⟩ := h
    rw [enc_eq]
    walk_at "dx"
    refine de_imp (Q' := fun d M2 => ∃ (pc : Addr) (bs st2 : List D), d = .val (.ref pc) ∧ pc ≠ q ∧ M2 pc = some (.lst bs) ∧ M2 q = some (.lst st2) ∧ st2.length + 1 = st.length + s.sz ∧ st2 ++ [stepD (st2.length : Nat) s bs] = st ++ s.cuts (st.length : Nat) ∧ (∀ b e, b ≠ q → M b = some e → M2 b = some e) ∧ ((s.kids = [] ∧ bs = []) ∨ (s.kids ≠ [] ∧ ((∃ i, bs = [.int i]) ∨ ∃ i j, bs = [.int i, .int j])))) ?_ ?_
    · refine de_lcU (wip_name (by decide)) ?_
      refine di_seq ?_
      walk_at "dx"
      refine ⟨_, vws_refl (by rw [← enc_eq]; simp [noLs, enc_noL]), s, by rw [enc_eq], _, _, .lst _ _ _, by have := kids_len s; simp; omega, fun _ => trivial, fun pc hc hcb => ?_⟩
      have e2 : updM M pc (.lst []) q = some (.lst st) := upd_keep hc hq
      have hqc : pc ≠ q := fun z => by rw [z, hq] at hc; cases hc
      have ew : ∀ b e, M b = some e → b ≠ pc := fun b e he z => by rw [z, hc] at he; cases he
      have one : ∀ (a : Sm) (acc st2 : List D) (M2 : Mp) (Q : D → Mp → Prop), a.dp ≤ n → st2.length + a.sz ≤ 900 → M2 pc = some (.lst acc) → M2 q = some (.lst st2) → (∀ b e, b ≠ q → b ≠ pc → M b = some e → M2 b = some e) →
          (∀ M4, M4 pc = some (.lst (acc ++ [.int ((st2.length : Nat) + a.sz - 1)])) → M4 q = some (.lst (st2 ++ a.cuts (st2.length : Nat))) → (∀ b e, b ≠ q → M b = some e → M4 b = some e) → ∀ M3 e, M4 = updM M3 pc (.lst (acc ++ [e])) → e = .int ((st2.length : Nat) + a.sz - 1) → M3 pc = some (.lst acc) → Q e M3) →
          DE (⟨K, B, E, Xd⟩ : Pr).quiet (tCall (spI K (pCutL n)) [] E0 (tCons (tVar 3) (tCons (tVar 1) tNil))) ((wipeD (startD N__law_cut [.tup (.str s.wd :: s.tl), .val (.ref q)]) [3]).set 3 (some (enc a))) M2 Q := fun a acc st2 M2 Q h1 h2 h3 h5 h6 kk => by
        walk_at "dx"
        refine ⟨q, a, st2, rfl, h5, h1, h2, fun M3 g1 g2 => ?_⟩
        have f1 : M3 pc = some (.lst acc) := g2 pc _ hqc h3
        exact kk _ updM_same ((updM_ne hqc.symm).trans g1) (fun b e hb he => (updM_ne (ew b e he)).trans (g2 b e hb (h6 b e hb (ew b e he) he))) M3 _ rfl rfl f1
      have fr1 : ∀ b e, b ≠ q → M b = some e → updM M pc (.lst []) b = some e := fun b e _ he => upd_keep hc he
      cases s with
      | num v =>
        simp only [Sm.kids, List.map_nil, LcU]
        exact ⟨pc, [], st, rfl, hqc, updM_same, e2, by simp [Sm.sz], rfl, fr1, .inl ⟨by simp, rfl⟩⟩
      | nam v =>
        simp only [Sm.kids, List.map_nil, LcU]
        exact ⟨pc, [], st, rfl, hqc, updM_same, e2, by simp [Sm.sz], rfl, fr1, .inl ⟨by simp, rfl⟩⟩
      | ask =>
        simp only [Sm.kids, List.map_nil, LcU]
        exact ⟨pc, [], st, rfl, hqc, updM_same, e2, by simp [Sm.sz], rfl, fr1, .inl ⟨by simp, rfl⟩⟩
      | say a =>
        simp only [Sm.dp] at hd
        simp only [Sm.sz] at hz
        simp only [Sm.kids, List.map_nil, List.map_cons, LcU]
        refine dg_name ?_
        refine dt_yes ?_
        refine ite_t rfl ?_
        refine one a [] st _ _ (by omega) (by omega) updM_same e2 (fun b e _ _ he => upd_keep hc he) fun M4 h1 h3 h4 M3 e he1 he2 h5 => ?_
        subst he2
        refine ⟨h5, ?_⟩
        rw [← he1]
        refine ⟨pc, _, _, rfl, hqc, h1, h3, by rw [List.length_append, cuts_len]; simp only [Sm.sz]; omega, ?_, h4, .inr ⟨by simp, .inl ⟨_, rfl⟩⟩⟩
        simp only [Sm.cuts, List.append_assoc, List.length_append, cuts_len, Int.natCast_add, List.nil_append]
      | bin o a b =>
        simp only [Sm.dp] at hd
        simp only [Sm.sz] at hz
        simp only [Sm.kids, List.map_nil, List.map_cons, LcU]
        refine dg_name ?_
        refine dt_yes ?_
        refine ite_t rfl ?_
        refine one a [] st _ _ (by omega) (by omega) updM_same e2 (fun b e _ _ he => upd_keep hc he) fun M4 h1 h3 h4 M3 e he1 he2 h5 => ?_
        subst he2
        refine ⟨h5, ?_⟩
        rw [← he1]
        refine dg_name ?_
        refine dt_yes ?_
        refine ite_t rfl ?_
        refine one b _ _ _ _ (by omega) (by rw [List.length_append, cuts_len]; omega) h1 h3 (fun b e hb _ he => h4 b e hb he) fun M6 j1 j3 j4 M5 e he3 he4 h6 => ?_
        subst he4
        refine ⟨h6, ?_⟩
        rw [← he3]
        refine ⟨pc, _, _, rfl, hqc, j1, j3, by simp only [List.length_append, cuts_len]; simp only [Sm.sz]; omega, ?_, j4, .inr ⟨by simp, .inr ⟨_, _, rfl⟩⟩⟩
        simp only [Sm.cuts, List.append_assoc, List.length_append, cuts_len, Int.natCast_add, List.nil_append, List.cons_append, ← Int.add_assoc]
    · rintro d M2 ⟨pc, bs, st2, rfl, hpq, h1, h3, h5, h6, h7, h8⟩
      walk_at "dx"
      refine dl_tuple (.lst (.cell h1)) ?_
      walk_at "dx"
      refine de_bm ?_
      walk_at "dx"
      refine ⟨ty_list (.cell h3), ?_⟩
      walk_at "dx"
      refine de_tup ?_
      walk_at "dx"
      refine ⟨by simp, ?_⟩
      walk_at "dx"
      refine de_tup ?_
      walk_at "dx"
      refine ⟨by simp, ?_⟩
      have l2 := tl_len s
      have k2 : ∀ M3, M3 = updM M2 q (.lst (st2 ++ [stepD (st2.length : Nat) s bs])) → Qd (.int (((st2 ++ [stepD (st2.length : Nat) s bs]).length : Nat) - 1)) M3 := fun M3 hM3 => by
        subst hM3
        have k2 := k (updM M2 q (.lst (st2 ++ [stepD (st2.length : Nat) s bs]))) (by rw [h6]; exact updM_same) (fun b e hb he => (updM_ne hb).trans (h7 b e hb he))
        rw [show ((st.length : Nat) : Int) + (s.sz : Nat) - 1 = (st2 ++ [stepD (st2.length : Nat) s bs]).length - 1 by rw [List.length_append, List.length_singleton]; omega] at k2
        exact k2
      rcases h8 with ⟨hk, rfl⟩ | ⟨hk, ⟨i, rfl⟩ | ⟨i, j, rfl⟩⟩
      all_goals (refine d2_neT (by rfl) (by rfl) (by rfl) (by rfl) ?_)
      all_goals (refine ⟨_, rfl, ?_⟩)
      · refine ite_f (by rfl) ?_
        walk_at "dx"
        rw [cut1]
        refine d2_add_tup (by simp; omega) ?_
        walk_at "dx"
        refine dm_append h3 (by omega) ?_
        walk_at "dx"
        have ek : stepD (st2.length : Nat) s [] = .tup ([.int (st2.length : Nat), .str s.wd] ++ s.tl) := by unfold stepD; rw [if_pos hk]; rfl
        rw [← ek]
        exact k2 _ rfl
      · refine ite_t (by rfl) ?_
        walk_at "dx"
        refine d2_add_tup (by simp) ?_
        walk_at "dx"
        refine dm_append h3 (by omega) ?_
        walk_at "dx"
        have ek : stepD (st2.length : Nat) s [.int i] = .tup ([.int (st2.length : Nat), .str s.wd] ++ [.int i]) := by unfold stepD; rw [if_neg hk]; rfl
        rw [← ek]
        exact k2 _ rfl
      · refine ite_t (by rfl) ?_
        walk_at "dx"
        refine d2_add_tup (by simp) ?_
        walk_at "dx"
        refine dm_append h3 (by omega) ?_
        walk_at "dx"
        have ek : stepD (st2.length : Nat) s [.int i, .int j] = .tup ([.int (st2.length : Nat), .str s.wd] ++ [.int i, .int j]) := by unfold stepD; rw [if_neg hk]; rfl
        rw [← ek]
        exact k2 _ rfl

theorem dp_sz : ∀ s : Sm, s.dp ≤ s.sz
  | .num _ => Nat.le_refl _
  | .nam _ => Nat.le_refl _
  | .ask => Nat.le_refl _
  | .say a => by have := dp_sz a; simp only [Sm.dp, Sm.sz]; omega
  | .bin o a b => by have := dp_sz a; have := dp_sz b; simp only [Sm.dp, Sm.sz]; omega
theorem mxs_dp (s : Sm) : 1 + mxs (s.kids.map fun k => ((k.dp : Nat) : Int)) 0 = ((s.dp : Nat) : Int) := by
  cases s with
  | num | nam | ask => rfl
  | say a =>
    show 1 + ((a.dp : Nat) : Int) = ((1 + a.dp : Nat) : Int)
    omega
  | bin o a b =>
    show 1 + PySem.W.maxOf ((a.dp : Nat) : Int) [((b.dp : Nat) : Int)] = ((1 + max a.dp b.dp : Nat) : Int)
    have e : PySem.W.maxOf ((a.dp : Nat) : Int) [((b.dp : Nat) : Int)] = if decide (((a.dp : Nat) : Int) < ((b.dp : Nat) : Int)) = true then ((b.dp : Nat) : Int) else ((a.dp : Nat) : Int) := rfl
    rw [e]
    by_cases h : ((a.dp : Nat) : Int) < ((b.dp : Nat) : Int)
    · rw [if_pos (decide_eq_true h)]
      omega
    · rw [if_neg (by rw [decide_eq_true_eq]; exact h)]
      omega
abbrev s__law_deep : Stmt := top 53
abbrev N__law_deep : List Str := ["_law_part", "_law_one"]
theorem sc__law_deep : FnScope N__law_deep ["_law_part"] (defScope s__law_deep) := ⟨rfl, rfl, rfl, by decide +kernel, rfl, by decide +kernel, by decide +kernel⟩
def pDeep (n : Nat) : Pq := fun ds Q _ => ∃ s : Sm, ds = [enc s] ∧ s.dp ≤ n ∧ Q (.int (s.dp : Nat))
theorem ok__law_deep (T : Tx w K mg aP aS es n0) (d : Dn K mg "_law_deep" s__law_deep ["_law_part"]) (D__law_parts : Cd P w K mg base "_law_parts" 1 ["_law_part"] (spP K pWithinS)) : ∀ n : Nat, Cd P w K mg base "_law_deep" (n + 2) ["_law_part"] (spP K (pDeep n))
  | 0 => cd_of d fun f fd F => fn_noneP fun ds Q X ⟨s, _, h, _⟩ => by have := s.dp_pos; omega
  | n + 1 => cd_of d fun f fd F => by
    have D__law_deep := ok__law_deep T d D__law_parts n
    refine fnP (k := n + 2) F sc__law_deep (fun ds Q X h => ?_) (fun cdv A outer s H E hr => ⟨_, (pss_one (ps_ret (pe_op (op_add4k K) pe_int (pe_callBK (cr_maxDefk K rfl hr) (by rfl) T.b_max (by decide +kernel) (pa_cons (pe_lc (own := [("_law_one", 1)]) (by rfl) sc__law_deep.nd (pi_seqk K (pe_cd D__law_parts (hr.mono (by omega)) rfl passL (pa_cons (pv 0) pa_nil))) (blkOk_by (N := N__law_deep) (sc := defScope s__law_deep) (by decide +kernel)) (fun _ _ _ _ _ => (pg_name (i := 1) sc__law_deep.nd rfl (Or.inl rfl))) (fun _ _ _ _ _ => pts_nil) (fun _ _ _ _ _ => (pe_cd D__law_deep (hr.mono (by omega)) rfl passL (pa_cons (pv 1) pa_nil)))) pa_nil) (pk_cons pe_int pk_nil))))), fun B ds Qd Xd h => ?_⟩)
    · obtain ⟨s, rfl, _⟩ := h
      rfl
    obtain ⟨s, rfl, hs, q⟩ := h
    walk_at "dx"
    refine de_maxDef ?_
    refine da_cons ?_
    refine de_mapA (α := Sm) enc (fun _ => true) (fun k => .int (k.dp : Nat)) (wip_name (by decide)) ?_
    refine di_seq ?_
    walk_at "dx"
    refine ⟨_, vws_refl (by simp [noLs, enc_noL]), s, rfl, _, _, .lst _ _ _, s.kids, rfl, by rw [List.length_map]; have := kids_len s; omega, fun _ _ => trivial, fun e he M' hM => ?_, ?_⟩
    · walk_at "dx"
      refine ⟨rfl, ?_⟩
      walk_at "dx"
      refine ⟨rfl, rfl, fun _ => ?_⟩
      walk_at "dx"
      have hk := kids_dp he
      exact ⟨_, vws_refl (by simp [noLs, enc_noL]), e, rfl, by omega, rfl, rfl⟩
    · walk_at "dx"
      refine ⟨_, s.kids.map fun k => ((k.dp : Nat) : Int), _, rfl, rfl, ?_, ?_⟩
      · rw [show s.kids.filter (fun _ => true) = s.kids from List.filter_eq_self.mpr (fun _ _ => rfl), List.map_map]
        exact .own _
      · walk_at "dx"
        rw [mxs_dp]
        exact q

abbrev s_all_within : Stmt := top 21
abbrev N_all_within : List Str := ["part", "found", "one"]
theorem sc_all_within : FnScope N_all_within ["part"] (defScope s_all_within) := ⟨rfl, rfl, rfl, by decide +kernel, rfl, by decide +kernel, by decide +kernel⟩
theorem ok_all_within (T : Tx w K mg aP aS es n0) (d : Dn K mg "all_within" s_all_within ["part"]) (D_within : Cd P w K mg base "within" 1 ["part"] (spP K pWithinS)) : ∀ n : Nat, Cd P w K mg base "all_within" (n + 2) ["part"] (spP K (pAll n))
  | 0 => cd_of d fun f fd F => fn_noneP fun ds Q X ⟨s, _, h, _⟩ => by have := s.dp_pos; omega
  | n + 1 => cd_of d fun f fd F => by
    have D_all_within := ok_all_within T d D_within n
    refine fnP (k := n + 2) F sc_all_within (fun ds Q X h => ?_) (fun cdv A outer s H E hr => ⟨_, (pss_cons (ps_set (i := 1) sc_all_within.nd rfl (Or.inl rfl) (pe_lst (pa_cons (pv 0) pa_nil))) (pss_cons (ps_for PassesOwn.never rfl (pi_seqk K (pe_cd D_within (hr.mono (by omega)) rfl passL (pa_cons (pv 0) pa_nil))) (pg_name (i := 2) sc_all_within.nd rfl (Or.inl rfl)) (pss_one (ps_expr (pe_bmk K PySem.F.plainAttrs_list PySem.F.slot_list_extend PySem.F.type_list_extend mt_extend (pv 1) (pa_cons (pe_cd D_all_within (hr.mono (by omega)) rfl passL (pa_cons (pv 2) pa_nil)) pa_nil))))) (pss_one (ps_ret (pv 1))))), fun B ds Qd Xd h => ?_⟩)
    · obtain ⟨s, rfl, _⟩ := h
      rfl
    obtain ⟨s, rfl, hs, hz, q⟩ := h
    walk_at "dx"
    refine de_lstC ?_
    walk_at "dx"
    refine ⟨by simp, fun p hp hb => ?_⟩
    walk_at "dx"
    refine ds_for ?_
    refine di_seq ?_
    walk_at "dx"
    refine ⟨_, vws_refl (by simp [noLs, enc_noL]), s, rfl, _, _, .lst _ _ _, fun i ε M' => ∃ v : Option D, ε = [some (enc s), some (.val (.ref p)), v] ∧ M' p = some (.lst ((s.upto i).map enc)), ⟨none, rfl, by rw [upto_0]; exact updM_same⟩, fun _ _ _ _ => trivial, ?_, ?_⟩
    · rintro i d ε M' hd ⟨v, rfl, hM⟩
      rw [List.getElem?_map] at hd
      obtain ⟨k, hk, rfl⟩ : ∃ k, s.kids[i]? = some k ∧ enc k = d := by
        cases e : s.kids[i]? with
        | none => rw [e] at hd; cases hd
        | some k => rw [e] at hd; exact ⟨k, rfl, Option.some.inj hd⟩
      have hm := List.mem_of_getElem? hk
      have hl := upto_len s (i + 1)
      rw [upto_step hk, List.length_append, all_len'] at hl
      walk_at "dx"
      refine de_bm ?_
      walk_at "dx"
      refine ⟨ty_list (.cell hM), ?_⟩
      walk_at "dx"
      refine ⟨_, vws_refl (by simp [noLs, enc_noL]), k, rfl, by have := kids_dp hm; omega, by omega, ?_⟩
      walk_at "dx"
      refine dm_extend hM (.own _) (by rw [List.length_map, List.length_map, all_len']; omega) ?_
      exact ⟨some (enc k), rfl, by rw [upto_step hk, List.map_append]; exact updM_same⟩
    · rintro ε M' ⟨v, rfl, hM⟩
      rw [List.length_map, upto_end] at hM
      refine ds_ret (de_var rfl ?_)
      refine fz_cell hM (noLs_of fun d hd => ?_) q
      obtain ⟨k, _, rfl⟩ := List.mem_map.mp hd
      exact enc_noL k
abbrev s_joined : Stmt := top 22
abbrev N_joined : List Str := ["word", "one", "other"]
theorem sc_joined : FnScope N_joined ["word", "one", "other"] (defScope s_joined) := ⟨rfl, rfl, rfl, by decide +kernel, rfl, by decide +kernel, by decide +kernel⟩
def pJoined : Pq := fun ds Q _ => ∃ (o : Wd) (x y : Int), ds = [.str o.word, .int x, .int y] ∧ -1000 ≤ x ∧ x ≤ 1000 ∧ Q (.int (jn o x y))
theorem ok_joined (T : Tx w K mg aP aS es n0) (d : Dn K mg "joined" s_joined ["word", "one", "other"]) : Cd P w K mg base "joined" 1 ["word", "one", "other"] (spP K pJoined) := cd_of d fun f fd F => by
  refine fnP F sc_joined (fun ds Q X h => ?_) (fun cdv A outer s H E hr => ⟨_, (pss_cons (ps_if (pt_cmpR (op_eq3k K hr) (pv 0) pe_str (nomark _)) (pss_one (ps_ret (pe_op op_modN (pe_op (op_add4k K) (pv 1) (pv 2)) (pe_gint rfl T.g_WHEEL)))) pss_nil) (pss_one (ps_ret (pe_ifExp (pt_cmpR (op_eq3k K hr) (pv 0) pe_str (nomark _)) (pe_op op_modN (pe_op op_sub (pv 1) (pv 2)) (pe_gint rfl T.g_WHEEL)) (pe_op op_modN (pe_op op_mul2 (pv 1) (pv 2)) (pe_gint rfl T.g_WHEEL)))))), fun B ds Qd Xd h => ?_⟩)
  · obtain ⟨o, x, y, rfl, _⟩ := h
    rfl
  obtain ⟨o, x, y, rfl, h0, h1, q⟩ := h
  cases o with
  | add =>
    walk_at "dx"
    refine d2_modN (by decide) ?_
    exact fz_ret rfl q
  | less =>
    walk_at "dx"
    refine d2_modN (by decide) ?_
    exact fz_ret rfl q
  | times =>
    walk_at "dx"
    refine d2_mul (.inl ⟨by omega, by omega⟩) ?_
    walk_at "dx"
    refine d2_modN (by decide) ?_
    exact fz_ret rfl q
structure Tc_Teller (K : PySem.W.Frag) (C : Addr) : Prop where
  cl : Cls K C
  n_names : NoAttr K C "names"
  n_given : NoAttr K C "given"
  n_said : NoAttr K C "said"
  n_asked : NoAttr K C "asked"
def telO (C : Addr) (N G : D) (q : Addr) (k : Nat) : Cell := .ins C [("names", N), ("given", G), ("said", .val (.ref q)), ("asked", .int (k : Nat))]
abbrev s_Teller_init__ : Stmt := inClass (top 23) 0
abbrev N_Teller_init__ : List Str := ["self", "names", "given"]
theorem sc_Teller_init__ : FnScope N_Teller_init__ ["self", "names", "given"] (defScope s_Teller_init__) := ⟨rfl, rfl, rfl, by decide +kernel, rfl, by decide +kernel, by decide +kernel⟩
def pTInit (C : Addr) : Sq := fun ds M Q _ => ∃ (p : Addr) (N G : D), ds = [.val (.ref p), N, G] ∧ M p = some (.ins C []) ∧ ∀ (M' : Mp) (q : Addr), M' p = some (telO C N G q 0) → M' q = some (.lst []) → M q = none → (∀ b e, b ≠ p → M b = some e → M' b = some e) → Q .non M'
theorem ok_Teller_init {C : Addr} (c : Tc_Teller K C) (d : Kn K mg "Teller" C "Teller.__init__" s_Teller_init__ ["self", "names", "given"]) : Kd P w K mg base "Teller" C 1 ["self", "names", "given"] (spI K (pTInit C)) := kd_of d fun f fd F => by
  refine fnI F sc_Teller_init__ (fun ds M Q X h => ?_) (fun cdv A outer s H E hr => ⟨_, (pss_cons (ps_fld (pv 0) (pv 1) rfl) (pss_cons (ps_fld (pv 0) (pv 2) rfl) (pss_cons (ps_fld (pv 0) (pe_lst pa_nil) rfl) (pss_one (ps_fld (pv 0) pe_int rfl))))), fun B ds M Qd Xd h => ?_⟩)
  · obtain ⟨p, N, G, rfl, _⟩ := h
    rfl
  obtain ⟨p, N, G, rfl, hp, q⟩ := h
  refine ds_seq (ds_fld ?_)
  walk_at "dx"
  refine ⟨_, _, _, rfl, hp, c.cl, c.n_names, by simp, ?_⟩
  refine ds_seq (ds_fld ?_)
  walk_at "dx"
  refine ⟨_, _, _, rfl, updM_same, c.cl, c.n_given, by simp [putFD], ?_⟩
  rw [updM_updM]
  refine ds_seq (ds_fld ?_)
  refine de_lstC ?_
  walk_at "dx"
  refine ⟨by simp, fun a ha hab => ?_⟩
  walk_at "dx"
  have hpa : a ≠ p := fun z => by rw [z, updM_same] at ha; cases ha
  have hMa : M a = none := by rw [updM_ne hpa] at ha; exact ha
  refine ⟨_, _, _, rfl, upd_keep ha updM_same, c.cl, c.n_said, by exact putFD_lt (by simp [putFD]), ?_⟩
  refine ds_fld ?_
  walk_at "dx"
  refine ⟨_, _, _, rfl, updM_same, c.cl, c.n_asked, by exact putFD_lt (Nat.lt_of_le_of_lt (Nat.succ_le_succ putFD_len) (by simp [putFD])), ?_⟩
  rw [updM_updM]
  refine q _ a updM_same ?_ hMa fun b e hb he => ?_
  · rw [updM_ne hpa, updM_same]
  · rw [updM_ne hb]
    refine upd_keep ha ?_
    rw [updM_ne hb]
    exact he
abbrev s_Teller_say : Stmt := inClass (top 23) 1
abbrev N_Teller_say : List Str := ["self", "number"]
theorem sc_Teller_say : FnScope N_Teller_say ["self", "number"] (defScope s_Teller_say) := ⟨rfl, rfl, rfl, by decide +kernel, rfl, by decide +kernel, by decide +kernel⟩
def pTSay (C : Addr) : Sq := fun ds M Q _ => ∃ (p q : Addr) (N G : D) (k : Nat) (said : List Int) (n : Int), ds = [.val (.ref p), .int n] ∧ M p = some (telO C N G q k) ∧ M q = some (.lst (said.map .int)) ∧ said.length < 1000 ∧ Q (.int n) (updM M q (.lst ((said ++ [n]).map .int)))
theorem ok_Teller_say {C : Addr} (c : Tc_Teller K C) (d : Mn K C "say" "Teller.say" s_Teller_say ["self", "number"]) : Md P w K mg base C "say" 1 ["self", "number"] (spI K (pTSay C)) := md_of d c.cl fun f fd F => by
  refine fnI F sc_Teller_say (fun ds M Q X h => ?_) (fun cdv A outer s H E hr => ⟨_, (pss_cons (ps_expr (pe_bmk K PySem.F.plainAttrs_list PySem.F.slot_list_append PySem.F.type_list_append mt_append (pe_fldk K (pv 0) rfl) (pa_cons (pv 1) pa_nil))) (pss_one (ps_ret (pv 1)))), fun B ds M Qd Xd h => ?_⟩)
  · obtain ⟨p, q, N, G, k, said, n, rfl, _⟩ := h
    rfl
  obtain ⟨p, q, N, G, k, said, n, rfl, hp, hq, hl, z⟩ := h
  walk_at "dx"
  refine de_bm ?_
  refine de_fld ?_
  walk_at "dx"
  refine ⟨_, _, _, _, rfl, hp, c.cl, c.n_said, rfl, ?_⟩
  refine ⟨ty_list (.cell hq), ?_⟩
  walk_at "dx"
  refine dm_append hq (by rw [List.length_map]; omega) ?_
  walk_at "dx"
  rw [List.map_append] at z
  exact z
abbrev s_Teller_ask : Stmt := inClass (top 23) 2
abbrev N_Teller_ask : List Str := ["self"]
theorem sc_Teller_ask : FnScope N_Teller_ask ["self"] (defScope s_Teller_ask) := ⟨rfl, rfl, rfl, by decide +kernel, rfl, by decide +kernel, by decide +kernel⟩
def pTAsk (C : Addr) : Sq := fun ds M Q _ => ∃ (p q : Addr) (N : D) (gs : List Int) (k : Nat), ds = [.val (.ref p)] ∧ M p = some (telO C N (.lst .arg (gs.map .int)) q k) ∧ k < gs.length ∧ Q (.int (gvOf gs k)) (updM M p (telO C N (.lst .arg (gs.map .int)) q (k + 1)))
theorem ok_Teller_ask {C : Addr} (c : Tc_Teller K C) (d : Mn K C "ask" "Teller.ask" s_Teller_ask ["self"]) : Md P w K mg base C "ask" 1 ["self"] (spI K (pTAsk C)) := md_of d c.cl fun f fd F => by
  refine fnI F sc_Teller_ask (fun ds M Q X h => ?_) (fun cdv A outer s H E hr => ⟨_, (pss_cons (ps_fld (pv 0) (pe_op (op_add4k K) (pe_fldk K (pv 0) rfl) pe_int) rfl) (pss_one (ps_ret (pe_ix (ix_seqk K) (pe_fldk K (pv 0) rfl) (pe_op op_sub (pe_fldk K (pv 0) rfl) pe_int) (fun _ _ => rfl))))), fun B ds M Qd Xd h => ?_⟩)
  · obtain ⟨p, q, N, gs, k, rfl, _⟩ := h
    rfl
  obtain ⟨p, q, N, gs, k, rfl, hp, hl, z⟩ := h
  refine ds_seq (ds_fld ?_)
  walk_at "dx"
  refine de_fld ?_
  walk_at "dx"
  refine ⟨_, _, _, _, rfl, hp, c.cl, c.n_asked, rfl, ?_⟩
  walk_at "dx"
  refine ⟨_, _, _, rfl, hp, c.cl, c.n_asked, by simp, ?_⟩
  walk_at "dx"
  refine de_fld ?_
  walk_at "dx"
  have hM : ∀ z, updM M p z p = some z := fun z => updM_same
  refine ⟨_, _, _, _, rfl, updM_same, c.cl, c.n_given, rfl, ?_⟩
  walk_at "dx"
  refine de_fld ?_
  walk_at "dx"
  refine ⟨_, _, _, _, rfl, updM_same, c.cl, c.n_asked, rfl, ?_⟩
  walk_at "dx"
  rw [show ((k : Int) + 1 - 1) = k by omega]
  refine d2_ix (.lst (.arg _)) (gv_get hl) ?_
  exact z
abbrev s_Teller_told : Stmt := inClass (top 23) 3
abbrev N_Teller_told : List Str := ["self", "part", "one"]
theorem sc_Teller_told : FnScope N_Teller_told ["self", "part"] (defScope s_Teller_told) := ⟨rfl, rfl, rfl, by decide +kernel, rfl, by decide +kernel, by decide +kernel⟩
def pTTold (C : Addr) (n : Nat) : Sq := fun ds M Q _ => ∃ (s : Sm) (vs gs said : List Int) (p q : Addr) (k : Nat), ds = [.val (.ref p), enc s] ∧ M p = some (telO C (.dic (nmK 97 vs)) (.lst .arg (gs.map .int)) q k) ∧ M q = some (.lst (said.map .int)) ∧ s.ok ∧ s.dp ≤ n ∧ vs.length = 6 ∧ Thou vs ∧ Thou gs ∧ k + s.asks ≤ gs.length ∧ said.length + s.sz ≤ 900 ∧
  ∀ M', M' q = some (.lst ((said ++ (s.run (nmOf vs) (gvOf gs) k).2.1).map .int)) → M' p = some (telO C (.dic (nmK 97 vs)) (.lst .arg (gs.map .int)) q (s.run (nmOf vs) (gvOf gs) k).2.2) → (∀ b e, b ≠ p → b ≠ q → M b = some e → M' b = some e) → Q (.int (s.run (nmOf vs) (gvOf gs) k).1) M'
theorem ok_Teller_told (T : Tx w K mg aP aS es n0) {C : Addr} (c : Tc_Teller K C) (d : Mn K C "told" "Teller.told" s_Teller_told ["self", "part"]) (D_joined : Cd P w K mg base "joined" 1 ["word", "one", "other"] (spP K pJoined)) (D_Teller_say : Md P w K mg base C "say" 1 ["self", "number"] (spI K (pTSay C))) (D_Teller_ask : Md P w K mg base C "ask" 1 ["self"] (spI K (pTAsk C))) : ∀ n : Nat, Md P w K mg base C "told" (n + 2) ["self", "part"] (spI K (pTTold C n))
  | 0 => md_of d c.cl fun f fd F => fn_noneI fun ds M Q X ⟨s, _, _, _, _, _, _, _, _, _, _, h, _⟩ => by have := s.dp_pos; omega
  | n + 1 => md_of d c.cl fun f fd F => by
    have D_Teller_told := ok_Teller_told T c d D_joined D_Teller_say D_Teller_ask n
    refine fnI (k := n + 2) F sc_Teller_told (fun ds M Q X h => ?_) (fun cdv A outer s H E hr => ⟨_, (pss_cons (ps_if (pt_cmpR (op_eq3k K hr) (pe_ix (ix_seqk K) (pv 1) pe_int (fun _ _ => rfl)) pe_str (nomark _)) (pss_one (ps_ret (pe_ix (ix_seqk K) (pv 1) pe_int (fun _ _ => rfl)))) pss_nil) (pss_cons (ps_if (pt_cmpR (op_eq3k K hr) (pe_ix (ix_seqk K) (pv 1) pe_int (fun _ _ => rfl)) pe_str (nomark _)) (pss_one (ps_ret (pe_dget (hu_of hr) (pe_fldk K (pv 0) rfl) (pe_ix (ix_seqk K) (pv 1) pe_int (fun _ _ => rfl)) (fun _ _ => rfl)))) pss_nil) (pss_cons (ps_if (pt_cmpR (op_eq3k K hr) (pe_ix (ix_seqk K) (pv 1) pe_int (fun _ _ => rfl)) pe_str (nomark _)) (pss_one (ps_ret (pe_mcd0 (pv 0) D_Teller_ask (hr.mono (by omega)) passL))) pss_nil) (pss_cons (ps_if (pt_cmpR (op_eq3k K hr) (pe_ix (ix_seqk K) (pv 1) pe_int (fun _ _ => rfl)) pe_str (nomark _)) (pss_one (ps_ret (pe_mcd (pv 0) D_Teller_say (hr.mono (by omega)) passL (pa_cons (pe_mcd (pv 0) D_Teller_told (hr.mono (by omega)) passL (pa_cons (pe_ix (ix_seqk K) (pv 1) pe_int (fun _ _ => rfl)) pa_nil)) pa_nil)))) pss_nil) (pss_cons (ps_set (i := 2) sc_Teller_told.nd rfl (Or.inl rfl) (pe_mcd (pv 0) D_Teller_told (hr.mono (by omega)) passL (pa_cons (pe_ix (ix_seqk K) (pv 1) pe_int (fun _ _ => rfl)) pa_nil))) (pss_one (ps_ret (pe_cd D_joined (hr.mono (by omega)) rfl passL (pa_cons (pe_ix (ix_seqk K) (pv 1) pe_int (fun _ _ => rfl)) (pa_cons (pv 2) (pa_cons (pe_mcd (pv 0) D_Teller_told (hr.mono (by omega)) passL (pa_cons (pe_ix (ix_seqk K) (pv 1) pe_int (fun _ _ => rfl)) pa_nil)) pa_nil))))))))))), fun B ds M Qd Xd h => ?_⟩)
    · obtain ⟨s, vs, gs, said, p, q, k, rfl, _⟩ := h
      rfl
    obtain ⟨s, vs, gs, said, p, q, k, rfl, hp, hq, hok, hd, hv, tv, tg, ha, hz, kk⟩ := h
    have hpq : p ≠ q := fun z => by rw [z, hq] at hp; cases hp
    cases s with
    | num v =>
      simp only [enc]
      walk_at "dx"
      exact kk M (by simp only [Sm.run, List.append_nil]; exact hq) hp fun _ _ _ _ h => h
    | nam cc =>
      simp only [enc]
      walk_at "dx"
      refine de_dget ?_
      refine de_fld ?_
      walk_at "dx"
      refine ⟨_, _, _, _, rfl, hp, c.cl, c.n_names, rfl, ?_⟩
      walk_at "dx"
      refine ⟨nmK 97 vs, .inr ⟨#[cc]⟩, _, .dic _, rfl, nm_get hv hok.1 hok.2, ?_⟩
      exact kk M (by simp only [Sm.run, List.append_nil]; exact hq) hp fun _ _ _ _ h => h
    | ask =>
      simp only [enc]
      simp only [Sm.asks] at ha
      walk_at "dx"
      refine de_methI0 ?_
      walk_at "dx"
      refine ⟨p, _, rfl, hp, rfl, ?_⟩
      walk_at "dx"
      refine ⟨p, q, _, gs, k, rfl, hp, by omega, ?_⟩
      exact kk _ (by simp only [Sm.run, List.append_nil]; exact (updM_ne hpq.symm).trans hq) updM_same fun b e hb _ he => (updM_ne hb).trans he
    | say a =>
      simp only [Sm.dp] at hd
      simp only [Sm.sz] at hz
      simp only [Sm.asks] at ha
      have hoA : a.ok := hok
      simp only [enc]
      walk_at "dx"
      refine de_methI0 ?_
      walk_at "dx"
      refine ⟨p, _, rfl, hp, rfl, ?_⟩
      walk_at "dx"
      refine de_methI0 ?_
      walk_at "dx"
      refine ⟨p, _, rfl, hp, rfl, ?_⟩
      walk_at "dx"
      have hl := run_said_len (nm := nmOf vs) (gv := gvOf gs) a k
      refine ⟨a, vs, gs, said, p, q, k, rfl, hp, hq, hoA, by omega, hv, tv, tg, by omega, by omega, fun M3 g1 g2 g3 => ?_⟩
      walk_at "dx"
      refine ⟨p, q, _, _, _, _, _, rfl, g2, g1, by rw [List.length_append]; omega, ?_⟩
      exact kk _ (by rw [updM_same]; simp only [Sm.run, List.append_assoc]) ((updM_ne hpq).trans g2) fun b e hb hb2 he => (updM_ne hb2).trans (g3 b e hb hb2 he)
    | bin o a b =>
      simp only [Sm.dp] at hd
      simp only [Sm.sz] at hz
      simp only [Sm.asks] at ha
      obtain ⟨hoA, hoB⟩ : a.ok ∧ b.ok := hok
      have hk2 := run_asked (nm := nmOf vs) (gv := gvOf gs) a k
      have ng := ng_ok tv tg
      have rA := run_rng ng a k hoA
      have hlA := run_said_len (nm := nmOf vs) (gv := gvOf gs) a k
      simp only [enc]
      walk_at "dx"
      refine ite_f (by cases o <;> rfl) ?_
      walk_at "dx"
      refine ite_f (by cases o <;> rfl) ?_
      walk_at "dx"
      refine ite_f (by cases o <;> rfl) ?_
      walk_at "dx"
      refine ite_f (by cases o <;> rfl) ?_
      walk_at "dx"
      refine de_methI0 ?_
      walk_at "dx"
      refine ⟨p, _, rfl, hp, rfl, ?_⟩
      walk_at "dx"
      refine ⟨a, vs, gs, said, p, q, k, rfl, hp, hq, hoA, by omega, hv, tv, tg, by omega, by omega, fun M3 g1 g2 g3 => ?_⟩
      walk_at "dx"
      refine de_methI0 ?_
      walk_at "dx"
      refine ⟨p, _, rfl, g2, rfl, ?_⟩
      walk_at "dx"
      refine ⟨b, vs, gs, _, p, q, _, rfl, g2, g1, hoB, by omega, hv, tv, tg, by omega, by rw [List.length_append]; omega, fun M4 j1 j2 j3 => ?_⟩
      walk_at "dx"
      refine ⟨_, vws_refl rfl, o, _, _, rfl, by omega, by omega, ?_⟩
      exact kk _ (by rw [j1]; simp only [Sm.run, List.append_assoc]) j2 fun b e hb hb2 he => j3 b e hb hb2 (g3 b e hb hb2 he)

abbrev s_need_given : Stmt := top 24
abbrev N_need_given : List Str := ["letters", "asks", "names", "given", "letter"]
theorem sc_need_given : FnScope N_need_given ["letters", "asks", "names", "given"] (defScope s_need_given) := ⟨rfl, rfl, rfl, by decide +kernel, rfl, by decide +kernel, by decide +kernel⟩
def lacks (kvs : List (Key × D)) (c : Nat) : Bool := (valD kvs (.inr ⟨#[c]⟩)).isNone
def pNeedGivenX (Cn Cm : Addr) : Pq := fun ds Q X => ∃ (cs : List Nat) (a : Nat) (kvs : List (Key × D)) (gs : List Int), ds = [.lst .arg (cs.map sgD), .int (a : Nat), .dic kvs, .lst .arg (gs.map .int)] ∧ cs.length ≤ 1000 ∧
  (cs.filter (lacks kvs) ≠ [] → X (.ref Cn) none) ∧ (cs.filter (lacks kvs) = [] → (gs.length < a → X (.ref Cm) none) ∧ (a ≤ gs.length → Q .non))
theorem ok_need_given (T : Tx w K mg aP aS es n0) {Cn Cm : Addr} (ek_NoName : EK K mg "NoName" Cn) (ek_NoMore : EK K mg "NoMore" Cm) (d : Dn K mg "need_given" s_need_given ["letters", "asks", "names", "given"]) : Cd P w K mg base "need_given" 1 ["letters", "asks", "names", "given"] (spP K (pNeedGivenX Cn Cm)) := cd_of d fun f fd F => by
  refine fnPX F sc_need_given (fun ds Q X h => ?_) (fun cdv A outer s H E hr => ⟨_, (pss_cons (ps_if (pt_cmpR (op_ne3k K hr) (pe_lc (own := [("letter", 4)]) (by rfl) sc_need_given.nd (pi_seqk K (pv 0)) (blkOk_by (N := N_need_given) (sc := defScope s_need_given) (by decide +kernel)) (fun _ _ _ _ _ => (pg_name (i := 4) sc_need_given.nd rfl (Or.inl rfl))) (fun _ _ _ _ _ => (pts_one (pt_cmp (pc_dnotin (hu_of hr) (pv 4) (pv 2)) rfl))) (fun _ _ _ _ _ => (pv 4))) (pe_lst pa_nil) (nomark _)) (pss_one (ps_raise1 (takes_of rfl rfl rfl rfl) ek_NoName (by rfl))) pss_nil) (pss_one (ps_if (pt_cmpR op_gt (pv 1) (pe_callB (call_lenk K) (by rfl) T.b_len (by decide +kernel) (pa_cons (pv 3) pa_nil)) (nomark _)) (pss_one (ps_raise1 (takes_of rfl rfl rfl rfl) ek_NoMore (by rfl))) pss_nil))), fun B ds Qd Xd h => ?_⟩)
  · obtain ⟨cs, a, kvs, gs, rfl, _⟩ := h
    rfl
  obtain ⟨cs, a, kvs, gs, rfl, hl, hx, hq⟩ := h
  walk_at "dx"
  refine de_mapA (α := Nat) sgD (lacks kvs) sgD (wip_name (by decide)) ?_
  refine di_seq ?_
  walk_at "dx"
  refine ⟨_, _, .lst _ _ _, cs, rfl, by rw [List.length_map]; omega, fun _ _ => trivial, fun e he M' hM => ?_, ?_⟩
  · walk_at "dx"
    refine ⟨rfl, ?_⟩
    refine dt_B ?_
    refine de_dnotin ?_
    walk_at "dx"
    refine ⟨_, .inr ⟨#[e]⟩, .dic _, rfl, ?_⟩
    have el : lacks kvs e = (valD kvs (.inr ⟨#[e]⟩)).isNone := rfl
    rw [el]
    cases hv : valD kvs (.inr ⟨#[e]⟩) with
    | none =>
      refine ⟨_, rfl, rfl, rfl, fun z => ?_⟩
      walk_at "dx"
      exact ⟨rfl, rfl⟩
    | some d => exact ⟨_, rfl, rfl, rfl, fun z => by cases z⟩
  · generalize hc : cs.filter (lacks kvs) = l at hx hq
    walk_at "dx"
    refine de_lst ?_
    walk_at "dx"
    refine ⟨by simp, d2_neE (.own _) (.own _) ?_⟩
    cases l with
    | cons x l =>
      refine ⟨_, rfl, ite_t rfl ?_⟩
      exact ds_raise (hx (by simp))
    | nil =>
      refine ⟨_, rfl, ite_f rfl ?_⟩
      obtain ⟨h1, h2⟩ := hq rfl
      walk_at "dx"
      rw [List.length_map]
      by_cases hlt : gs.length < a
      · refine ite_t (decide_eq_true (by omega)) ?_
        exact ds_raise (h1 hlt)
      · refine ite_f (decide_eq_false (by omega)) ?_
        walk_at "dx"
        exact h2 (by omega)
abbrev s_worth : Stmt := top 25
abbrev N_worth : List Str := ["part", "names", "given", "every", "letters", "teller", "number", "one"]
theorem sc_worth : FnScope N_worth ["part", "names", "given"] (defScope s_worth) := ⟨rfl, rfl, rfl, by decide +kernel, rfl, by decide +kernel, by decide +kernel⟩
def namsOf (s : Sm) : List Nat := s.all.filterMap Sm.nam?
def pWorthX (Cn Cm : Addr) : Pq := fun ds Q X => ∃ (s : Sm) (kvs : List (Key × D)) (gs : List Int), ds = [enc s, .dic kvs, .lst .arg (gs.map .int)] ∧ s.good ∧ noLs (kvs.map (·.2)) = true ∧
  (((namsOf s).filter (lacks kvs) ≠ [] ∧ X (.ref Cn) none) ∨ ∃ vs, kvs = nmK 97 vs ∧ vs.length = 6 ∧ Thou vs ∧ Thou gs ∧ ((gs.length < s.asks ∧ X (.ref Cm) none) ∨ (s.asks ≤ gs.length ∧ Q (toldD (s.run (nmOf vs) (gvOf gs) 0)))))
theorem nams_full {s : Sm} {vs : List Int} (h : s.ok) (hv : vs.length = 6) : (namsOf s).filter (lacks (nmK 97 vs)) = [] := List.filter_eq_nil_iff.mpr fun c hc => by
  have := nams_ok (all_ok h) c hc
  unfold lacks
  rw [nm_get hv this.1 this.2]
  exact Bool.false_ne_true
theorem ok_worth (T : Tx w K mg aP aS es n0) {C Cn Cm : Addr} (c : Tc_Teller K C) (d : Dn K mg "worth" s_worth ["part", "names", "given"]) (D_need_sum : Cd P w K mg base "need_sum" 4 ["part"] (spP K pNeed)) (D_all_within : Cd P w K mg base "all_within" 17 ["part"] (spP K (pAll 15))) (D_need_given : Cd P w K mg base "need_given" 1 ["letters", "asks", "names", "given"] (spP K (pNeedGivenX Cn Cm))) (D_Teller_init__ : Kd P w K mg base "Teller" C 1 ["self", "names", "given"] (spI K (pTInit C))) (D_Teller_told : Md P w K mg base C "told" 17 ["self", "part"] (spI K (pTTold C 15))) : Cd P w K mg base "worth" 18 ["part", "names", "given"] (spP K (pWorthX Cn Cm)) := cd_of d fun f fd F => by
  refine fnPX F sc_worth (fun ds Q X h => ?_) (fun cdv A outer s H E hr => ⟨_, (pss_cons (ps_expr (pe_cd D_need_sum (hr.mono (by omega)) rfl passL (pa_cons (pv 0) pa_nil))) (pss_cons (ps_set (i := 3) sc_worth.nd rfl (Or.inl rfl) (pe_cd D_all_within (hr.mono (by omega)) rfl passL (pa_cons (pv 0) pa_nil))) (pss_cons (ps_setLc (i := 4) (own := [("one", 7)]) (by rfl) sc_worth.nd rfl rfl (sw_true rfl rfl rfl (by decide +kernel)) (pi_seqk K (pv 3)) (blkOk_by (N := N_worth) (sc := defScope s_worth) (by decide +kernel)) (fun _ _ _ _ _ => (pg_name (i := 7) sc_worth.nd rfl (Or.inl rfl))) (fun _ _ _ _ _ => (pts_one (pt_cmpR (op_eq3k K hr) (pe_ix (ix_seqk K) (pv 7) pe_int (fun _ _ => rfl)) pe_str (nomark _)))) (fun _ _ _ _ _ => (pe_ix (ix_seqk K) (pv 7) pe_int (fun _ _ => rfl)))) (pss_cons (ps_expr (pe_cd D_need_given (hr.mono (by omega)) rfl psE (pa_cons (pv 4) (pa_cons (pe_callB (call_lenk K) (by rfl) T.b_len (by decide +kernel) (pa_cons (pe_lc (own := [("one", 7)]) (by rfl) sc_worth.nd (pi_seqk K (pv 3)) (blkOk_by (N := N_worth) (sc := defScope s_worth) (by decide +kernel)) (fun _ _ _ _ _ => (pg_name (i := 7) sc_worth.nd rfl (Or.inl rfl))) (fun _ _ _ _ _ => (pts_one (pt_cmpR (op_eq3k K hr) (pe_ix (ix_seqk K) (pv 7) pe_int (fun _ _ => rfl)) pe_str (nomark _)))) (fun _ _ _ _ _ => (pv 7))) pa_nil)) (pa_cons (pv 1) (pa_cons (pv 2) pa_nil)))))) (pss_cons (ps_set (i := 5) sc_worth.nd rfl (Or.inl rfl) (pe_mk D_Teller_init__ (hr.mono (by omega)) rfl passL (pa_cons (pv 1) (pa_cons (pv 2) pa_nil)))) (pss_cons (ps_set (i := 6) sc_worth.nd rfl (Or.inl rfl) (pe_mcd (pv 5) D_Teller_told (hr.mono (by omega)) passL (pa_cons (pv 0) pa_nil))) (pss_one (ps_ret (pe_tup (pa_cons (pv 6) (pa_cons (pe_fldk K (pv 5) rfl) (pa_cons (pe_fldk K (pv 5) rfl) pa_nil)))))))))))), fun B ds Qd Xd h => ?_⟩)
  · obtain ⟨s, kvs, gs, rfl, _⟩ := h
    rfl
  obtain ⟨s, kvs, gs, rfl, hg, hnl, hcs⟩ := h
  have hz := hg.sz
  have hlen := all_len s
  walk_at "dx"
  refine ⟨_, vws_refl (by simp [noLs, enc_noL]), enc s, rfl, enc_wf s, sum_enc hg, ?_⟩
  walk_at "dx"
  refine ⟨_, vws_refl (by simp [noLs, enc_noL]), s, rfl, hg.dp, by omega, ?_⟩
  walk_at "dx"
  refine de_mapA (α := Sm) enc Sm.isNam Sm.letD (wip_name (by decide)) ?_
  refine di_seq ?_
  walk_at "dx"
  refine ⟨_, _, .lst _ _ _, s.all, rfl, by rw [List.length_map]; omega, fun _ _ => trivial, fun e he M' hM => ?_, ?_⟩
  · rw [enc_eq]
    walk_at "dx"
    refine ⟨rfl, ?_⟩
    walk_at "dx"
    rw [wd_nam]
    refine ⟨rfl, rfl, fun hn => ?_⟩
    cases e with
    | nam cc =>
      walk_at "dx"
      exact ⟨rfl, rfl⟩
    | _ => cases hn
  · rw [nams_map]
    walk_at "dx"
    refine de_callP ?_
    walk_at "dx"
    refine de_mapA (α := Sm) enc Sm.isAsk enc (wip_name (by decide)) ?_
    refine di_seq ?_
    walk_at "dx"
    refine ⟨_, _, .lst _ _ _, s.all, rfl, by rw [List.length_map]; omega, fun _ _ => trivial, fun e he M' hM => ?_, ?_⟩
    · rw [enc_eq]
      walk_at "dx"
      refine ⟨rfl, ?_⟩
      walk_at "dx"
      rw [wd_ask]
      refine ⟨rfl, rfl, fun hn => ?_⟩
      walk_at "dx"
      exact ⟨rfl, rfl⟩
    · walk_at "dx"
      rw [List.length_map, asks_all]
      have hcl := List.length_filterMap_le Sm.nam? s.all
      refine ⟨_, .cons (.own (vws_refl (noLs_of fun d hd => ?_))) (.cons (.int _) (.cons (.dic rfl (vws_refl hnl)) (.cons (.arg (vws_refl (ints_noL' _))) .nil))), _, s.asks, kvs, gs, rfl, by omega, fun hne => ?_, fun hnil => ⟨fun hlt => ?_, fun hle => ?_⟩⟩
      · obtain ⟨c, _, rfl⟩ := List.mem_map.mp hd
        rfl
      · rcases hcs with ⟨_, q⟩ | ⟨vs, rfl, hv, _⟩
        · exact q
        · exact absurd (nams_full hg.ok hv) hne
      · rcases hcs with ⟨z, _⟩ | ⟨vs, rfl, hv, tv, tg, ⟨_, q⟩ | ⟨ha, _⟩⟩
        · exact absurd hnil z
        · exact q
        · omega
      obtain ⟨vs, rfl, hv, tv, tg, ha, q⟩ : ∃ vs, kvs = nmK 97 vs ∧ vs.length = 6 ∧ Thou vs ∧ Thou gs ∧ s.asks ≤ gs.length ∧ Qd (toldD (s.run (nmOf vs) (gvOf gs) 0)) := by
        rcases hcs with ⟨z, _⟩ | ⟨vs, e, hv, tv, tg, ⟨z, _⟩ | ⟨ha, q⟩⟩
        · exact absurd hnil z
        · omega
        · exact ⟨vs, e, hv, tv, tg, ha, q⟩
      walk_at "dx"
      refine de_makeI0 ?_
      walk_at "dx"
      refine fun p hp hb => ⟨p, _, _, rfl, updM_same, fun M' qq h1 h2 h3 h4 => ⟨rfl, ?_⟩⟩
      walk_at "dx"
      refine de_methI0 ?_
      walk_at "dx"
      refine ⟨p, _, rfl, h1, rfl, ?_⟩
      walk_at "dx"
      refine ⟨s, vs, gs, [], p, qq, 0, rfl, h1, h2, hg.ok, hg.dp, hv, tv, tg, by omega, by simp; omega, fun M3 g1 g2 g3 => ?_⟩
      rw [List.nil_append] at g1
      walk_at "dx"
      refine de_tup ?_
      walk_at "dx"
      refine de_fld ?_
      walk_at "dx"
      refine ⟨_, _, _, _, rfl, g2, c.cl, c.n_said, rfl, ?_⟩
      walk_at "dx"
      refine de_fld ?_
      walk_at "dx"
      refine ⟨_, _, _, _, rfl, g2, c.cl, c.n_asked, rfl, ?_⟩
      walk_at "dx"
      refine ⟨by simp, ?_⟩
      refine ⟨_, .tup (.cons (.int _) (.cons (.cell g1 (fzs_refl (ints_noL' _))) (.cons (.int _) .nil))), ?_, q⟩
      simp [ownD, ownDs, owns_noL (ints_noL' _)]

abbrev s__law_names : Stmt := top 47
abbrev N__law_names : List Str := ["_law_state", "_law_found", "_law_letter"]
theorem sc__law_names : FnScope N__law_names ["_law_state"] (defScope s__law_names) := ⟨rfl, rfl, rfl, by decide +kernel, rfl, by decide +kernel, by decide +kernel⟩
def pNames : Sq := fun ds M Q _ => ∃ (ns : List Int) (a : Addr) (c : Cell), ds = [.val (.ref a)] ∧ M a = some c ∧ StOk ns c ∧ ∀ (p : Addr) (vs : List Int) (c' : Cell) (M' : Mp), vs.length = 6 → Thou vs → StOk ns c' → M p = none → M' a = some c' → M' p = some (.dic (nmK 97 vs)) → (∀ b e, b ≠ a → M b = some e → M' b = some e) → Q (.val (.ref p)) M'
theorem ok__law_names (T : Tx w K mg aP aS es n0) (d : Dn K mg "_law_names" s__law_names ["_law_state"]) (D__law_drawn : Cd P w K mg base "_law_drawn" 1 ["_law_state", "_law_many"] (spI K pDrawn)) : Cd P w K mg base "_law_names" 2 ["_law_state"] (spI K pNames) := cd_of d fun f fd F => by
  refine fnI F sc__law_names (fun ds M Q X h => ?_) (fun cdv A outer s H E hr => ⟨_, (pss_cons (ps_set (i := 1) sc__law_names.nd rfl (Or.inl rfl) pe_dnewK) (pss_cons (ps_for PassesOwn.never rfl (pi_seqk K pe_str) (pg_name (i := 2) sc__law_names.nd rfl (Or.inl rfl)) (pss_one (ps_dput (hu_of hr) (pv 1) (pv 2) (pe_ix (ix_seqk K) (pe_lst (pa_cons (pe_cd D__law_drawn (hr.mono (by omega)) rfl passL (pa_cons (pv 0) (pa_cons pe_int pa_nil))) (pa_cons (pe_cd D__law_drawn (hr.mono (by omega)) rfl passL (pa_cons (pv 0) (pa_cons pe_int pa_nil))) pa_nil))) (pe_cd D__law_drawn (hr.mono (by omega)) rfl passL (pa_cons (pv 0) (pa_cons pe_int pa_nil))) (fun _ _ => rfl)) rfl))) (pss_one (ps_ret (pv 1))))), fun B ds M Qd Xd h => ?_⟩)
  · obtain ⟨ns, a, c, rfl, _⟩ := h
    rfl
  obtain ⟨ns, a, c, rfl, ha, hs, q⟩ := h
  refine ds_seq (ds_asg ?_)
  refine de_dnew fun p hp hb => ?_
  have hap : a ≠ p := fun z => by rw [z, hp] at ha; cases ha
  walk_at "dx"
  refine ds_for ?_
  refine di_seq ?_
  walk_at "dx"
  refine ⟨_, _, .str _ _, fun i ε M' => ∃ (v2 : Option D) (vs : List Int) (c : Cell), ε = [some (.val (.ref a)), some (.val (.ref p)), v2] ∧ vs.length = i ∧ i ≤ 6 ∧ Thou vs ∧ StOk ns c ∧ M' a = some c ∧ M' p = some (.dic (nmK 97 vs)) ∧ (∀ b e, b ≠ a → M b = some e → M' b = some e), ⟨none, [], c, rfl, rfl, by decide, thou_nil, hs, (updM_ne hap).trans ha, updM_same, fun b e _ h => upd_keep hp h⟩, fun _ _ _ _ => trivial, ?_, ?_⟩
  · rintro i d ε M1 hd ⟨v2, vs, c, rfl, hl, hi, ht, hs, h1, h2, h3⟩
    obtain ⟨hi', rfl⟩ : i < 6 ∧ d = .str ⟨#[97 + i]⟩ := by
      have e : signs "abcdef" = [.str ⟨#[97]⟩, .str ⟨#[98]⟩, .str ⟨#[99]⟩, .str ⟨#[100]⟩, .str ⟨#[101]⟩, .str ⟨#[102]⟩] := by rfl
      rw [e] at hd
      match i, hd with
      | 0, hd => exact ⟨by decide, (Option.some.inj hd).symm⟩
      | 1, hd => exact ⟨by decide, (Option.some.inj hd).symm⟩
      | 2, hd => exact ⟨by decide, (Option.some.inj hd).symm⟩
      | 3, hd => exact ⟨by decide, (Option.some.inj hd).symm⟩
      | 4, hd => exact ⟨by decide, (Option.some.inj hd).symm⟩
      | 5, hd => exact ⟨by decide, (Option.some.inj hd).symm⟩
      | n + 6, hd => simp at hd
    walk_at "dx"
    refine ds_dput ?_
    walk_at "dx"
    refine de_lst ?_
    walk_at "dx"
    refine ⟨ns, a, c, 1000, rfl, h1, hs, by decide, by decide, fun r1 c1 h10 h11 hs1 => ?_⟩
    walk_at "dx"
    refine ⟨ns, a, c1, 3, rfl, updM_same, hs1, by decide, by decide, fun r2 c2 h20 h21 hs2 => ?_⟩
    rw [updM_updM]
    walk_at "dx"
    refine ⟨by simp, ?_⟩
    walk_at "dx"
    refine ⟨ns, a, c2, 2, rfl, updM_same, hs2, by decide, by decide, fun r3 c3 h30 h31 hs3 => ?_⟩
    rw [updM_updM]
    obtain ⟨d3, hd3, hm3⟩ := at_mem (xs := [D.int r1, D.int r2]) (i := r3) h30 h31
    refine d2_ix (.lst (.own _)) hd3 ?_
    obtain ⟨v, rfl, hv0, hv1⟩ : ∃ v : Int, d3 = .int v ∧ 0 ≤ v ∧ v < 1000 := by
      simp only [List.mem_cons, List.not_mem_nil, or_false] at hm3
      rcases hm3 with rfl | rfl
      · exact ⟨_, rfl, by omega, by omega⟩
      · exact ⟨_, rfl, by omega, by omega⟩
    walk_at "dx"
    subst hl
    refine ⟨p, nmK 97 vs, .inr ⟨#[97 + vs.length]⟩, rfl, rfl, (updM_ne hap.symm).trans h2, by rw [nmK_len]; omega, ?_⟩
    rw [nmK_put]
    refine ⟨_, vs ++ [v], c3, rfl, by simp, by omega, ht.app hv0 hv1, hs3, (updM_ne hap).trans updM_same, updM_same, fun b e hb he => ?_⟩
    have hbp : b ≠ p := fun z => by rw [z, hp] at he; cases he
    exact (updM_ne hbp).trans ((updM_ne hb).trans (h3 b e hb he))
  · rintro ε M1 ⟨v2, vs, c, rfl, hl, hi, ht, hs, h1, h2, h3⟩
    have e : (signs "abcdef").length = 6 := by rfl
    rw [e] at hl
    walk_at "dx"
    exact q p vs c M1 hl ht hs hp h1 h2 h3
abbrev s__law_given : Stmt := top 48
abbrev N__law_given : List Str := ["_law_state", "_law_k"]
theorem sc__law_given : FnScope N__law_given ["_law_state"] (defScope s__law_given) := ⟨rfl, rfl, rfl, by decide +kernel, rfl, by decide +kernel, by decide +kernel⟩
def pGiven : Sq := fun ds M Q _ => ∃ (ns : List Int) (a : Addr) (c : Cell), ds = [.val (.ref a)] ∧ M a = some c ∧ StOk ns c ∧ ∀ (p : Addr) (gs : List Int) (c' : Cell) (M' : Mp), 60 ≤ gs.length → gs.length ≤ 62 → Thou gs → StOk ns c' → M p = none → M' a = some c' → M' p = some (.lst (gs.map .int)) → (∀ b e, b ≠ a → M b = some e → M' b = some e) → Q (.val (.ref p)) M'
theorem ok__law_given (T : Tx w K mg aP aS es n0) (d : Dn K mg "_law_given" s__law_given ["_law_state"]) (D__law_drawn : Cd P w K mg base "_law_drawn" 1 ["_law_state", "_law_many"] (spI K pDrawn)) : Cd P w K mg base "_law_given" 2 ["_law_state"] (spI K pGiven) := cd_of d fun f fd F => by
  refine fnI F sc__law_given (fun ds M Q X h => ?_) (fun cdv A outer s H E hr => ⟨_, (pss_one (ps_ret (pe_lc (own := [("_law_k", 1)]) (by rfl) sc__law_given.nd (pi_range1 (by rfl) T.b_range (pa_cons (pe_op (op_add4k K) pe_int (pe_cd D__law_drawn (hr.mono (by omega)) rfl passL (pa_cons (pv 0) (pa_cons pe_int pa_nil)))) pa_nil)) (blkOk_by (N := N__law_given) (sc := defScope s__law_given) (by decide +kernel)) (fun _ _ _ _ _ => (pg_name (i := 1) sc__law_given.nd rfl (Or.inl rfl))) (fun _ _ _ _ _ => pts_nil) (fun _ _ _ _ _ => (pe_cd D__law_drawn (hr.mono (by omega)) rfl passL (pa_cons (pv 0) (pa_cons pe_int pa_nil))))))), fun B ds M Qd Xd h => ?_⟩)
  · obtain ⟨ns, a, c, rfl, _⟩ := h
    rfl
  obtain ⟨ns, a, c, rfl, ha, hs, q⟩ := h
  walk_at "dx"
  refine de_lc (wip_name (by decide)) ?_
  refine di_rng1 ?_
  walk_at "dx"
  refine ⟨ns, a, c, 3, rfl, ha, hs, by decide, by decide, fun r1 c1 h10 h11 hs1 => ?_⟩
  walk_at "dx"
  refine ⟨by omega, by omega, fun p hp hb => ?_⟩
  rw [intsD_len]
  have hap : a ≠ p := fun z => by rw [z, updM_same] at hp; cases hp
  have hMp : M p = none := by rw [updM_ne hap.symm] at hp; exact hp
  refine ⟨fun i acc M' => ∃ (gs : List Int) (c : Cell), acc = gs.map .int ∧ gs.length = i ∧ i ≤ 62 ∧ Thou gs ∧ StOk ns c ∧ M' a = some c ∧ M' p = some (.lst (gs.map .int)) ∧ (∀ b e, b ≠ a → M b = some e → M' b = some e), ⟨[], c1, rfl, rfl, by decide, thou_nil, hs1, (updM_ne hap).trans updM_same, updM_same, fun b e hb h => upd_keep hp ((updM_ne hb).trans h)⟩, ?_, ?_, ?_⟩
  · rintro i acc M1 ⟨gs, c, rfl, hl, hi, ht, hs, h1, h2, h3⟩
    exact ⟨trivial, h2, by rw [List.length_map]; omega⟩
  · rintro i d acc M1 hd ⟨gs, c, rfl, hl, hi, ht, hs, h1, h2, h3⟩
    have hi' := (List.getElem?_eq_some_iff.mp hd).1
    rw [intsD_len] at hi'
    walk_at "dx"
    refine ⟨ns, a, c, 1000, rfl, h1, hs, by decide, by decide, fun r2 c2 h20 h21 hs2 => ?_⟩
    refine ⟨(updM_ne hap.symm).trans h2, by rw [List.length_map]; omega, gs ++ [r2], c2, by simp, by simp; omega, by omega, ht.app h20 h21, hs2, (updM_ne hap).trans updM_same, by rw [List.map_append]; exact updM_same, fun b e hb he => ?_⟩
    have hbp : b ≠ p := fun z => by rw [z, hMp] at he; cases he
    exact (updM_ne hbp).trans ((updM_ne hb).trans (h3 b e hb he))
  · rintro acc M1 ⟨gs, c, rfl, hl, hi, ht, hs, h1, h2, h3⟩
    exact q p gs c M1 (by omega) (by omega) ht hs hMp h1 h2 h3

abbrev s_is_box : Stmt := top 28
abbrev N_is_box : List Str := ["box"]
theorem sc_is_box : FnScope N_is_box ["box"] (defScope s_is_box) := ⟨rfl, rfl, rfl, by decide +kernel, rfl, by decide +kernel, by decide +kernel⟩
def boxD (d : D) : Bool := match d with
  | .int i => decide (0 ≤ i) && decide (i < 200)
  | _ => false
def pIsBoxG : Pq := fun ds Q _ => ∃ d, ds = [d] ∧ wfD d = true ∧ Q (.bl (boxD d))
theorem ok_is_boxG (T : Tx w K mg aP aS es n0) (d : Dn K mg "is_box" s_is_box ["box"]) : Cd P w K mg base "is_box" 1 ["box"] (spP K pIsBoxG) := cd_of d fun f fd F => by
  refine fnP F sc_is_box (fun ds Q X h => ?_) (fun cdv A outer s H E hr => ⟨_, (pss_one (ps_ret (pe_and (pe_callB (call_isi3k K) (by rfl) T.b_isinstance (by decide +kernel) (pa_cons (pv 0) (pa_cons (pe_bltn (v := .ty "int") (by rfl) T.b_int (by decide +kernel) rfl) pa_nil))) (pe_and (pe_not (pe_callB (call_isi3k K) (by rfl) T.b_isinstance (by decide +kernel) (pa_cons (pv 0) (pa_cons (pe_bltn (v := .ty "bool") (by rfl) T.b_bool (by decide +kernel) rfl) pa_nil)))) (pe_one (pe_chain op_le op_lt pe_int (pv 0) (pe_gint rfl T.g_MOST_STEPS))))))), fun B ds Qd Xd h => ?_⟩)
  · obtain ⟨d, rfl, _⟩ := h
    rfl
  obtain ⟨d, rfl, ht, q⟩ := h
  cases d <;> first | (exact absurd ht Bool.false_ne_true) | skip
  all_goals (walk_at "dx")
  all_goals first | exact q | skip
  rename_i i
  have e : boxD (.int i) = (decide (0 ≤ i) && decide (i < 200)) := rfl
  refine ite_2 (fun c => ?_) (fun c => ?_) <;> (walk_at "dx")
  all_goals
    rw [e, c] at q
    exact q
theorem box_yes {i : Int} (h0 : 0 ≤ i) (h1 : i < 200) : boxD (.int i) = true := by simp [boxD, h0, h1]
def inPut (ok : Int → Bool) : D → Bool
  | .int i => ok i
  | _ => false
/-- which tuples are steps, if some boxes were put to -/
def stepD (ok : Int → Bool) : D → Bool
  | .tup ds => match ds with
    | b :: .str w :: r => boxD b && (if (match sizeOf' w with
        | some i => i
        | none => 0) = ((r.length + 1 : Nat) : Int) then (if w = "num" then numD (r.getD 0 .non) else if w = "name" then letD (r.getD 0 .non) else r.all fun x => boxD x && inPut ok x) else false)
    | _ => false
  | _ => false
theorem filt_none (p : D → Bool) (r : List D) : ((r.filter fun y => !p y).map fun y => y).isEmpty = r.all p := by
  rw [List.map_id']
  induction r with
  | nil => rfl
  | cons y r ih =>
    rw [List.filter_cons, List.all_cons]
    cases hc : p y with
    | true => simp only [Bool.not_true, Bool.false_eq_true, if_false, Bool.true_and]; exact ih
    | false => simp
abbrev s_is_step : Stmt := top 29
abbrev N_is_step : List Str := ["step", "put", "box"]
theorem sc_is_step : FnScope N_is_step ["step", "put"] (defScope s_is_step) := ⟨rfl, rfl, rfl, by decide +kernel, rfl, by decide +kernel, by decide +kernel⟩
def pIsStepG : Pq := fun ds Q _ => ∃ (xs : List D) (kvs : List (Key × D)), ds = [.tup xs, .dic kvs] ∧ wfD (.tup xs) = true ∧ noLs (kvs.map (·.2)) = true ∧ Q (.bl (stepD (fun i => (valD kvs (.inl i)).isSome) (.tup xs)))
theorem ok_is_stepG (T : Tx w K mg aP aS es n0) (d : Dn K mg "is_step" s_is_step ["step", "put"]) (D_is_box : Cd P w K mg base "is_box" 1 ["box"] (spP K pIsBoxG)) (D_is_number : Cd P w K mg base "is_number" 1 ["number"] (spP K pNumber)) (D_is_letter : Cd P w K mg base "is_letter" 1 ["word"] (spP K pLetter)) :
    Cd P w K mg base "is_step" 2 ["step", "put"] (spP K pIsStepG) := cd_of d fun f fd F => by
  refine fnP F sc_is_step (fun ds Q X h => ?_) (fun cdv A outer s H E hr => ⟨_, (pss_cons (ps_if (PW.pt (pw_or (pt_cmpR op_lt (pe_callB (call_lenk K) (by rfl) T.b_len (by decide +kernel) (pa_cons (pv 0) pa_nil)) pe_int (nomark _)) (pw_or (pt_not (pt_val (pe_cd D_is_box (hr.mono (by omega)) rfl passL (pa_cons (pe_ix (ix_seqk K) (pv 0) pe_int (fun _ _ => rfl)) pa_nil)))) (pw_or1 (pt_not (pt_val (pe_callB (call_isi3k K) (by rfl) T.b_isinstance (by decide +kernel) (pa_cons (pe_ix (ix_seqk K) (pv 0) pe_int (fun _ _ => rfl)) (pa_cons (pe_bltn (v := .ty "str") (by rfl) T.b_str (by decide +kernel) rfl) pa_nil))))))))) (pss_one (ps_ret pe_bl)) pss_nil) (pss_cons (ps_if (pt_cmpR (op_ne3k K hr) (pe_kget2 T.d_SIZES rfl T.g_SIZES (pe_ix (ix_seqk K) (pv 0) pe_int (fun _ _ => rfl)) pe_int ⟨rfl, rfl, rfl, rfl⟩) (pe_op op_sub (pe_callB (call_lenk K) (by rfl) T.b_len (by decide +kernel) (pa_cons (pv 0) pa_nil)) pe_int) (nomark _)) (pss_one (ps_ret pe_bl)) pss_nil) (pss_cons (ps_if (pt_cmpR (op_eq3k K hr) (pe_ix (ix_seqk K) (pv 0) pe_int (fun _ _ => rfl)) pe_str (nomark _)) (pss_one (ps_ret (pe_cd D_is_number (hr.mono (by omega)) rfl passL (pa_cons (pe_ix (ix_seqk K) (pv 0) pe_int (fun _ _ => rfl)) pa_nil)))) pss_nil) (pss_cons (ps_if (pt_cmpR (op_eq3k K hr) (pe_ix (ix_seqk K) (pv 0) pe_int (fun _ _ => rfl)) pe_str (nomark _)) (pss_one (ps_ret (pe_cd D_is_letter (hr.mono (by omega)) rfl passL (pa_cons (pe_ix (ix_seqk K) (pv 0) pe_int (fun _ _ => rfl)) pa_nil)))) pss_nil) (pss_one (ps_ret (pe_cmpR (op_eq3k K hr) (pe_lc (own := [("box", 2)]) (by rfl) sc_is_step.nd (pi_seqk K (pe_slice (sl_3k K) (pv 0) (po_some pe_int) po_none)) (blkOk_by (N := N_is_step) (sc := defScope s_is_step) (by decide +kernel)) (fun _ _ _ _ _ => (pg_name (i := 2) sc_is_step.nd rfl (Or.inl rfl))) (fun _ _ _ _ _ => (pts_one (PW.pt (pw_or (pt_not (pt_val (pe_cd D_is_box (hr.mono (by omega)) rfl passL (pa_cons (pv 2) pa_nil)))) (pw_or1 (pt_cmp (pc_dnotin (hu_of hr) (pv 2) (pv 1)) rfl)))))) (fun _ _ _ _ _ => (pv 2))) (pe_lst pa_nil) (nomark _)))))))), fun B ds Qd Xd h => ?_⟩)
  · obtain ⟨xs, kvs, rfl, _⟩ := h
    rfl
  obtain ⟨xs, kvs, rfl, ht, hn, q⟩ := h
  cases xs with
  | nil =>
    walk_at "dx"
    exact q
  | cons a xs =>
  cases xs with
  | nil =>
    walk_at "dx"
    exact q
  | cons h r =>
  have hw := wf_tup ht
  have hw1 := wf_cons hw.1
  have hw2 := wf_cons hw1.2
  have hl2 : ¬ (((a :: h :: r : List D).length : Nat) : Int) < 2 := by simp only [List.length_cons]; omega
  walk_at "dx"
  refine ⟨_, vws_refl (by simp [noLs, wf_noL hw1.1]), a, rfl, hw1.1, ?_⟩
  cases hb : boxD a with
  | false =>
    rw [show stepD (fun i => (valD kvs (.inl i)).isSome) (.tup (a :: h :: r)) = false by cases h <;> simp [stepD, hb]] at q
    walk_at "dx"
    exact q
  | true =>
  walk_at "dx"
  cases h <;> first | (exact absurd hw2.1 Bool.false_ne_true) | skip
  all_goals (walk_at "dx")
  all_goals first | exact q | skip
  rename_i x
  have e : stepD (fun i => (valD kvs (.inl i)).isSome) (.tup (a :: .str x :: r)) = (boxD a && (if (match sizeOf' x with | some i => i | none => 0) = ((r.length + 1 : Nat) : Int) then (if x = "num" then numD (r.getD 0 .non) else if x = "name" then letD (r.getD 0 .non) else r.all fun y => boxD y && inPut (fun i => (valD kvs (.inl i)).isSome) y) else false)) := rfl
  rw [e, hb, Bool.true_and] at q
  have one : ∀ {v : Int}, sizeOf' x = some v → v = 2 → v = ((r.length + 1 : Nat) : Int) → ∃ y, r = [y] ∧ wfD y = true := fun {v} _ h2 h3 => by
    have hl : r.length = 1 := by omega
    obtain ⟨y, rfl⟩ := List.length_eq_one_iff.mp hl
    exact ⟨y, rfl, (wf_cons hw2.2).1⟩
  have hlen : ((((a :: .str x :: r : List D).length : Nat) : Int) - 1) = ((r.length + 1 : Nat) : Int) := by simp only [List.length_cons]; omega
  cases hs : sizeOf' x with
  | none =>
    rw [hs] at q
    have n0 : ¬ ((0 : Int) = ((r.length + 1 : Nat) : Int)) := by omega
    rw [if_neg n0] at q
    walk_at "dx"
    refine ite_t (by rw [hlen, decide_eq_false n0]; rfl) ?_
    walk_at "dx"
    exact q
  | some v =>
    rw [hs] at q
    by_cases hv : v = ((r.length + 1 : Nat) : Int)
    · rw [if_pos hv] at q
      walk_at "dx"
      refine ite_f (by rw [hlen, decide_eq_true hv]; rfl) ?_
      walk_at "dx"
      by_cases h1 : x = "num"
      · obtain ⟨y, rfl, wy⟩ := one hs (by subst h1; exact (Option.some.inj (hs.symm.trans (by decide +kernel)))) hv
        rw [if_pos h1] at q
        refine ite_t (decide_eq_true h1) ?_
        walk_at "dx"
        obtain ⟨t, hy⟩ := wf_ty wy
        exact ⟨_, vws_refl (by simp [noLs, wf_noL wy]), y, t, rfl, hy, fz_ret rfl q⟩
      · rw [if_neg h1] at q
        refine ite_f (decide_eq_false h1) ?_
        walk_at "dx"
        by_cases h2 : x = "name"
        · obtain ⟨y, rfl, wy⟩ := one hs (by subst h2; exact (Option.some.inj (hs.symm.trans (by decide +kernel)))) hv
          rw [if_pos h2] at q
          refine ite_t (decide_eq_true h2) ?_
          walk_at "dx"
          exact ⟨_, vws_refl (by simp [noLs, wf_noL wy]), y, rfl, wy, fz_ret rfl q⟩
        · rw [if_neg h2] at q
          refine ite_f (decide_eq_false h2) ?_
          walk_at "dx"
          refine de_mapA (α := D) (fun y => y) (fun y => !(boxD y && inPut (fun i => (valD kvs (.inl i)).isSome) y)) (fun y => y) (wip_name (by decide)) ?_
          refine di_seq ?_
          walk_at "dx"
          have hlr := (wf_tup ht).2
          simp only [List.length_cons] at hlr
          refine ⟨_, _, .tup _ _, r, by rw [cut2]; simp, by rw [cut2]; omega, fun _ _ => trivial, fun y hy M' hM => ?_, ?_⟩
          · have wy := wfs_mem hw2.2 hy
            walk_at "dx"
            refine ⟨rfl, ?_⟩
            walk_at "dx"
            refine ⟨_, vws_refl (by simp [noLs, wf_noL wy]), y, rfl, wy, ?_⟩
            cases hby : boxD y with
            | false =>
              rw [Bool.false_and]
              walk_at "dx"
              refine ⟨rfl, rfl, fun _ => ?_⟩
              walk_at "dx"
              exact ⟨rfl, rfl⟩
            | true =>
              obtain ⟨j, rfl⟩ : ∃ j, y = .int j := by
                cases y <;> first | (exact ⟨_, rfl⟩) | (cases hby)
              walk_at "dx"
              refine de_dnotin ?_
              walk_at "dx"
              refine ⟨_, .inl j, .dic _, rfl, ?_⟩
              rw [Bool.true_and]
              show _
              cases hv2 : valD kvs (.inl j) with
              | none =>
                refine ⟨_, rfl, rfl, ?_, fun z => ?_⟩
                · simp [inPut, hv2]
                · walk_at "dx"
                  exact ⟨rfl, rfl⟩
              | some d2 =>
                refine ⟨_, rfl, rfl, ?_, fun z => ?_⟩
                · simp [inPut, hv2]
                · simp [inPut, hv2] at z
          · refine de_lst ?_
            walk_at "dx"
            refine ⟨by simp, d2_eqE (.own _) (.own _) ?_⟩
            rw [filt_none (fun y => boxD y && inPut (fun i => (valD kvs (.inl i)).isSome) y) r]
            exact fz_ret rfl q
    · rw [if_neg hv] at q
      walk_at "dx"
      refine ite_t (by rw [hlen, decide_eq_false hv]; rfl) ?_
      walk_at "dx"
      exact q

abbrev s_BadSteps_init__ : Stmt := inClass (top 3) 0
abbrev N_BadSteps_init__ : List Str := ["self", "number"]
theorem sc_BadSteps_init__ : FnScope N_BadSteps_init__ ["self", "number"] (defScope s_BadSteps_init__) := ⟨rfl, rfl, rfl, by decide +kernel, rfl, by decide +kernel, by decide +kernel⟩
theorem ini_BadSteps {S C f : Addr} {fd : FuncData} (F : Fun K "__init__" "BadSteps.__init__" s_BadSteps_init__ f fd) (hS : mg "StepError" = some (.ref S)) (se : SeI K S (.type "type")) (oe : OexC K C) (no : PySem.W.findIn K (.ref C) "number" = some none) : FnOk P w K mg base (L2.CX P w) 1 f fd ["self", "number"] (spField C "number") :=
  ok_field (m := "it can't be") F sc_BadSteps_init__ oe no fun cdv A outer s H E hr => (pss_cons (ps_expr (pe_seinit (by rfl) hS se (pa_cons (pv 0) (pa_cons pe_str pa_nil)))) (pss_one (ps_ost (pv 0) (pv 1))))
def inB (l : List Stp) : Int → Bool := fun i => decide (i ∈ l.map Stp.box)
def BadAt (xs : List D) (n : Nat) : Prop := (xs = [] ∧ n = 0) ∨ ∃ (l : List Stp) (ys r : List D), xs = l.map encS ++ .tup ys :: r ∧ okSt [] l ∧ n = l.length ∧ n ≤ 200 ∧ wfD (.tup ys) = true ∧ noLs r = true ∧ xs.length ≤ 1000 ∧ (n = 200 ∨ stepD (inB l) (.tup ys) = false)
theorem size_wd (o : Wd) : sizeOf' o.word = some 3 := by cases o <;> decide +kernel
theorem step_good {t : Stp} {put : List Int} {ok : Int → Bool} (ht : t.ok put) (h : ∀ x ∈ put, ok x = true) : stepD ok (encS t) = true := by
  have hb := box_yes ht.lo ht.hi
  have hu : ∀ x ∈ t.uses, (boxD (.int x) && inPut ok (.int x)) = true := fun x hx => by
    have := ht.us x hx
    rw [box_yes this.1 this.2.1, Bool.true_and]
    exact h x this.2.2
  cases t with
  | num b v =>
    have hf := ht.fit
    have e : numD (.int v) = true := by simp [numD]; exact hf
    show (boxD (.int b) && (if (match sizeOf' "num" with | some i => i | none => 0) = ((1 + 1 : Nat) : Int) then (if (("num" : Str) = "num") then numD (.int v) else if (("num" : Str) = "name") then letD (.int v) else [D.int v].all fun x => boxD x && inPut ok x) else false)) = true
    rw [show boxD (.int b) = true from hb, if_pos (by decide +kernel), if_pos rfl, e]
    rfl
  | nam b c =>
    have hf := ht.fit
    show (boxD (.int b) && (if (match sizeOf' "name" with | some i => i | none => 0) = ((1 + 1 : Nat) : Int) then (if (("name" : Str) = "num") then numD (.str ⟨#[c]⟩) else if (("name" : Str) = "name") then letD (.str ⟨#[c]⟩) else [D.str ⟨#[c]⟩].all fun x => boxD x && inPut ok x) else false)) = true
    rw [show boxD (.int b) = true from hb, if_pos (by decide +kernel), if_neg (by decide +kernel), if_pos rfl, let_nam hf]
    rfl
  | ask b =>
    show (boxD (.int b) && (if (match sizeOf' "ask" with | some i => i | none => 0) = ((0 + 1 : Nat) : Int) then (if (("ask" : Str) = "num") then numD .non else if (("ask" : Str) = "name") then letD .non else ([] : List D).all fun x => boxD x && inPut ok x) else false)) = true
    rw [show boxD (.int b) = true from hb, if_pos (by decide +kernel), if_neg (by decide +kernel), if_neg (by decide +kernel)]
    rfl
  | say b x =>
    show (boxD (.int b) && (if (match sizeOf' "say" with | some i => i | none => 0) = ((1 + 1 : Nat) : Int) then (if (("say" : Str) = "num") then numD (.int x) else if (("say" : Str) = "name") then letD (.int x) else [D.int x].all fun x => boxD x && inPut ok x) else false)) = true
    rw [show boxD (.int b) = true from hb, if_pos (by decide +kernel), if_neg (by decide +kernel), if_neg (by decide +kernel)]
    rw [List.all_cons, hu x (by simp [Stp.uses])]
    rfl
  | bin b o x y =>
    show (boxD (.int b) && (if (match sizeOf' o.word with | some i => i | none => 0) = ((2 + 1 : Nat) : Int) then (if o.word = "num" then numD (.int x) else if o.word = "name" then letD (.int x) else [D.int x, D.int y].all fun x => boxD x && inPut ok x) else false)) = true
    rw [show boxD (.int b) = true from hb, if_pos (by rw [size_wd]; decide), if_neg (by cases o <;> decide +kernel), if_neg (by cases o <;> decide +kernel)]
    rw [List.all_cons, List.all_cons, hu x (by simp [Stp.uses]), hu y (by simp [Stp.uses])]
    rfl
theorem encS_wf (t : Stp) : wfD (encS t) = true := by
  cases t with
  | num b v => simp [encS, wfD, wfDs]; decide +kernel
  | nam b c => simp [encS, wfD, wfDs]; exact ⟨by decide +kernel, by show 1 ≤ 1000; decide⟩
  | ask b => simp [encS, wfD, wfDs]; decide +kernel
  | say b x => simp [encS, wfD, wfDs]; decide +kernel
  | bin b o x y =>
    simp [encS, wfD, wfDs]
    cases o <;> decide +kernel
abbrev s_need_steps : Stmt := top 30
abbrev N_need_steps : List Str := ["steps", "put", "number", "step"]
theorem sc_need_steps : FnScope N_need_steps ["steps"] (defScope s_need_steps) := ⟨rfl, rfl, rfl, by decide +kernel, rfl, by decide +kernel, by decide +kernel⟩
def pNeedStepsX (C : Addr) : Pq := fun ds Q X => ∃ xs, ds = [.lst .arg xs] ∧ ((∃ n : Nat, BadAt xs n ∧ X (.ref C) (some [("number", .int (n : Nat))])) ∨ ∃ l : List Stp, xs = l.map encS ∧ l ≠ [] ∧ l.length ≤ 200 ∧ okSt [] l ∧ Q .non)
theorem ok_need_stepsX (T : Tx w K mg aP aS es n0) {C : Addr} (ek_BadSteps : EKF P w K mg base "BadSteps" C "number") (d : Dn K mg "need_steps" s_need_steps ["steps"]) (D_is_step : Cd P w K mg base "is_step" 2 ["step", "put"] (spP K pIsStepG)) : Cd P w K mg base "need_steps" 3 ["steps"] (spP K (pNeedStepsX C)) := cd_of d fun f fd F => by
  refine fnPX F sc_need_steps (fun ds Q X h => ?_) (fun cdv A outer s H E hr => ⟨_, (pss_cons (ps_set (i := 1) sc_need_steps.nd rfl (Or.inl rfl) pe_dnewK) (pss_cons (ps_if (pt_cmpR (op_eq3k K hr) (pe_callB (call_lenk K) (by rfl) T.b_len (by decide +kernel) (pa_cons (pv 0) pa_nil)) pe_int (nomark _)) (pss_one (ps_raiseF (takes_of rfl rfl rfl rfl) ek_BadSteps (hr.mono (by omega)) (by rfl) (pa_cons pe_int pa_nil))) pss_nil) (pss_one (ps_for (passes_of rfl) rfl (pi_enum (by rfl) T.b_enumerate (pa_cons (pv 0) pa_nil)) (pg_tupk K (n := 2) (by rfl) (pgs_cons (pg_name (i := 2) sc_need_steps.nd rfl (Or.inl rfl)) (pgs_cons (pg_name (i := 3) sc_need_steps.nd rfl (Or.inl rfl)) pgs_nil))) (pss_cons (ps_if (PW.pt (pw_or (pt_cmpR (op_eq3k K hr) (pv 2) (pe_gint rfl T.g_MOST_STEPS) (nomark _)) (pw_or1 (pt_not (pt_val (pe_cd D_is_step (hr.mono (by omega)) rfl passL (pa_cons (pv 3) (pa_cons (pv 1) pa_nil)))))))) (pss_one (ps_raiseF (takes_of rfl rfl rfl rfl) ek_BadSteps (hr.mono (by omega)) (by rfl) (pa_cons (pv 2) pa_nil))) pss_nil) (pss_one (ps_dput (hu_of hr) (pv 1) (pe_ix (ix_seqk K) (pv 3) pe_int (fun _ _ => rfl)) pe_bl rfl))))))), fun B ds Qd Xd h => ?_⟩)
  · obtain ⟨xs, rfl, _⟩ := h
    rfl
  obtain ⟨xs, rfl, hc⟩ := h
  have key : ∃ (l : List Stp) (rest : List D), xs = l.map encS ++ rest ∧ okSt [] l ∧ l.length ≤ 200 ∧ noLs rest = true ∧ xs.length ≤ 1000 ∧ (xs = [] → Xd (.ref C) (some [("number", .int (0 : Nat))])) ∧
      (∀ x r, rest = x :: r → ∃ ys, x = .tup ys ∧ wfD (.tup ys) = true ∧ (l.length = 200 ∨ stepD (inB l) (.tup ys) = false) ∧ Xd (.ref C) (some [("number", .int (l.length : Nat))])) ∧ (rest = [] → xs ≠ [] → Qd .non) := by
    rcases hc with ⟨n, ⟨rfl, rfl⟩ | ⟨l, ys, r, rfl, hok, rfl, hl, hw, hr, hx, hb⟩, q⟩ | ⟨l, rfl, hne, hl, hok, q⟩
    · exact ⟨[], [], rfl, trivial, by decide, rfl, by decide, fun _ => q, fun x r e => (by cases e), fun _ z => absurd rfl z⟩
    · refine ⟨l, .tup ys :: r, rfl, hok, hl, by simp [noLs, wf_noL hw, hr], hx, fun e => by simp at e, fun x r' e => ?_, fun e => by cases e⟩
      cases e
      exact ⟨ys, rfl, hw, hb, q⟩
    · exact ⟨l, [], by simp, hok, hl, rfl, by rw [List.length_map]; omega, fun e => absurd (List.map_eq_nil_iff.mp e) hne, fun x r e => (by cases e), fun _ _ => q⟩
  clear hc
  obtain ⟨l, rest, hxs, hok, hl, hnl, hx, q0, qb, qg⟩ := key
  refine ds_seq (ds_asg ?_)
  refine de_dnew fun p hp hb => ?_
  walk_at "dx"
  by_cases h0 : xs = []
  · refine ite_t (decide_eq_true (by rw [h0]; rfl)) ?_
    refine ds_raiseF ?_
    walk_at "dx"
    exact q0 h0
  refine ite_f (decide_eq_false (fun z => h0 (List.length_eq_zero_iff.mp (by omega)))) ?_
  walk_at "dx"
  refine ds_for ?_
  refine di_enum ?_
  walk_at "dx"
  refine ⟨_, _, rfl, fun i ε M' => ∃ (v2 v3 : Option D) (kvs : List (Key × D)), ε = [some (.lst .arg xs), some (.val (.ref p)), v2, v3] ∧ M' p = some (.dic kvs) ∧ i ≤ l.length ∧ kvs.length ≤ i ∧ (∀ x : Int, (valD kvs (.inl x)).isSome = inB (l.take i) x) ∧ noLs (kvs.map (·.2)) = true, ⟨none, none, [], rfl, updM_same, Nat.zero_le _, Nat.le_refl _, fun x => rfl, rfl⟩, fun _ _ _ _ => trivial, ?_, ?_⟩
  · rintro i d ε M' hd ⟨v2, v3, kvs, rfl, hM, hil, hk, hm, hn⟩
    obtain ⟨x, hx, rfl⟩ := pairs_get hd
    have hfun : (fun i => (valD kvs (.inl i)).isSome) = inB (l.take i) := funext hm
    refine dg_tup rfl ?_
    walk_at "dx"
    by_cases hi : i < l.length
    · have hto := okSt_get hok (List.getElem?_eq_getElem hi)
      obtain ⟨t, ht⟩ : ∃ t, l[i]? = some t := ⟨_, List.getElem?_eq_getElem hi⟩
      have hto := okSt_get hok ht
      obtain rfl : encS t = x := by
        rw [hxs, List.getElem?_append_left (by rw [List.length_map]; exact hi), List.getElem?_map, ht] at hx
        exact Option.some.inj hx
      refine ite_f (decide_eq_false (by omega)) ?_
      walk_at "dx"
      obtain ⟨r, hr⟩ : ∃ r, encS t = .tup (.int t.box :: r) := by cases t <;> exact ⟨_, rfl⟩
      have hg : stepD (inB (l.take i)) (encS t) = true := step_good hto fun x hx => decide_eq_true (by simpa using hx)
      have hwt := encS_wf t
      rw [hr] at hg hwt ⊢
      refine ⟨_, .cons (vw_refl (wf_noL hwt)) (.cons (.cellD hM rfl (vws_refl hn)) .nil), _, kvs, rfl, hwt, hn, ?_⟩
      rw [hfun, hg]
      walk_at "dx"
      refine ds_dput ?_
      walk_at "dx"
      refine ⟨p, kvs, .inl t.box, rfl, rfl, hM, by omega, _, _, _, rfl, updM_same, hi, ?_, fun x => ?_, ?_⟩
      · have := putD_len (kvs := kvs) (k := (.inl t.box : Key)) (v := .bl true)
        omega
      · rw [valD_put]
        unfold inB
        rw [List.take_add_one, ht, List.map_append]
        by_cases hb : (Sum.inl t.box : Key) = .inl x
        · rw [if_pos hb]
          cases hb
          exact (decide_eq_true (by simp)).symm
        · rw [if_neg hb, hm x]
          have hb' : ¬ x = t.box := fun z => hb (by rw [z])
          unfold inB
          simp [hb']
      · exact putD_noL rfl hn
    · have hie : i = l.length := by omega
      subst hie
      obtain ⟨y, r, hrest⟩ : ∃ y r, rest = y :: r := by
        cases rest with
        | nil =>
          rw [hxs, List.append_nil, List.getElem?_map, List.getElem?_eq_none (Nat.le_refl _)] at hx
          cases hx
        | cons y r => exact ⟨_, _, rfl⟩
      obtain rfl : y = x := by
        rw [hxs, hrest, List.getElem?_append_right (by rw [List.length_map]; exact Nat.le_refl _), List.length_map, Nat.sub_self] at hx
        exact Option.some.inj hx
      obtain ⟨ys, rfl, hw, hbd, qx⟩ := qb _ _ hrest
      rw [List.take_length] at hfun
      by_cases h2 : l.length = 200
      · refine ite_t (decide_eq_true (by omega)) ?_
        walk_at "dx"
        refine ds_raiseF ?_
        walk_at "dx"
        exact qx
      · refine ite_f (decide_eq_false (by omega)) ?_
        walk_at "dx"
        refine ⟨_, .cons (vw_refl (wf_noL hw)) (.cons (.cellD hM rfl (vws_refl hn)) .nil), _, kvs, rfl, hw, hn, ?_⟩
        rw [hfun, hbd.resolve_left h2]
        walk_at "dx"
        refine ds_raiseF ?_
        walk_at "dx"
        exact qx
  · rintro ε M' ⟨v2, v3, kvs, rfl, hM, hil, hk, hm⟩
    walk_at "dx"
    refine qg ?_ h0
    cases rest with
    | nil => rfl
    | cons y r => rw [pairsFrom_len, hxs, List.length_append, List.length_map, List.length_cons] at hil; omega

abbrev s_step_worth : Stmt := top 31
abbrev N_step_worth : List Str := ["teller", "held", "step"]
theorem sc_step_worth : FnScope N_step_worth ["teller", "held", "step"] (defScope s_step_worth) := ⟨rfl, rfl, rfl, by decide +kernel, rfl, by decide +kernel, by decide +kernel⟩
def pStepW (C : Addr) : Sq := fun ds M Q _ => ∃ (t : Stp) (vs gs said : List Int) (p q r : Addr) (k : Nat) (kh : List (Key × D)) (L : Tb), ds = [.val (.ref p), .val (.ref r), encS t] ∧ M p = some (telO C (.dic (nmK 97 vs)) (.lst .arg (gs.map .int)) q k) ∧ M q = some (.lst (said.map .int)) ∧ M r = some (.dic kh) ∧ TbOk kh L ∧ t.fit ∧ vs.length = 6 ∧ said.length < 900 ∧ (∀ x ∈ t.uses, ∃ v, L x = some v ∧ 0 ≤ v ∧ v < 1000) ∧ (t.isAsk = true → k < gs.length) ∧
  ∀ M', M' q = some (.lst ((t.go (nmOf vs) (gvOf gs) (L, said, k)).2.1.map .int)) → M' p = some (telO C (.dic (nmK 97 vs)) (.lst .arg (gs.map .int)) q (t.go (nmOf vs) (gvOf gs) (L, said, k)).2.2) → (∀ b e, b ≠ p → b ≠ q → M b = some e → M' b = some e) → Q (.int (t.go (nmOf vs) (gvOf gs) (L, said, k)).1) M'
theorem ok_step_worth (T : Tx w K mg aP aS es n0) {C : Addr} (c : Tc_Teller K C) (d : Dn K mg "step_worth" s_step_worth ["teller", "held", "step"]) (D_joined : Cd P w K mg base "joined" 1 ["word", "one", "other"] (spP K pJoined)) (D_Teller_say : Md P w K mg base C "say" 1 ["self", "number"] (spI K (pTSay C))) (D_Teller_ask : Md P w K mg base C "ask" 1 ["self"] (spI K (pTAsk C))) : Cd P w K mg base "step_worth" 2 ["teller", "held", "step"] (spI K (pStepW C)) := cd_of d fun f fd F => by
  refine fnI F sc_step_worth (fun ds M Q X h => ?_) (fun cdv A outer s H E hr => ⟨_, (pss_cons (ps_if (pt_cmpR (op_eq3k K hr) (pe_ix (ix_seqk K) (pv 2) pe_int (fun _ _ => rfl)) pe_str (nomark _)) (pss_one (ps_ret (pe_ix (ix_seqk K) (pv 2) pe_int (fun _ _ => rfl)))) pss_nil) (pss_cons (ps_if (pt_cmpR (op_eq3k K hr) (pe_ix (ix_seqk K) (pv 2) pe_int (fun _ _ => rfl)) pe_str (nomark _)) (pss_one (ps_ret (pe_dget (hu_of hr) (pe_fldk K (pv 0) rfl) (pe_ix (ix_seqk K) (pv 2) pe_int (fun _ _ => rfl)) (fun _ _ => rfl)))) pss_nil) (pss_cons (ps_if (pt_cmpR (op_eq3k K hr) (pe_ix (ix_seqk K) (pv 2) pe_int (fun _ _ => rfl)) pe_str (nomark _)) (pss_one (ps_ret (pe_mcd0 (pv 0) D_Teller_ask (hr.mono (by omega)) passL))) pss_nil) (pss_cons (ps_if (pt_cmpR (op_eq3k K hr) (pe_ix (ix_seqk K) (pv 2) pe_int (fun _ _ => rfl)) pe_str (nomark _)) (pss_one (ps_ret (pe_mcd (pv 0) D_Teller_say (hr.mono (by omega)) passL (pa_cons (pe_dget (hu_of hr) (pv 1) (pe_ix (ix_seqk K) (pv 2) pe_int (fun _ _ => rfl)) (fun _ _ => rfl)) pa_nil)))) pss_nil) (pss_one (ps_ret (pe_cd D_joined (hr.mono (by omega)) rfl passL (pa_cons (pe_ix (ix_seqk K) (pv 2) pe_int (fun _ _ => rfl)) (pa_cons (pe_dget (hu_of hr) (pv 1) (pe_ix (ix_seqk K) (pv 2) pe_int (fun _ _ => rfl)) (fun _ _ => rfl)) (pa_cons (pe_dget (hu_of hr) (pv 1) (pe_ix (ix_seqk K) (pv 2) pe_int (fun _ _ => rfl)) (fun _ _ => rfl)) pa_nil)))))))))), fun B ds M Qd Xd h => ?_⟩)
  · obtain ⟨t, vs, gs, said, p, q, r, k, kh, L, rfl, _⟩ := h
    rfl
  obtain ⟨t, vs, gs, said, p, q, r, k, kh, L, rfl, hp, hq, hr1, hT, hf, hv, hl, hu, ha, kk⟩ := h
  have hpq : p ≠ q := fun z => by rw [z, hq] at hp; cases hp
  cases t with
  | num b v =>
    simp only [encS]
    walk_at "dx"
    exact kk M hq hp fun _ _ _ _ h => h
  | nam b cc =>
    simp only [encS]
    walk_at "dx"
    refine de_dget ?_
    refine de_fld ?_
    walk_at "dx"
    refine ⟨_, _, _, _, rfl, hp, c.cl, c.n_names, rfl, ?_⟩
    walk_at "dx"
    refine ⟨nmK 97 vs, .inr ⟨#[cc]⟩, _, .dic _, rfl, nm_get hv hf.1 hf.2, ?_⟩
    exact kk M hq hp fun _ _ _ _ h => h
  | ask b =>
    simp only [encS]
    walk_at "dx"
    refine de_methI0 ?_
    walk_at "dx"
    refine ⟨p, _, rfl, hp, rfl, ?_⟩
    walk_at "dx"
    refine ⟨p, q, _, gs, k, rfl, hp, ha rfl, ?_⟩
    exact kk _ ((updM_ne hpq.symm).trans hq) updM_same fun b e hb _ he => (updM_ne hb).trans he
  | say b x =>
    obtain ⟨v, hx, _, _⟩ := hu x (by simp [Stp.uses])
    have hx' := hT x
    rw [hx] at hx'
    simp only [encS]
    walk_at "dx"
    refine de_methI0 ?_
    walk_at "dx"
    refine ⟨p, _, rfl, hp, rfl, ?_⟩
    walk_at "dx"
    refine de_dget ?_
    walk_at "dx"
    refine ⟨kh, .inl x, _, .cell hr1, rfl, hx', ?_⟩
    walk_at "dx"
    refine ⟨p, q, _, _, k, said, v, rfl, hp, hq, by omega, ?_⟩
    have kk2 := fun M' h1 h2 h3 => kk M' h1 h2 h3
    simp only [Stp.go, hx, Option.getD_some] at kk2
    exact kk2 _ updM_same ((updM_ne hpq).trans hp) fun b e _ hb he => (updM_ne hb).trans he
  | bin b o x y =>
    obtain ⟨v, hx, hx0, hx1⟩ := hu x (by simp [Stp.uses])
    have hx' := hT x
    rw [hx] at hx'
    obtain ⟨v2, hy, hy0, hy1⟩ := hu y (by simp [Stp.uses])
    have hy' := hT y
    rw [hy] at hy'
    simp only [encS]
    walk_at "dx"
    refine ite_f (by cases o <;> rfl) ?_
    walk_at "dx"
    refine ite_f (by cases o <;> rfl) ?_
    walk_at "dx"
    refine ite_f (by cases o <;> rfl) ?_
    walk_at "dx"
    refine ite_f (by cases o <;> rfl) ?_
    walk_at "dx"
    refine de_dget ?_
    walk_at "dx"
    refine ⟨kh, .inl x, _, .cell hr1, rfl, hx', ?_⟩
    walk_at "dx"
    refine de_dget ?_
    walk_at "dx"
    refine ⟨kh, .inl y, _, .cell hr1, rfl, hy', ?_⟩
    walk_at "dx"
    refine ⟨_, vws_refl rfl, o, _, _, rfl, by omega, by omega, ?_⟩
    have kk2 := fun M' h1 h2 h3 => kk M' h1 h2 h3
    simp only [Stp.go, hx, hy, Option.getD_some] at kk2
    exact kk2 M hq hp fun _ _ _ _ h => h
theorem go_rng {vs gs : List Int} (tv : Thou vs) (tg : Thou gs) {t : Stp} {S : HS} (hf : t.fit) (hu : ∀ x ∈ t.uses, ∃ v, S.1 x = some v ∧ 0 ≤ v ∧ v < 1000) : 0 ≤ (t.go (nmOf vs) (gvOf gs) S).1 ∧ (t.go (nmOf vs) (gvOf gs) S).1 < 1000 := by
  cases t with
  | num b v => exact hf
  | nam b c => exact getD_rng tv _
  | ask b => exact getD_rng tg _
  | say b x =>
    obtain ⟨v, hx, h0, h1⟩ := hu x (by simp [Stp.uses])
    simp only [Stp.go, hx, Option.getD_some]
    exact ⟨h0, h1⟩
  | bin b o x y => exact jn_rng _ _ _
theorem go_len {nm gv : Nat → Int} {t : Stp} {S : HS} : (t.go nm gv S).2.1.length ≤ S.2.1.length + 1 := by
  cases t <;> simp [Stp.go]

abbrev s_run : Stmt := top 32
abbrev N_run : List Str := ["steps", "names", "given", "letters", "teller", "held", "step"]
theorem sc_run : FnScope N_run ["steps", "names", "given"] (defScope s_run) := ⟨rfl, rfl, rfl, by decide +kernel, rfl, by decide +kernel, by decide +kernel⟩
def namsL (l : List Stp) : List Nat := l.filterMap Stp.nam?
def pRunX (Cb Cn Cm : Addr) : Pq := fun ds Q X => ∃ (xs : List D) (kvs : List (Key × D)) (gs : List Int), ds = [.lst .arg xs, .dic kvs, .lst .arg (gs.map .int)] ∧ noLs xs = true ∧ noLs (kvs.map (·.2)) = true ∧
  ((∃ n : Nat, BadAt xs n ∧ X (.ref Cb) (some [("number", .int (n : Nat))])) ∨ ∃ l : List Stp, xs = l.map encS ∧ l ≠ [] ∧ l.length ≤ 200 ∧ okSt [] l ∧
    (((namsL l).filter (lacks kvs) ≠ [] ∧ X (.ref Cn) none) ∨ ∃ vs, kvs = nmK 97 vs ∧ vs.length = 6 ∧ Thou vs ∧ Thou gs ∧ ((gs.length < nAsk l ∧ X (.ref Cm) none) ∨ (nAsk l ≤ gs.length ∧ Q (toldD (runR (nmOf vs) (gvOf gs) l))))))
theorem nams_fullS {l : List Stp} {vs : List Int} (h : okSt [] l) (hv : vs.length = 6) : (namsL l).filter (lacks (nmK 97 vs)) = [] := List.filter_eq_nil_iff.mpr fun c hc => by
  have := snams_ok (okSt_fit h) c hc
  unfold lacks
  rw [nm_get hv this.1 this.2]
  exact Bool.false_ne_true
theorem ok_runX (T : Tx w K mg aP aS es n0) {C Cb Cn Cm : Addr} (c : Tc_Teller K C) (d : Dn K mg "run" s_run ["steps", "names", "given"]) (D_need_steps : Cd P w K mg base "need_steps" 3 ["steps"] (spP K (pNeedStepsX Cb))) (D_need_given : Cd P w K mg base "need_given" 1 ["letters", "asks", "names", "given"] (spP K (pNeedGivenX Cn Cm))) (D_Teller_init__ : Kd P w K mg base "Teller" C 1 ["self", "names", "given"] (spI K (pTInit C))) (D_step_worth : Cd P w K mg base "step_worth" 2 ["teller", "held", "step"] (spI K (pStepW C))) : Cd P w K mg base "run" 4 ["steps", "names", "given"] (spP K (pRunX Cb Cn Cm)) := cd_of d fun f fd F => by
  refine fnPX F sc_run (fun ds Q X h => ?_) (fun cdv A outer s H E hr => ⟨_, (pss_cons (ps_expr (pe_cd D_need_steps (hr.mono (by omega)) rfl psE (pa_cons (pv 0) pa_nil))) (pss_cons (ps_setLc (i := 3) (own := [("step", 6)]) (by rfl) sc_run.nd rfl rfl (sw_true rfl rfl rfl (by decide +kernel)) (pi_seqk K (pv 0)) (blkOk_by (N := N_run) (sc := defScope s_run) (by decide +kernel)) (fun _ _ _ _ _ => (pg_name (i := 6) sc_run.nd rfl (Or.inl rfl))) (fun _ _ _ _ _ => (pts_one (pt_cmpR (op_eq3k K hr) (pe_ix (ix_seqk K) (pv 6) pe_int (fun _ _ => rfl)) pe_str (nomark _)))) (fun _ _ _ _ _ => (pe_ix (ix_seqk K) (pv 6) pe_int (fun _ _ => rfl)))) (pss_cons (ps_expr (pe_cd D_need_given (hr.mono (by omega)) rfl psE (pa_cons (pv 3) (pa_cons (pe_callB (call_lenk K) (by rfl) T.b_len (by decide +kernel) (pa_cons (pe_lc (own := [("step", 6)]) (by rfl) sc_run.nd (pi_seqk K (pv 0)) (blkOk_by (N := N_run) (sc := defScope s_run) (by decide +kernel)) (fun _ _ _ _ _ => (pg_name (i := 6) sc_run.nd rfl (Or.inl rfl))) (fun _ _ _ _ _ => (pts_one (pt_cmpR (op_eq3k K hr) (pe_ix (ix_seqk K) (pv 6) pe_int (fun _ _ => rfl)) pe_str (nomark _)))) (fun _ _ _ _ _ => (pv 6))) pa_nil)) (pa_cons (pv 1) (pa_cons (pv 2) pa_nil)))))) (pss_cons (ps_set (i := 4) sc_run.nd rfl (Or.inl rfl) (pe_mk D_Teller_init__ (hr.mono (by omega)) rfl passL (pa_cons (pv 1) (pa_cons (pv 2) pa_nil)))) (pss_cons (ps_set (i := 5) sc_run.nd rfl (Or.inl rfl) pe_dnewK) (pss_cons (ps_for (passes_of rfl) rfl (pi_seqk K (pv 0)) (pg_name (i := 6) sc_run.nd rfl (Or.inl rfl)) (pss_one (ps_dput (hu_of hr) (pv 5) (pe_ix (ix_seqk K) (pv 6) pe_int (fun _ _ => rfl)) (pe_cd D_step_worth (hr.mono (by omega)) rfl passL (pa_cons (pv 4) (pa_cons (pv 5) (pa_cons (pv 6) pa_nil)))) rfl))) (pss_one (ps_ret (pe_tup (pa_cons (pe_dget (hu_of hr) (pv 5) (pe_ix (ix_seqk K) (pe_ix (ix_seqk K) (pv 0) (pe_un un_neg pe_int) (fun _ _ => rfl)) pe_int (fun _ _ => rfl)) (fun _ _ => rfl)) (pa_cons (pe_fldk K (pv 4) rfl) (pa_cons (pe_fldk K (pv 4) rfl) pa_nil)))))))))))), fun B ds Qd Xd h => ?_⟩)
  · obtain ⟨xs, kvs, gs, rfl, _⟩ := h
    rfl
  obtain ⟨xs, kvs, gs, rfl, hxn, hkn, hcs⟩ := h
  walk_at "dx"
  refine de_callP ?_
  walk_at "dx"
  rcases hcs with ⟨n, hbad, q⟩ | ⟨l, rfl, hne, hl, hok, hcs⟩
  · exact ⟨_, .cons (.arg (vws_refl hxn)) .nil, xs, rfl, .inl ⟨n, hbad, q⟩⟩
  refine ⟨_, .cons (.arg (vws_refl (encs_noL l))) .nil, _, rfl, .inr ⟨l, rfl, hne, hl, hok, ?_⟩⟩
  walk_at "dx"
  refine de_mapA (α := Stp) encS Stp.isNam Stp.letD (wip_name (by decide)) ?_
  refine di_seq ?_
  walk_at "dx"
  refine ⟨_, _, .lst _ _ _, l, rfl, by rw [List.length_map]; omega, fun _ _ => trivial, fun e he M' hM => ?_, ?_⟩
  · rw [encS_eq]
    walk_at "dx"
    refine ⟨rfl, ?_⟩
    walk_at "dx"
    rw [swd_nam]
    refine ⟨rfl, rfl, fun hn => ?_⟩
    cases e with
    | nam b cc =>
      walk_at "dx"
      exact ⟨rfl, rfl⟩
    | _ => cases hn
  · rw [snams_map]
    walk_at "dx"
    refine de_callP ?_
    walk_at "dx"
    refine de_mapA (α := Stp) encS Stp.isAsk encS (wip_name (by decide)) ?_
    refine di_seq ?_
    walk_at "dx"
    refine ⟨_, _, .lst _ _ _, l, rfl, by rw [List.length_map]; omega, fun _ _ => trivial, fun e he M' hM => ?_, ?_⟩
    · rw [encS_eq]
      walk_at "dx"
      refine ⟨rfl, ?_⟩
      walk_at "dx"
      rw [swd_ask]
      refine ⟨rfl, rfl, fun hn => ?_⟩
      walk_at "dx"
      exact ⟨rfl, rfl⟩
    · walk_at "dx"
      rw [List.length_map, show (l.filter Stp.isAsk).length = nAsk l from rfl]
      have hcl := List.length_filterMap_le Stp.nam? l
      refine ⟨_, .cons (.own (vws_refl (noLs_of fun d hd => ?_))) (.cons (.int _) (.cons (.dic rfl (vws_refl hkn)) (.cons (.arg (vws_refl (ints_noL' _))) .nil))), _, nAsk l, kvs, gs, rfl, by omega, fun hne => ?_, fun hnil => ⟨fun hlt => ?_, fun hle => ?_⟩⟩
      · obtain ⟨c, _, rfl⟩ := List.mem_map.mp hd
        rfl
      · rcases hcs with ⟨_, q⟩ | ⟨vs, rfl, hv, _⟩
        · exact q
        · exact absurd (nams_fullS hok hv) hne
      · rcases hcs with ⟨z, _⟩ | ⟨vs, rfl, hv, tv, tg, ⟨_, q⟩ | ⟨ha, _⟩⟩
        · exact absurd hnil z
        · exact q
        · omega
      obtain ⟨vs, rfl, hv, tv, tg, ha, qq⟩ : ∃ vs, kvs = nmK 97 vs ∧ vs.length = 6 ∧ Thou vs ∧ Thou gs ∧ nAsk l ≤ gs.length ∧ Qd (toldD (runR (nmOf vs) (gvOf gs) l)) := by
        rcases hcs with ⟨z, _⟩ | ⟨vs, e, hv, tv, tg, ⟨z, _⟩ | ⟨ha, q⟩⟩
        · exact absurd hnil z
        · omega
        · exact ⟨vs, e, hv, tv, tg, ha, q⟩
      walk_at "dx"
      refine de_makeI0 ?_
      walk_at "dx"
      refine fun p hp hb => ⟨p, _, _, rfl, updM_same, fun M1 q h1 h2 h3 h4 => ⟨rfl, ?_⟩⟩
      walk_at "dx"
      refine de_dnew fun r hr1 hrb => ?_
      walk_at "dx"
      have hpr : p ≠ r := fun z => by rw [← z, h1] at hr1; cases hr1
      have hqr : q ≠ r := fun z => by rw [← z, h2] at hr1; cases hr1
      have hpq : p ≠ q := fun z => by rw [← z, h1] at h2; cases h2
      refine ds_for ?_
      refine di_seq ?_
      walk_at "dx"
      refine ⟨_, _, .lst _ _ _, fun i ε M' => ∃ (v6 v7 : Option D) (kh : List (Key × D)), ε = [some (.lst .arg (l.map encS)), some (.dic (nmK 97 vs)), some (.lst .arg (gs.map .int)), some (.lst .own ((l.filterMap Stp.nam?).map sgD)), some (.val (.ref p)), some (.val (.ref r)), v6] ∧ i ≤ l.length ∧ M' p = some (telO C (.dic (nmK 97 vs)) (.lst .arg (gs.map .int)) q (srun (nmOf vs) (gvOf gs) (l.take i) (fun _ => none, [], 0)).2.2) ∧ M' q = some (.lst ((srun (nmOf vs) (gvOf gs) (l.take i) (fun _ => none, [], 0)).2.1.map .int)) ∧ M' r = some (.dic kh) ∧ TbOk kh (srun (nmOf vs) (gvOf gs) (l.take i) (fun _ => none, [], 0)).1 ∧ kh.length ≤ i ∧ (srun (nmOf vs) (gvOf gs) (l.take i) (fun _ => none, [], 0)).2.1.length ≤ i ∧ (∀ x ∈ (l.take i).map Stp.box, ∃ v, (srun (nmOf vs) (gvOf gs) (l.take i) (fun _ => none, [], 0)).1 x = some v ∧ 0 ≤ v ∧ v < 1000), ⟨none, none, [], rfl, Nat.zero_le _, (updM_ne hpr).trans h1, (updM_ne hqr).trans h2, updM_same, fun _ => rfl, Nat.le_refl _, Nat.le_refl _, fun x hx => by simp at hx⟩, fun _ _ _ _ => trivial, ?_, ?_⟩
      · rintro i d ε M2 hd ⟨v6, v7, kh, rfl, hi0, m1, m2, m3, tb, l1, l2, hin⟩
        rw [List.getElem?_map] at hd
        obtain ⟨t, ht, rfl⟩ : ∃ t, l[i]? = some t ∧ encS t = d := by
          cases e : l[i]? with
          | none => rw [e] at hd; cases hd
          | some t => rw [e] at hd; exact ⟨t, rfl, Option.some.inj hd⟩
        have hi := (List.getElem?_eq_some_iff.mp ht).1
        have hto := okSt_get hok ht
        have use : ∀ x ∈ t.uses, ∃ v, (srun (nmOf vs) (gvOf gs) (l.take i) (fun _ => none, [], 0)).1 x = some v ∧ 0 ≤ v ∧ v < 1000 := fun x hx => hin x (by simpa using (hto.us x hx).2.2)
        have rg := go_rng tv tg hto.fit use
        have hak : t.isAsk = true → (srun (nmOf vs) (gvOf gs) (l.take i) (fun _ => none, [], 0)).2.2 < gs.length := fun z => by
          rw [srun_asked]
          have := nAsk_take ht z
          show 0 + _ < _
          omega
        have est := srun_take (nm := nmOf vs) (gv := gvOf gs) ht (fun _ => none, [], 0)
        have gl := go_len (nm := nmOf vs) (gv := gvOf gs) (t := t) (S := srun (nmOf vs) (gvOf gs) (l.take i) (fun _ => none, [], 0))
        walk_at "dx"
        refine ds_dput ?_
        walk_at "dx"
        refine ⟨t, vs, gs, _, p, q, r, _, kh, _, rfl, m1, m2, m3, tb, hto.fit, hv, by omega, use, hak, fun M3 g1 g2 g3 => ?_⟩
        obtain ⟨rr, hrr⟩ : ∃ rr, encS t = .tup (.int t.box :: rr) := ⟨_, encS_eq t⟩
        rw [hrr]
        walk_at "dx"
        have m3' := g3 r _ hpr.symm hqr.symm m3
        refine ⟨r, kh, .inl t.box, rfl, rfl, m3', by omega, _, none, _, rfl, by omega, ?_, ?_, updM_same, ?_, Nat.le_trans putD_len (by omega), ?_, fun x hx => ?_⟩
        · rw [updM_ne hpr, est]; exact g2
        · rw [updM_ne hqr, est]; exact g1
        · rw [est]; exact tb.put _ _
        · rw [est]; show (t.go _ _ _).2.1.length ≤ _; omega
        · rw [est]
          show ∃ v, putT _ t.box _ x = some v ∧ _
          rw [List.take_add_one, ht, List.map_append, List.mem_append] at hx
          by_cases e : t.box = x
          · rw [e, putT_eq]; exact ⟨_, rfl, rg⟩
          · rw [putT_ne e]
            rcases hx with hx | hx
            · exact hin x hx
            · simp only [Option.toList_some, List.map_cons, List.map_nil, List.mem_singleton] at hx
              exact absurd hx.symm e
      · rintro ε M2 ⟨v6, v7, kh, rfl, hi0, m1, m2, m3, tb, l1, l2, hin⟩
        rw [List.length_map, List.take_length] at *
        obtain ⟨l', t, rfl⟩ : ∃ l' t, l = l' ++ [t] := ⟨l.dropLast, l.getLast hne, (List.dropLast_concat_getLast hne).symm⟩
        obtain ⟨v, hvv, hv0, hv1⟩ := hin t.box (by simp)
        have hvk := tb t.box
        rw [hvv] at hvk
        unfold runR at qq
        rw [lastBox_app, hvv] at qq
        walk_at "dx"
        refine de_tup ?_
        walk_at "dx"
        refine de_dget ?_
        walk_at "dx"
        refine d1_neg ?_
        have hat : atI ((l' ++ [t]).map encS) (-1) = some (encS t) := by rw [List.map_append]; exact atI_last
        refine d2_ix (.lst (.arg _)) hat ?_
        rw [encS_eq]
        walk_at "dx"
        refine ⟨kh, .inl t.box, _, .cell m3, rfl, hvk, ?_⟩
        walk_at "dx"
        refine de_fld ?_
        walk_at "dx"
        refine ⟨_, _, _, _, rfl, m1, c.cl, c.n_said, rfl, ?_⟩
        walk_at "dx"
        refine de_fld ?_
        walk_at "dx"
        refine ⟨_, _, _, _, rfl, m1, c.cl, c.n_asked, rfl, ?_⟩
        walk_at "dx"
        refine ⟨by simp, ?_⟩
        refine ⟨_, .tup (.cons (.int _) (.cons (.cell m2 (fzs_refl (ints_noL' _))) (.cons (.int _) .nil))), ?_, qq⟩
        simp [ownD, ownDs, owns_noL (ints_noL' _)]

abbrev s__law_steps : Stmt := top 49
abbrev N__law_steps : List Str := ["_law_state", "_law_wide", "_law_found", "_law_k", "_law_put", "_law_one", "_law_other", "_law_box", "_law_way", "_law_some", "_law_words", "_law_step"]
theorem sc__law_steps : FnScope N__law_steps ["_law_state"] (defScope s__law_steps) := ⟨rfl, rfl, rfl, by decide +kernel, rfl, by decide +kernel, by decide +kernel⟩
def pStepsL : Sq := fun ds M Q _ => ∃ (ns : List Int) (a : Addr) (c : Cell), ds = [.val (.ref a)] ∧ M a = some c ∧ StOk ns c ∧ ∀ (p : Addr) (l : List Stp) (c' : Cell) (M' : Mp), l ≠ [] → l.length ≤ 200 → okSt [] l → StOk ns c' → M p = none → M' a = some c' → M' p = some (.lst (l.map encS)) → (∀ b e, b ≠ a → M b = some e → M' b = some e) → Q (.val (.ref p)) M'
theorem wide_is {d : D} (h : d ∈ [D.int 3, D.int 8, D.int 200]) : ∃ n : Int, d = .int n ∧ 0 < n ∧ n ≤ 200 := by
  simp only [List.mem_cons, List.not_mem_nil, or_false] at h
  rcases h with rfl | rfl | rfl
  · exact ⟨3, rfl, by decide, by decide⟩
  · exact ⟨8, rfl, by decide, by decide⟩
  · exact ⟨200, rfl, by decide, by decide⟩
theorem many_is {d : D} (h : d ∈ [D.int 12, D.int 12, D.int 60, D.int 200]) : ∃ n : Int, d = .int n ∧ 0 < n ∧ n ≤ 200 := by
  simp only [List.mem_cons, List.not_mem_nil, or_false] at h
  rcases h with rfl | rfl | rfl | rfl
  · exact ⟨12, rfl, by decide, by decide⟩
  · exact ⟨12, rfl, by decide, by decide⟩
  · exact ⟨60, rfl, by decide, by decide⟩
  · exact ⟨200, rfl, by decide, by decide⟩
theorem ok__law_steps (T : Tx w K mg aP aS es n0) (d : Dn K mg "_law_steps" s__law_steps ["_law_state"]) (D__law_drawn : Cd P w K mg base "_law_drawn" 1 ["_law_state", "_law_many"] (spI K pDrawn)) : Cd P w K mg base "_law_steps" 2 ["_law_state"] (spI K pStepsL) := cd_of d fun f fd F => by
  refine fnI F sc__law_steps (fun ds M Q X h => ?_) (fun cdv A outer s H E hr => ⟨_, (pss_cons (ps_set (i := 1) sc__law_steps.nd rfl (Or.inl rfl) (pe_ix (ix_seqk K) (pe_lst (pa_cons pe_int (pa_cons pe_int (pa_cons pe_int pa_nil)))) (pe_cd D__law_drawn (hr.mono (by omega)) rfl passL (pa_cons (pv 0) (pa_cons pe_int pa_nil))) (fun _ _ => rfl))) (pss_cons (ps_set (i := 2) sc__law_steps.nd rfl (Or.inl rfl) (pe_lst (pa_cons (pe_tup (pa_cons (pe_cd D__law_drawn (hr.mono (by omega)) rfl passL (pa_cons (pv 0) (pa_cons (pv 1) pa_nil))) (pa_cons pe_str (pa_cons (pe_cd D__law_drawn (hr.mono (by omega)) rfl passL (pa_cons (pv 0) (pa_cons pe_int pa_nil))) pa_nil)))) pa_nil))) (pss_cons (ps_for PassesOwn.never rfl (pi_range1 (by rfl) T.b_range (pa_cons (pe_cd D__law_drawn (hr.mono (by omega)) rfl passL (pa_cons (pv 0) (pa_cons (pe_ix (ix_seqk K) (pe_lst (pa_cons pe_int (pa_cons pe_int (pa_cons pe_int (pa_cons pe_int pa_nil))))) (pe_cd D__law_drawn (hr.mono (by omega)) rfl passL (pa_cons (pv 0) (pa_cons pe_int pa_nil))) (fun _ _ => rfl)) pa_nil))) pa_nil)) (pg_name (i := 3) sc__law_steps.nd rfl (Or.inl rfl)) (pss_cons (ps_setLc (i := 4) (own := [("_law_step", 11)]) (by rfl) sc__law_steps.nd rfl rfl (sw_true rfl rfl rfl (by decide +kernel)) (pi_seqk K (pv 2)) (blkOk_by (N := N__law_steps) (sc := defScope s__law_steps) (by decide +kernel)) (fun _ _ _ _ _ => (pg_name (i := 11) sc__law_steps.nd rfl (Or.inl rfl))) (fun _ _ _ _ _ => pts_nil) (fun _ _ _ _ _ => (pe_ix (ix_seqk K) (pv 11) pe_int (fun _ _ => rfl)))) (pss_cons (ps_par (i := 5) (j := 6) (by rfl) sc__law_steps.nd rfl rfl (by decide) rfl rfl (pa_cons (pe_ix (ix_seqk K) (pv 4) (pe_cd D__law_drawn (hr.mono (by omega)) rfl passL (pa_cons (pv 0) (pa_cons (pe_callB (call_lenk K) (by rfl) T.b_len (by decide +kernel) (pa_cons (pv 4) pa_nil)) pa_nil))) (fun _ _ => rfl)) (pa_cons (pe_ix (ix_seqk K) (pv 4) (pe_op op_sub (pe_op op_sub (pe_callB (call_lenk K) (by rfl) T.b_len (by decide +kernel) (pa_cons (pv 4) pa_nil)) pe_int) (pe_cd D__law_drawn (hr.mono (by omega)) rfl passL (pa_cons (pv 0) (pa_cons (pe_callB (call_min2 rfl) (by rfl) T.b_min (by decide +kernel) (pa_cons pe_int (pa_cons (pe_callB (call_lenk K) (by rfl) T.b_len (by decide +kernel) (pa_cons (pv 4) pa_nil)) pa_nil))) pa_nil)))) (fun _ _ => rfl)) pa_nil)) (by rfl)) (pss_cons (ps_set (i := 7) sc__law_steps.nd rfl (Or.inl rfl) (pe_cd D__law_drawn (hr.mono (by omega)) rfl passL (pa_cons (pv 0) (pa_cons (pv 1) pa_nil)))) (pss_cons (ps_set (i := 8) sc__law_steps.nd rfl (Or.inl rfl) (pe_cd D__law_drawn (hr.mono (by omega)) rfl passL (pa_cons (pv 0) (pa_cons pe_int pa_nil)))) (pss_cons (ps_set (i := 9) sc__law_steps.nd rfl (Or.inl rfl) (pe_lst (pa_cons (pe_tup (pa_cons (pv 7) (pa_cons pe_str (pa_cons (pe_cd D__law_drawn (hr.mono (by omega)) rfl passL (pa_cons (pv 0) (pa_cons pe_int pa_nil))) pa_nil)))) (pa_cons (pe_tup (pa_cons (pv 7) (pa_cons pe_str (pa_cons (pe_ix (ix_seqk K) pe_str (pe_cd D__law_drawn (hr.mono (by omega)) rfl passL (pa_cons (pv 0) (pa_cons pe_int pa_nil))) (fun _ _ => rfl)) pa_nil)))) (pa_cons (pe_tup (pa_cons (pv 7) (pa_cons pe_str pa_nil))) pa_nil))))) (pss_cons (ps_set (i := 9) sc__law_steps.nd rfl (Or.inl rfl) (pe_op (op_add4k K) (pv 9) (pe_lst (pa_cons (pe_tup (pa_cons (pv 7) (pa_cons pe_str (pa_cons (pv 5) pa_nil)))) (pa_cons (pe_tup (pa_cons (pv 7) (pa_cons pe_str (pa_cons (pv 6) pa_nil)))) pa_nil))))) (pss_cons (ps_set (i := 10) sc__law_steps.nd rfl (Or.inl rfl) (pe_lst (pa_cons pe_str (pa_cons pe_str (pa_cons pe_str (pa_cons pe_str pa_nil)))))) (pss_one (ps_expr (pe_bmk K PySem.F.plainAttrs_list PySem.F.slot_list_append PySem.F.type_list_append mt_append (pv 2) (pa_cons (pe_ifExp (pt_cmpR op_lt (pv 8) pe_int (nomark _)) (pe_ix (ix_seqk K) (pv 9) (pv 8) (fun _ _ => rfl)) (pe_tup (pa_cons (pv 7) (pa_cons (pe_ix (ix_seqk K) (pv 10) (pe_op op_sub (pv 8) pe_int) (fun _ _ => rfl)) (pa_cons (pv 5) (pa_cons (pv 6) pa_nil)))))) pa_nil)))))))))))) (pss_one (ps_ret (pv 2)))))), fun B ds M Qd Xd h => ?_⟩)
  · obtain ⟨ns, a, c, rfl, _⟩ := h
    rfl
  obtain ⟨ns, a, c, rfl, ha, hs, q⟩ := h
  repeat (first | (with_reducible refine de_tup ?_) | (with_reducible refine de_lst ?_) | (refine ⟨Nat.le_of_ble_eq_true rfl, ?_⟩) | walk_at "dx1")
  refine ⟨ns, a, c, 3, rfl, ha, hs, by decide, by decide, fun i1 c1 h10 h11 hs1 => ?_⟩
  obtain ⟨d1, hd1, hm1⟩ := at_mem (xs := [D.int 3, D.int 8, D.int 200]) (i := i1) h10 h11
  refine d2_ix (.lst (.own _)) hd1 ?_
  obtain ⟨wide, rfl, hw0, hw1⟩ := wide_is hm1
  walk_at "dx"
  refine de_lstC ?_
  repeat (first | (with_reducible refine de_tup ?_) | (with_reducible refine de_lst ?_) | (refine ⟨Nat.le_of_ble_eq_true rfl, ?_⟩) | walk_at "dx1")
  refine ⟨ns, a, c1, wide, rfl, updM_same, hs1, hw0, by omega, fun b0 c2 hb0 hb1 hs2 => ?_⟩
  repeat (first | (with_reducible refine de_tup ?_) | (with_reducible refine de_lst ?_) | (refine ⟨Nat.le_of_ble_eq_true rfl, ?_⟩) | walk_at "dx1")
  refine ⟨ns, a, c2, 1000, rfl, updM_same, hs2, by decide, by decide, fun v0 c3 hv0 hv1 hs3 => ?_⟩
  repeat (first | (with_reducible refine de_tup ?_) | (with_reducible refine de_lst ?_) | (refine ⟨Nat.le_of_ble_eq_true rfl, ?_⟩) | walk_at "dx1")
  rw [updM_updM, updM_updM]
  refine fun p hp hb => ?_
  have hap : a ≠ p := fun z => by rw [← z, updM_same] at hp; cases hp
  have hpM : M p = none := by rw [updM_ne hap.symm] at hp; exact hp
  walk_at "dx"
  refine ds_for ?_
  refine di_rng1 ?_
  repeat (first | (with_reducible refine de_tup ?_) | (with_reducible refine de_lst ?_) | (refine ⟨Nat.le_of_ble_eq_true rfl, ?_⟩) | walk_at "dx1")
  refine ⟨ns, a, c3, 4, rfl, (updM_ne hap).trans updM_same, hs3, by decide, by decide, fun i2 c4 h20 h21 hs4 => ?_⟩
  obtain ⟨d2, hd2, hm2⟩ := at_mem (xs := [D.int 12, D.int 12, D.int 60, D.int 200]) (i := i2) h20 h21
  refine d2_ix (.lst (.own _)) hd2 ?_
  obtain ⟨many, rfl, hm0, hm1'⟩ := many_is hm2
  walk_at "dx"
  refine ⟨ns, a, c4, many, rfl, updM_same, hs4, hm0, by omega, fun n c5 hn0 hn1 hs5 => ?_⟩
  rw [updM_updM]
  walk_at "dx"
  refine ⟨by omega, by omega, fun i ε M' => ∃ (l : List Stp) (c : Cell) (v3 v4 v5 v6 v7 v8 v9 v10 v11 : Option D), ε = [some (.val (.ref a)), some (.int wide), some (.val (.ref p)), v3, v4, v5, v6, v7, v8, v9, v10, v11] ∧ l.length = i + 1 ∧ i ≤ n.toNat ∧ okSt [] l ∧ StOk ns c ∧ M' a = some c ∧ M' p = some (.lst (l.map encS)) ∧ (∀ b e, b ≠ a → M b = some e → M' b = some e), ⟨[.num b0 v0], c5, _, _, _, _, _, _, _, _, _, rfl, rfl, Nat.zero_le _, ⟨⟨hb0, by show b0 < 200; omega, ⟨hv0, hv1⟩, fun x hx => by simp [Stp.uses] at hx⟩, trivial⟩, hs5, updM_same, (updM_ne hap.symm).trans updM_same, fun b e hb he => ?_⟩, fun _ _ _ _ => trivial, ?_, ?_⟩
  · rw [updM_ne hb, updM_ne (fun z => by rw [z, hpM] at he; cases he), updM_ne hb]
    exact he
  · rintro i d ε M1 hd ⟨l, c, v3, v4, v5, v6, v7, v8, v9, v10, v11, rfl, hl, hi, hok, hs, h1, h2, h3⟩
    have hi' := (List.getElem?_eq_some_iff.mp hd).1
    rw [intsD_len] at hi'
    walk_at "dx"
    refine de_mapA encS (fun _ => true) (fun t => .int t.box) (wip_name (by decide)) ?_
    refine di_seq ?_
    walk_at "dx"
    refine ⟨_, _, .cell h2, l, rfl, by rw [List.length_map]; omega, fun _ hh => hh _ _ h2, fun t ht M' hM => ?_, ?_⟩
    · rw [encS_eq]
      walk_at "dx"
      refine ⟨rfl, ?_⟩
      walk_at "dx"
      refine ⟨rfl, rfl, fun _ => ?_⟩
      walk_at "dx"
      exact ⟨rfl, rfl⟩
    have e0 : (l.filter fun _ => true).map (fun t => D.int t.box) = (l.map Stp.box).map D.int := by
      rw [List.filter_eq_self.mpr (fun _ _ => rfl), List.map_map]
      rfl
    rw [e0]
    have hbx : ∀ j : Int, 0 ≤ j → j < ((((l.map Stp.box).map D.int).length : Nat) : Int) → ∃ b : Int, atI ((l.map Stp.box).map D.int) j = some (.int b) ∧ 0 ≤ b ∧ b < 200 ∧ b ∈ l.map Stp.box := fun j hj0 hj1 => by
      obtain ⟨d, hd, hm⟩ := at_mem hj0 hj1
      obtain ⟨b, hb, rfl⟩ := List.mem_map.mp hm
      obtain ⟨t, ht, rfl⟩ := List.mem_map.mp hb
      obtain ⟨k, hk⟩ := List.getElem?_of_mem ht
      have ho := okSt_get hok hk
      exact ⟨_, hd, ho.lo, ho.hi, hb⟩
    have hln : ((l.map Stp.box).map D.int).length = i + 1 := by rw [List.length_map, List.length_map, hl]
    walk_at "dx"
    rw [hln] at hbx ⊢
    refine ⟨ns, a, c, _, rfl, h1, hs, by omega, by omega, fun j1 c1 hj10 hj11 hs1 => ?_⟩
    obtain ⟨one, ho, ho0, ho1, hom⟩ := hbx j1 hj10 hj11
    refine d2_ix (.lst (.own _)) ho ?_
    walk_at "dx"
    rw [hln]
    have hmin : (if ((i + 1 : Nat) : Int) < 3 then ((i + 1 : Nat) : Int) else 3) ≤ ((i + 1 : Nat) : Int) ∧ 0 < (if ((i + 1 : Nat) : Int) < 3 then ((i + 1 : Nat) : Int) else 3) ∧ (if ((i + 1 : Nat) : Int) < 3 then ((i + 1 : Nat) : Int) else 3) ≤ 3 := by split <;> omega
    generalize (if ((i + 1 : Nat) : Int) < 3 then ((i + 1 : Nat) : Int) else 3) = mn at hmin ⊢
    refine ⟨ns, a, c1, mn, rfl, updM_same, hs1, hmin.2.1, by omega, fun j2 c2 hj20 hj21 hs2 => ?_⟩
    rw [updM_updM]
    walk_at "dx"
    obtain ⟨other, hp2, hp0, hp1, hpm⟩ := hbx (((i + 1 : Nat) : Int) - 1 - j2) (by omega) (by omega)
    refine d2_ix (.lst (.own _)) hp2 ?_
    walk_at "dx"
    refine ⟨_, _, rfl, ?_⟩
    walk_at "dx"
    refine ⟨ns, a, c2, wide, rfl, updM_same, hs2, hw0, by omega, fun box c3 hb0 hb1 hs3 => ?_⟩
    rw [updM_updM]
    walk_at "dx"
    refine ⟨ns, a, c3, 9, rfl, updM_same, hs3, by decide, by decide, fun way c4 hy0 hy1 hs4 => ?_⟩
    rw [updM_updM]
    repeat (first | (with_reducible refine de_tup ?_) | (with_reducible refine de_lst ?_) | (refine ⟨Nat.le_of_ble_eq_true rfl, ?_⟩) | walk_at "dx1")
    refine ⟨ns, a, c4, 1000, rfl, updM_same, hs4, by decide, by decide, fun v c5 hv0 hv1 hs5 => ?_⟩
    rw [updM_updM]
    repeat (first | (with_reducible refine de_tup ?_) | (with_reducible refine de_lst ?_) | (refine ⟨Nat.le_of_ble_eq_true rfl, ?_⟩) | walk_at "dx1")
    refine ⟨ns, a, c5, 6, rfl, updM_same, hs5, by decide, by decide, fun i4 c6 h40 h41 hs6 => ?_⟩
    rw [updM_updM]
    obtain ⟨cc, hcc, hmc⟩ := at_mem (xs := [97, 98, 99, 100, 101, 102]) (i := i4) h40 (by show i4 < 6; omega)
    refine d2_ixS (by decide) hcc ?_
    have hc1 : 97 ≤ cc ∧ cc < 103 := by
      simp only [List.mem_cons, List.not_mem_nil, or_false] at hmc
      omega
    repeat (first | (with_reducible refine de_tup ?_) | (with_reducible refine de_lst ?_) | (refine ⟨Nat.le_of_ble_eq_true rfl, ?_⟩) | walk_at "dx1")
    refine d2_add_lst (.own _) (.own _) (Nat.le_of_ble_eq_true rfl) ?_
    repeat (first | (with_reducible refine de_tup ?_) | (with_reducible refine de_lst ?_) | (refine ⟨Nat.le_of_ble_eq_true rfl, ?_⟩) | walk_at "dx1")
    refine de_bm ?_
    walk_at "dx"
    have h2' : updM M1 a c6 p = some (.lst (l.map encS)) := (updM_ne hap.symm).trans h2
    refine ⟨ty_list (.cell h2'), ?_⟩
    walk_at "dx"
    have hput : ∀ x : Int, x ∈ l.map Stp.box → x ∈ (l.map Stp.box).reverse ++ [] := fun x hx => by simpa using hx
    have fin : ∀ t : Stp, t.ok ((l.map Stp.box).reverse ++ []) → ∀ (v3 v4 v5 v6 v7 v8 v9 v10 v11 : Option D), ∃ (l2 : List Stp) (c : Cell) (w3 w4 w5 w6 w7 w8 w9 w10 w11 : Option D), [some (D.val (.ref a)), some (.int wide), some (.val (.ref p)), v3, v4, v5, v6, v7, v8, v9, v10, v11] = [some (.val (.ref a)), some (.int wide), some (.val (.ref p)), w3, w4, w5, w6, w7, w8, w9, w10, w11] ∧ l2.length = i + 1 + 1 ∧ i + 1 ≤ n.toNat ∧ okSt [] l2 ∧ StOk ns c ∧ (updM (updM M1 a c6) p (.lst (l.map encS ++ [encS t]))) a = some c ∧ (updM (updM M1 a c6) p (.lst (l.map encS ++ [encS t]))) p = some (.lst (l2.map encS)) ∧ (∀ b e, b ≠ a → M b = some e → (updM (updM M1 a c6) p (.lst (l.map encS ++ [encS t]))) b = some e) := fun t ht v3 v4 v5 v6 v7 v8 v9 v10 v11 => by
      refine ⟨l ++ [t], c6, _, _, _, _, _, _, _, _, _, rfl, by rw [List.length_append, hl]; rfl, by omega, okSt_app.mpr ⟨hok, ht, trivial⟩, hs6, (updM_ne hap).trans updM_same, by rw [updM_same, List.map_append]; rfl, fun b e hb he => ?_⟩
      rw [updM_ne (fun z => by rw [z, hpM] at he; cases he), updM_ne hb]
      exact h3 b e hb he
    have hbx2 : box < 200 := by omega
    by_cases hw : way < 5
    · refine ite_t (decide_eq_true hw) ?_
      walk_at "dx"
      obtain ⟨x, hx, hxm⟩ := at_mem (xs := [encS (.num box v), encS (.nam box cc), encS (.ask box), encS (.say box one), encS (.say box other)]) (i := way) hy0 (by show way < 5; omega)
      refine d2_ix (.lst (.own _)) hx ?_
      obtain ⟨t, rfl, htk⟩ : ∃ t : Stp, x = encS t ∧ t.ok ((l.map Stp.box).reverse ++ []) := by
        simp only [List.mem_cons, List.not_mem_nil, or_false] at hxm
        rcases hxm with rfl | rfl | rfl | rfl | rfl
        · exact ⟨_, rfl, hb0, hbx2, ⟨hv0, hv1⟩, fun x hx => by simp [Stp.uses] at hx⟩
        · exact ⟨_, rfl, hb0, hbx2, hc1, fun x hx => by simp [Stp.uses] at hx⟩
        · exact ⟨_, rfl, hb0, hbx2, trivial, fun x hx => by simp [Stp.uses] at hx⟩
        · refine ⟨_, rfl, hb0, hbx2, trivial, fun x hx => ?_⟩
          simp only [Stp.uses, List.mem_singleton] at hx
          subst hx
          exact ⟨ho0, ho1, hput _ hom⟩
        · refine ⟨_, rfl, hb0, hbx2, trivial, fun x hx => ?_⟩
          simp only [Stp.uses, List.mem_singleton] at hx
          subst hx
          exact ⟨hp0, hp1, hput _ hpm⟩
      walk_at "dx"
      refine dm_append h2' (by rw [List.length_map]; omega) ?_
      walk_at "dx"
      exact fin t htk _ _ _ _ _ _ _ _ _
    · refine ite_f (decide_eq_false hw) ?_
      repeat (first | (with_reducible refine de_tup ?_) | (with_reducible refine de_lst ?_) | (refine ⟨Nat.le_of_ble_eq_true rfl, ?_⟩) | walk_at "dx1")
      obtain ⟨x, hx, hxm⟩ := at_mem (xs := [D.str "add", D.str "less", D.str "times", D.str "add"]) (i := way - 5) (by omega) (by show way - 5 < 4; omega)
      refine d2_ix (.lst (.own _)) hx ?_
      repeat (first | (with_reducible refine de_tup ?_) | (with_reducible refine de_lst ?_) | (refine ⟨Nat.le_of_ble_eq_true rfl, ?_⟩) | walk_at "dx1")
      obtain ⟨o, rfl⟩ : ∃ o : Wd, x = .str o.word := by
        simp only [List.mem_cons, List.not_mem_nil, or_false] at hxm
        rcases hxm with rfl | rfl | rfl | rfl
        · exact ⟨.add, rfl⟩
        · exact ⟨.less, rfl⟩
        · exact ⟨.times, rfl⟩
        · exact ⟨.add, rfl⟩
      refine dm_append h2' (by rw [List.length_map]; omega) ?_
      walk_at "dx"
      refine fin (.bin box o one other) ⟨hb0, hbx2, trivial, fun x hx => ?_⟩ _ _ _ _ _ _ _ _ _
      simp only [Stp.uses, List.mem_cons, List.not_mem_nil, or_false] at hx
      rcases hx with rfl | rfl
      · exact ⟨ho0, ho1, hput _ hom⟩
      · exact ⟨hp0, hp1, hput _ hpm⟩
  · rintro ε M1 ⟨l, c, v3, v4, v5, v6, v7, v8, v9, v10, v11, rfl, hl, hi, hok, hs, h1, h2, h3⟩
    rw [intsD_len] at hl hi
    walk_at "dx"
    refine q p l c M1 (fun z => by rw [z] at hl; simp at hl) (by omega) hok hs hpM h1 h2 h3

abbrev s_taken : Stmt := top 34
abbrev N_taken : List Str := ["held", "box", "found"]
theorem sc_taken : FnScope N_taken ["held", "box"] (defScope s_taken) := ⟨rfl, rfl, rfl, by decide +kernel, rfl, by decide +kernel, by decide +kernel⟩
def pTakenX (Cs : Addr) : Sq := fun ds M Q X => ∃ (r : Addr) (kvs : List (Key × D)) (H : Bk) (x : Int), ds = [.val (.ref r), .int x] ∧ M r = some (.dic kvs) ∧ Hk kvs H ∧ kvs.length < 1000 ∧ (H x = none → X (.ref Cs) none M) ∧ (∀ v, H x = some v → ∀ kvs', Hk kvs' (takeB H x) → kvs'.length = kvs.length → Q (encB v) (updM M r (.dic kvs')))
theorem ok_takenX (T : Tx w K mg aP aS es n0) {Cs : Addr} (ek_NoSum : EK K mg "NoSum" Cs) (d : Dn K mg "taken" s_taken ["held", "box"]) : Cd P w K mg base "taken" 1 ["held", "box"] (spI K (pTakenX Cs)) := cd_of d fun f fd F => by
  refine fnIX F sc_taken (fun ds M Q X h => ?_) (fun cdv A outer s H E hr => ⟨_, (pss_cons (ps_if (pt_cmpR op_isN (pe_dget2 (hu_of hr) (pv 0) (pv 1) pe_non ⟨rfl, rfl, rfl, rfl⟩) pe_non (nomark _)) (pss_one (ps_raise1 (takes_of rfl rfl rfl rfl) ek_NoSum (by rfl))) pss_nil) (pss_cons (ps_set (i := 2) sc_taken.nd rfl (Or.inl rfl) (pe_dget (hu_of hr) (pv 0) (pv 1) (fun _ _ => rfl))) (pss_cons (ps_dput (hu_of hr) (pv 0) (pv 1) pe_non rfl) (pss_one (ps_ret (pv 2)))))), fun B ds M Qd Xd h => ?_⟩)
  · obtain ⟨r, kvs, H, x, rfl, _⟩ := h
    rfl
  obtain ⟨r, kvs, G, x, rfl, hM, hk, hl, qx, q⟩ := h
  walk_at "dx"
  refine de_dget2 ?_
  walk_at "dx"
  refine ⟨⟨_, .cell hM⟩, ?_⟩
  walk_at "dx"
  refine ⟨kvs, .inl x, .cell hM, rfl, ?_⟩
  cases hx : G x with
  | none =>
    rw [hk.val, hx]
    simp only [bD]
    walk_at "dx"
    exact ds_raise (qx hx)
  | some v =>
    have hg := hk_get hk hx
    rw [hg, Option.getD_some]
    unfold encB
    walk_at "dx"
    refine de_dget ?_
    walk_at "dx"
    refine ⟨kvs, .inl x, _, .cell hM, rfl, hg, ?_⟩
    unfold encB
    walk_at "dx"
    refine ds_dput ?_
    walk_at "dx"
    refine ⟨r, kvs, .inl x, rfl, rfl, hM, by omega, ?_⟩
    walk_at "dx"
    exact q v hx _ (hk_put hk (by rw [takeB_eq]; rfl) fun j hj => takeB_ne hj) (putD_same (by rw [hg]; rfl))
abbrev s_one_back : Stmt := top 35
abbrev N_one_back : List Str := ["held", "step", "number", "parts", "effects", "part", "more", "box"]
theorem sc_one_back : FnScope N_one_back ["held", "step", "number"] (defScope s_one_back) := ⟨rfl, rfl, rfl, by decide +kernel, rfl, by decide +kernel, by decide +kernel⟩
def CanUse (t : Stp) (H : Bk) : Prop := (∀ x ∈ t.uses, ∃ v, H x = some v) ∧ t.uses.Nodup
def pOneBackX (Cs : Addr) : Sq := fun ds M Q X => ∃ (r : Addr) (kvs : List (Key × D)) (H : Bk) (t : Stp) (n : Int), ds = [.val (.ref r), encS t, .int n] ∧ M r = some (.dic kvs) ∧ Hk kvs H ∧ (∀ x v, H x = some v → v.2.length ≤ 300) ∧ kvs.length < 1000 ∧ (¬ CanUse t H → ∀ M', X (.ref Cs) none M') ∧
  (CanUse t H → ∀ M' kvs', M' r = some (.dic kvs') → Hk kvs' (t.bleft H) → kvs'.length = kvs.length → (∀ b e, b ≠ r → M b = some e → M' b = some e) → Q (encB (t.bval n H)) M')
theorem ok_one_backX (T : Tx w K mg aP aS es n0) {Cs : Addr} (d : Dn K mg "one_back" s_one_back ["held", "step", "number"]) (D_taken : Cd P w K mg base "taken" 1 ["held", "box"] (spI K (pTakenX Cs))) : Cd P w K mg base "one_back" 2 ["held", "step", "number"] (spI K (pOneBackX Cs)) := cd_of d fun f fd F => by
  refine fnIX F sc_one_back (fun ds M Q X h => ?_) (fun cdv A outer s H E hr => ⟨_, (pss_cons (ps_if (pt_cmpR (op_in2k K) (pe_ix (ix_seqk K) (pv 1) pe_int (fun _ _ => rfl)) (pe_tup (pa_cons pe_str (pa_cons pe_str pa_nil))) (by rfl)) (pss_one (ps_ret (pe_tup (pa_cons (pe_slice (sl_3k K) (pv 1) (po_some pe_int) po_none) (pa_cons (pe_lst pa_nil) pa_nil))))) pss_nil) (pss_cons (ps_setLcX (i := 3) (own := [("box", 7)]) (takes_of rfl rfl rfl rfl) rfl rfl (by rfl) sc_one_back.nd rfl rfl (sw_true rfl rfl rfl (by decide +kernel)) (pi_seqk K (pe_slice (sl_3k K) (pv 1) (po_some pe_int) po_none)) (blkOk_by (N := N_one_back) (sc := defScope s_one_back) (by decide +kernel)) (fun _ _ _ _ _ => (pg_name (i := 7) sc_one_back.nd rfl (Or.inl rfl))) (fun _ _ _ _ _ => pts_nil) (fun _ _ _ _ _ => (pe_cd D_taken (hr.mono (by omega)) rfl psB (pa_cons (pv 0) (pa_cons (pv 7) pa_nil))))) (pss_cons (ps_set (i := 4) sc_one_back.nd rfl (Or.inl rfl) (pe_lst pa_nil)) (pss_cons (ps_for (passes_of rfl) rfl (pi_seqk K (pv 3)) (pg_tupk K (n := 2) (by rfl) (pgs_cons (pg_name (i := 5) sc_one_back.nd rfl (Or.inl rfl)) (pgs_cons (pg_name (i := 6) sc_one_back.nd rfl (Or.inl rfl)) pgs_nil))) (pss_one (ps_set (i := 4) sc_one_back.nd rfl (Or.inl rfl) (pe_op (op_add4k K) (pv 4) (pv 6))))) (pss_cons (ps_if (pt_cmpR (op_in2k K) (pe_ix (ix_seqk K) (pv 1) pe_int (fun _ _ => rfl)) (pe_tup (pa_cons pe_str (pa_cons pe_str pa_nil))) (by rfl)) (pss_one (ps_set (i := 4) sc_one_back.nd rfl (Or.inl rfl) (pe_op (op_add4k K) (pv 4) (pe_lst (pa_cons (pv 2) pa_nil))))) pss_nil) (pss_one (ps_ret (pe_tup (pa_cons (pe_op (op_add4k K) (pe_tup (pa_cons (pe_ix (ix_seqk K) (pv 1) pe_int (fun _ _ => rfl)) pa_nil)) (pe_callTy (call_tuplek K) (by rfl) T.b_tuple (by decide +kernel) (pa_cons (pe_lc (own := [("part", 5), ("more", 6)]) (by rfl) sc_one_back.nd (pi_seqk K (pv 3)) (blkOk_by (N := N_one_back) (sc := defScope s_one_back) (by decide +kernel)) (fun _ _ _ _ _ => (pg_tupk K (n := 2) (by rfl) (pgs_cons (pg_name (i := 5) sc_one_back.nd rfl (Or.inl rfl)) (pgs_cons (pg_name (i := 6) sc_one_back.nd rfl (Or.inl rfl)) pgs_nil)))) (fun _ _ _ _ _ => pts_nil) (fun _ _ _ _ _ => (pv 5))) pa_nil))) (pa_cons (pv 4) pa_nil)))))))))), fun B ds M Qd Xd h => ?_⟩)
  · obtain ⟨r, kvs, H, t, n, rfl, _⟩ := h
    rfl
  obtain ⟨r, kvs, G, t, n, rfl, hM, hk, h300, hl, qx, qq⟩ := h
  rw [encS_eq]
  walk_at "dx"
  refine de_tup ?_
  walk_at "dx"
  refine ⟨by simp, d2_in (.tup _) rfl rfl ?_⟩
  rw [show inV (flatOf (D.str t.wd)) (List.map flatOf [D.str (Str.ofString "num"), D.str (Str.ofString "name")]) = t.lf from swd_lf t]
  refine ⟨_, rfl, ?_⟩
  cases hlf : t.lf with
  | true =>
    refine ite_t rfl ?_
    walk_at "dx"
    refine de_tup ?_
    walk_at "dx"
    rw [cut1]
    refine de_lst ?_
    walk_at "dx"
    refine ⟨by simp, ?_⟩
    walk_at "dx"
    refine ⟨by simp, ?_⟩
    cases t with
    | num b v => exact qq ⟨fun x hx => (by cases hx), List.nodup_nil⟩ M kvs hM hk rfl fun _ _ _ h => h
    | nam b c => exact qq ⟨fun x hx => (by cases hx), List.nodup_nil⟩ M kvs hM hk rfl fun _ _ _ h => h
    | _ => cases hlf
  | false =>
    refine ite_f rfl ?_
    walk_at "dx"
    have ew : ∀ {pc : Addr}, M pc = none → ∀ b e, M b = some e → b ≠ pc := fun hc b e he z => by rw [z, hc] at he; cases he
    refine de_imp (Q' := fun d M2 => ∃ (pc : Addr) (vs : List BV) (kvs' : List (Key × D)), d = .val (.ref pc) ∧ M2 pc = some (.lst (vs.map encB)) ∧ M2 r = some (.dic kvs') ∧ Hk kvs' (t.bleft G) ∧ kvs'.length = kvs.length ∧ (∀ b e, b ≠ r → M b = some e → M2 b = some e) ∧ (∀ v ∈ vs, v.2.length ≤ 300) ∧ PartsOf t n G vs ∧ CanUse t G) ?_ ?_
    · refine de_lcUX (wip_name (by decide)) ?_
      refine di_seq ?_
      walk_at "dx"
      rw [cut2]
      refine ⟨_, _, .tup _ _, by cases t <;> simp [Stp.tl], fun _ => trivial, fun pc hc hcb => ?_⟩
      have hcr : r ≠ pc := ew hc r _ hM
      cases t with
      | num b v => cases hlf
      | nam b c => cases hlf
      | ask b =>
        simp only [Stp.tl, LcUX]
        exact ⟨pc, [], kvs, rfl, updM_same, (updM_ne hcr).trans hM, hk, rfl, fun b e _ he => upd_keep hc he, fun v hv => (by cases hv), ⟨by simp, rfl, rfl⟩, fun x hx => (by cases hx), List.nodup_nil⟩
      | say b x =>
        simp only [Stp.tl, LcUX]
        refine dg_name ?_
        refine dt_yes ?_
        refine ite_t rfl ?_
        refine de_callI ?_
        walk_at "dx"
        refine ⟨r, kvs, G, x, rfl, (updM_ne hcr).trans hM, hk, hl, fun hn => qx (fun z => ?_) _, fun v hx kvs' k1 k2 => ⟨(updM_ne hcr.symm).trans updM_same, ?_⟩⟩
        · obtain ⟨v, hv⟩ := z.1 x (by simp [Stp.uses])
          rw [hn] at hv; cases hv
        have hv := h300 x v hx
        refine ⟨pc, [v], kvs', rfl, updM_same, (updM_ne hcr).trans updM_same, k1, k2, fun b e hb he => (updM_ne (ew hc b e he)).trans ((updM_ne hb).trans (upd_keep hc he)), fun w hw => by rw [List.mem_singleton.mp hw]; exact hv, ⟨by simp, ?_, ?_⟩, fun y hy => ?_, by simp [Stp.uses]⟩
        · simp only [Stp.bval, hx, Option.getD_some]; rfl
        · simp only [Stp.bval, hx, Option.getD_some]; simp [Stp.loud]
        · rw [List.mem_singleton.mp hy]; exact ⟨v, hx⟩
      | bin b o x y =>
        simp only [Stp.tl, LcUX]
        refine dg_name ?_
        refine dt_yes ?_
        refine ite_t rfl ?_
        refine de_callI ?_
        walk_at "dx"
        refine ⟨r, kvs, G, x, rfl, (updM_ne hcr).trans hM, hk, hl, fun hn => qx (fun z => ?_) _, fun v hx kvs' k1 k2 => ⟨(updM_ne hcr.symm).trans updM_same, ?_⟩⟩
        · obtain ⟨v, hv⟩ := z.1 x (by simp [Stp.uses])
          rw [hn] at hv; cases hv
        have hv := h300 x v hx
        refine dg_name ?_
        refine dt_yes ?_
        refine ite_t rfl ?_
        refine de_callI ?_
        walk_at "dx"
        refine ⟨r, kvs', takeB G x, y, rfl, (updM_ne hcr).trans updM_same, k1, by omega, fun hn => qx (fun z => ?_) _, fun v2 hy kvs2 k3 k4 => ⟨(updM_ne hcr.symm).trans updM_same, ?_⟩⟩
        · have ne : x ≠ y := by have := z.2; simpa [Stp.uses] using this
          obtain ⟨v, hv⟩ := z.1 y (by simp [Stp.uses])
          rw [takeB_ne ne, hv] at hn; cases hn
        have ne : x ≠ y := fun z => by rw [z, takeB_eq] at hy; cases hy
        rw [takeB_ne ne] at hy
        have hv2 := h300 y v2 hy
        refine ⟨pc, [v, v2], kvs2, rfl, updM_same, (updM_ne hcr).trans updM_same, k3, k4.trans k2, fun b e hb he => (updM_ne (ew hc b e he)).trans ((updM_ne hb).trans ((updM_ne (ew hc b e he)).trans ((updM_ne hb).trans (upd_keep hc he)))), fun w hw => ?_, ⟨by simp, ?_, ?_⟩, fun u hu => ?_, by simp [Stp.uses, ne]⟩
        · simp only [List.mem_cons, List.not_mem_nil, or_false] at hw
          rcases hw with rfl | rfl
          · exact hv
          · exact hv2
        · simp only [Stp.bval, hx, hy, Option.getD_some]; cases o <;> rfl
        · simp only [Stp.bval, hx, hy, Option.getD_some]; simp [Stp.loud]
        · simp only [Stp.uses, List.mem_cons, List.not_mem_nil, or_false] at hu
          rcases hu with rfl | rfl
          · exact ⟨v, hx⟩
          · exact ⟨v2, hy⟩
    · rintro d M2 ⟨pc, vs, kvs', rfl, h1, h2, h3, h4, h5, h6, hP, hCU⟩
      have hlen : ∀ i, ((vs.take i).flatMap (·.2)).length ≤ 600 := fun i => by
        have few := hP.few
        match vs, few, h6 with
        | [], _, _ => simp
        | [a], _, h6 => have := h6 a (by simp); cases i <;> simp <;> omega
        | [a, b], _, h6 =>
          have := h6 a (by simp)
          have := h6 b (by simp)
          match i with
          | 0 => simp
          | 1 => simp; omega
          | n + 2 => simp; omega
      walk_at "dx"
      refine de_lst ?_
      walk_at "dx"
      refine ⟨by simp, ?_⟩
      walk_at "dx"
      refine ds_for ?_
      refine di_seq ?_
      walk_at "dx"
      refine ⟨_, _, .cell h1, fun i ε M' => ∃ (v5 v6 v7 : Option D), ε = [some (.val (.ref r)), some (.tup (.int t.box :: .str t.wd :: t.tl)), some (.int n), some (.val (.ref pc)), some (.lst .own (((vs.take i).flatMap (·.2)).map .int)), v5, v6, v7] ∧ M' = M2, ⟨_, _, _, rfl, rfl⟩, fun i ε M' ⟨_, _, _, _, e⟩ => by rw [e]; exact h1, ?_, ?_⟩
      · rintro i d ε M3 hd ⟨v5, v6, v7, rfl, rfl⟩
        rw [List.getElem?_map] at hd
        obtain ⟨v, hv, rfl⟩ : ∃ v, vs[i]? = some v ∧ encB v = d := by
          cases e : vs[i]? with
          | none => rw [e] at hd; cases hd
          | some v => rw [e] at hd; exact ⟨v, rfl, Option.some.inj hd⟩
        have hv3 := h6 v (List.mem_of_getElem? hv)
        have hli := hlen i
        unfold encB
        refine dg_tup rfl ?_
        walk_at "dx"
        refine d2_add_lst (.own _) (.own _) (by rw [List.length_map, List.length_map]; omega) ?_
        walk_at "dx"
        refine ⟨some (enc v.1), some (.lst .own (v.2.map .int)), v7, ?_, rfl⟩
        rw [List.take_add_one, hv]
        simp only [Option.toList_some, List.flatMap_append, List.flatMap_cons, List.flatMap_nil, List.append_nil, List.map_append]
        rfl
      · rintro ε M3 ⟨v5, v6, v7, rfl, rfl⟩
        rw [List.length_map, List.take_length]
        have hle := hlen vs.length
        rw [List.take_length] at hle
        walk_at "dx"
        refine de_tup ?_
        walk_at "dx"
        refine ⟨by simp, d2_in (.tup _) rfl rfl ?_⟩
        rw [show inV (flatOf (D.str t.wd)) (List.map flatOf [D.str (Str.ofString "say"), D.str (Str.ofString "ask")]) = t.loud from swd_loud t]
        refine ⟨_, rfl, ?_⟩
        have fin : ∀ M4 : Mp, M4 r = some (.dic kvs') → M4 = M3 → Qd (.tup [.tup ([.str t.wd] ++ vs.map fun v => enc v.1), .lst .own ((vs.flatMap (·.2) ++ if t.loud = true then [n] else []).map .int)]) M4 := fun M4 g1 g2 => by
          have e : encB (t.bval n G) = .tup [.tup ([.str t.wd] ++ vs.map fun v => enc v.1), .lst .own ((vs.flatMap (·.2) ++ if t.loud = true then [n] else []).map .int)] := by
            unfold encB
            rw [hP.sm, hP.ef]
            rfl
          rw [← e, g2]
          exact qq hCU M3 kvs' h2 h3 h4 h5
        cases hlo : t.loud with
        | true =>
          rw [hlo, if_pos rfl, List.map_append] at fin
          refine ite_t rfl ?_
          walk_at "dx"
          refine de_lst ?_
          walk_at "dx"
          refine ⟨by simp, ?_⟩
          refine d2_add_lst (.own _) (.own _) (by rw [List.length_map]; show _ + 1 ≤ 100000; omega) ?_
          walk_at "dx"
          refine de_tup ?_
          walk_at "dx"
          refine de_tup ?_
          walk_at "dx"
          refine ⟨by simp, ?_⟩
          walk_at "dx"
          refine de_mapA (α := BV) encB (fun _ => true) (fun v => enc v.1) (wip_tup (wips_cons mono_name (wip_name (by decide)) (wips_cons mono_name (wip_name (by decide)) wips_nil))) ?_
          refine di_seq ?_
          walk_at "dx"
          refine ⟨_, _, .cell h1, vs, rfl, by rw [List.length_map]; have := hP.few; omega, fun M' hM => hM _ _ h1, fun e he M' hM => ?_, ?_⟩
          · unfold encB
            refine dg_tup rfl ?_
            walk_at "dx"
            refine ⟨rfl, ?_⟩
            walk_at "dx"
            refine ⟨rfl, rfl, fun _ => ?_⟩
            walk_at "dx"
            exact ⟨rfl, rfl⟩
          · rw [List.filter_eq_self.mpr (fun _ _ => rfl)]
            walk_at "dx"
            refine dl_tuple (.lst (.own _)) ?_
            refine d2_add_tup (by have := hP.few; simp; omega) ?_
            walk_at "dx"
            refine ⟨by simp, ?_⟩
            exact fin M3 h2 rfl
        | false =>
          rw [hlo, if_neg Bool.false_ne_true, List.append_nil] at fin
          refine ite_f rfl ?_
          walk_at "dx"
          refine de_tup ?_
          walk_at "dx"
          refine de_tup ?_
          walk_at "dx"
          refine ⟨by simp, ?_⟩
          walk_at "dx"
          refine de_mapA (α := BV) encB (fun _ => true) (fun v => enc v.1) (wip_tup (wips_cons mono_name (wip_name (by decide)) (wips_cons mono_name (wip_name (by decide)) wips_nil))) ?_
          refine di_seq ?_
          walk_at "dx"
          refine ⟨_, _, .cell h1, vs, rfl, by rw [List.length_map]; have := hP.few; omega, fun M' hM => hM _ _ h1, fun e he M' hM => ?_, ?_⟩
          · unfold encB
            refine dg_tup rfl ?_
            walk_at "dx"
            refine ⟨rfl, ?_⟩
            walk_at "dx"
            refine ⟨rfl, rfl, fun _ => ?_⟩
            walk_at "dx"
            exact ⟨rfl, rfl⟩
          · rw [List.filter_eq_self.mpr (fun _ _ => rfl)]
            walk_at "dx"
            refine dl_tuple (.lst (.own _)) ?_
            refine d2_add_tup (by have := hP.few; simp; omega) ?_
            walk_at "dx"
            refine ⟨by simp, ?_⟩
            exact fin M3 h2 rfl

abbrev s_put_back : Stmt := top 36
abbrev N_put_back : List Str := ["steps", "held", "number", "step", "found", "part", "effects", "left", "box"]
theorem sc_put_back : FnScope N_put_back ["steps"] (defScope s_put_back) := ⟨rfl, rfl, rfl, by decide +kernel, rfl, by decide +kernel, by decide +kernel⟩
def pB (H : Bk) : D → Bool
  | .int j => (H j).isSome
  | _ => false
theorem two_le {α : Type} : ∀ {L : List α} {a b : α}, a ∈ L → b ∈ L → a ≠ b → 2 ≤ L.length
  | [], _, _, h, _, _ => by cases h
  | [x], a, b, ha, hb, hne => by
    rw [List.mem_singleton.mp ha, List.mem_singleton.mp hb] at hne
    exact absurd rfl hne
  | _ :: _ :: _, _, _, _, _, _ => by simp only [List.length_cons]; omega
def pPutBackX (Cb Cs : Addr) : Pq := fun ds Q X => ∃ xs, ds = [.lst .arg xs] ∧ noLs xs = true ∧ ((∃ n : Nat, BadAt xs n ∧ X (.ref Cb) (some [("number", .int (n : Nat))])) ∨ ∃ l : List Stp, xs = l.map encS ∧ l ≠ [] ∧ l.length ≤ 200 ∧ okSt [] l ∧ (∀ s, PBok l s → Q (enc s)) ∧ ((¬ ∃ s, PBok l s) → X (.ref Cs) none))
theorem ok_put_backX (T : Tx w K mg aP aS es n0) {Cb Cs : Addr} (ek_NoSum : EK K mg "NoSum" Cs) (d : Dn K mg "put_back" s_put_back ["steps"]) (D_need_steps : Cd P w K mg base "need_steps" 3 ["steps"] (spP K (pNeedStepsX Cb))) (D_one_back : Cd P w K mg base "one_back" 2 ["held", "step", "number"] (spI K (pOneBackX Cs))) (D_is_sum : Cd P w K mg base "is_sum" 3 ["part"] (spP K pIsSum)) :
    Cd P w K mg base "put_back" 4 ["steps"] (spP K (pPutBackX Cb Cs)) := cd_of d fun f fd F => by
  refine fnPX F sc_put_back (fun ds Q X h => ?_) (fun cdv A outer s H E hr => ⟨_, (pss_cons (ps_expr (pe_cd D_need_steps (hr.mono (by omega)) rfl psE (pa_cons (pv 0) pa_nil))) (pss_cons (ps_set (i := 1) sc_put_back.nd rfl (Or.inr rfl) pe_dnewK) (pss_cons (ps_for (passes_of rfl) rfl (pi_enum (by rfl) T.b_enumerate (pa_cons (pv 0) pa_nil)) (pg_tupk K (n := 2) (by rfl) (pgs_cons (pg_name (i := 2) sc_put_back.nd rfl (Or.inl rfl)) (pgs_cons (pg_name (i := 3) sc_put_back.nd rfl (Or.inl rfl)) pgs_nil))) (pss_cons (ps_set (i := 4) sc_put_back.nd rfl (Or.inl rfl) (pe_cd D_one_back (hr.mono (by omega)) rfl psE (pa_cons (pv 1) (pa_cons (pv 3) (pa_cons (pv 2) pa_nil))))) (pss_cons (ps_if (pt_cmpR op_notN (pe_dget2 (hu_of hr) (pv 1) (pe_ix (ix_seqk K) (pv 3) pe_int (fun _ _ => rfl)) pe_non ⟨rfl, rfl, rfl, rfl⟩) pe_non (nomark _)) (pss_one (ps_raise1 (takes_of rfl rfl rfl rfl) ek_NoSum (by rfl))) pss_nil) (pss_one (ps_dput (hu_of hr) (pv 1) (pe_ix (ix_seqk K) (pv 3) pe_int (fun _ _ => rfl)) (pv 4) rfl))))) (pss_cons (ps_asg (pe_dget (hu_of hr) (pv 1) (pe_ix (ix_seqk K) (pe_ix (ix_seqk K) (pv 0) (pe_un un_neg pe_int) (fun _ _ => rfl)) pe_int (fun _ _ => rfl)) (fun _ _ => rfl)) (pg_tupk K (n := 2) (by rfl) (pgs_cons (pg_name (i := 5) sc_put_back.nd rfl (Or.inl rfl)) (pgs_cons (pg_name (i := 6) sc_put_back.nd rfl (Or.inl rfl)) pgs_nil)))) (pss_cons (ps_lock (ps_setLc (i := 7) (own := [("box", 8)]) (by rfl) sc_put_back.nd rfl rfl (sw_true rfl rfl rfl (by decide +kernel)) (pi_keys (pv 1)) (blkOk_by (N := N_put_back) (sc := defScope s_put_back) (by decide +kernel)) (fun _ _ _ _ _ => (pg_name (i := 8) sc_put_back.nd rfl (Or.inl rfl))) (fun _ _ _ _ _ => (pts_one (pt_cmpR op_notN (pe_dget (hu_of hr) (pv 1) (pv 8) (fun _ _ => rfl)) pe_non (nomark _)))) (fun _ _ _ _ _ => (pv 8)))) (pss_cons (ps_if (PW.pt (pw_or (pt_cmpR op_gt (pe_callB (call_lenk K) (by rfl) T.b_len (by decide +kernel) (pa_cons (pv 7) pa_nil)) pe_int (nomark _)) (pw_or (pt_cmpR (op_ne3k K hr) (pv 6) (pe_callB (cr_sortedIk K) (by rfl) T.b_sorted (by decide +kernel) (pa_cons (pv 6) pa_nil)) (nomark _)) (pw_or1 (pt_not (pt_val (pe_cd D_is_sum (hr.mono (by omega)) rfl passL (pa_cons (pv 5) pa_nil)))))))) (pss_one (ps_raise1 (takes_of rfl rfl rfl rfl) ek_NoSum (by rfl))) pss_nil) (pss_one (ps_ret (pv 5))))))))), fun B ds Qd Xd h => ?_⟩)
  · obtain ⟨xs, rfl, _⟩ := h
    rfl
  obtain ⟨xs, rfl, hxn, hcs⟩ := h
  refine ds_seq (ds_drop (de_callP ?_))
  walk_at "dx"
  rcases hcs with ⟨n, hbad, q⟩ | ⟨l, rfl, hne, hl, hok, qy, qn⟩
  · exact ⟨_, .cons (.arg (vws_refl hxn)) .nil, xs, rfl, .inl ⟨n, hbad, q⟩⟩
  refine ⟨_, .cons (.arg (vws_refl (encs_noL l))) .nil, _, rfl, .inr ⟨l, rfl, hne, hl, hok, ?_⟩⟩
  refine ds_seq (ds_asg ?_)
  refine de_dnew fun r hr1 hrb => ?_
  walk_at "dx"
  refine ds_for ?_
  refine di_enum ?_
  walk_at "dx"
  refine ⟨_, _, rfl, fun i ε M' => ∃ (v2 v3 v4 v5 v6 v7 v8 : Option D) (kvs : List (Key × D)), ε = [some (.lst .arg (l.map encS)), some (.val (.ref r)), v2, v3, v4, v5, v6, v7, v8] ∧ M' r = some (.dic kvs) ∧ Hk kvs (brun (labs 0 (l.take i)) noB) ∧ kvs.length ≤ i ∧ bcan (labs 0 (l.take i)) noB ∧ Ef i (brun (labs 0 (l.take i)) noB) ∧ i ≤ l.length, ⟨_, _, _, _, _, _, _, [], rfl, updM_same, hk_nil, Nat.le_refl _, trivial, ef_nil, Nat.zero_le _⟩, fun _ _ _ _ => trivial, ?_, ?_⟩
  · rintro i d ε M1 hd ⟨v2, v3, v4, v5, v6, v7, v8, kvs, rfl, m1, hk, hkl, ca, ef, _⟩
    obtain ⟨x, hx, rfl⟩ := pairs_get hd
    rw [List.getElem?_map] at hx
    obtain ⟨t, ht, rfl⟩ : ∃ t, l[i]? = some t ∧ encS t = x := by
      cases e : l[i]? with
      | none => rw [e] at hx; cases hx
      | some t => rw [e] at hx; exact ⟨t, rfl, Option.some.inj hx⟩
    have hi := (List.getElem?_eq_some_iff.mp ht).1
    have hcan : ∀ s, PBok l s → t.can (brun (labs 0 (l.take i)) noB) := fun s hp => by
      have hc := hp.1.1
      have e : labs 0 l = labs 0 (l.take (i + 1)) ++ labs (0 + (l.take (i + 1)).length) (l.drop (i + 1)) := by rw [← labs_app, List.take_append_drop]
      rw [e, bcan_app, labs_take ht, bcan_app] at hc
      exact hc.1.2.1
    have hbc : t.can (brun (labs 0 (l.take i)) noB) → bcan (labs 0 (l.take (i + 1))) noB := fun c => by
      rw [labs_take ht, bcan_app]
      exact ⟨ca, c, trivial⟩
    have hH : brun (labs 0 (l.take (i + 1))) noB = t.bk i (brun (labs 0 (l.take i)) noB) := by rw [labs_take ht, brun_app]; rfl
    generalize brun (labs 0 (l.take i)) noB = G at *
    refine dg_tup rfl ?_
    walk_at "dx"
    refine de_callI ?_
    walk_at "dx"
    refine ⟨r, kvs, G, t, i, rfl, m1, hk, fun x v hx => by have := ef_len ef hx; omega, by omega, fun hn M' => qn fun ⟨s, hs⟩ => hn ⟨(hcan s hs).us, (hcan s hs).nd⟩, fun hcu M3 kvs' g1 g2 g3 g4 => ?_⟩
    rw [encS_eq]
    walk_at "dx"
    refine de_dget2 ?_
    walk_at "dx"
    refine ⟨⟨_, .cell g1⟩, ?_⟩
    walk_at "dx"
    refine ⟨kvs', .inl t.box, .cell g1, rfl, ?_⟩
    rw [g2.val]
    cases hbx : t.bleft G t.box with
    | some v =>
      simp only [bD, encB]
      walk_at "dx"
      refine d2_notN (.inr (.inr (.inr (.inl ⟨_, rfl⟩)))) ?_
      refine ⟨_, rfl, ite_t rfl ?_⟩
      refine ds_raise (qn fun ⟨s, hs⟩ => ?_)
      rw [(hcan s hs).fr] at hbx
      cases hbx
    | none =>
    simp only [bD]
    walk_at "dx"
    refine ds_dput ?_
    walk_at "dx"
    have hc : t.can G := ⟨hcu.1, hcu.2, hbx⟩
    refine ⟨r, kvs', .inl t.box, rfl, rfl, g1, by omega, _, _, _, _, _, _, _, _, rfl, updM_same, ?_, Nat.le_trans putD_len (by omega), hbc hc, ?_, hi⟩
    · rw [hH]
      exact hk_put g2 (by show _ = bD (putB _ _ _ _); rw [putB_eq]; rfl) fun j hj => putB_ne hj
    · rw [hH]
      exact ef_step ef (by omega) hc
  · rintro ε M1 ⟨v2, v3, v4, v5, v6, v7, v8, kvs, rfl, m1, hk, hkl, hcan, ef, _⟩
    rw [pairsFrom_len, List.length_map] at hk hkl hcan ef
    rw [List.take_length] at hk hcan ef
    obtain ⟨⟨sm, Ee⟩, hlast⟩ : ∃ v, brun (labs 0 l) noB (lastBox l) = some v := by
      obtain ⟨v, h1, _⟩ := whole_val hok hne (by omega) hcan
      exact ⟨v, h1⟩
    have hsok : sm.ok := held_ok l 0 noB (okSt_fit hok) (fun _ _ z => by cases z) hcan _ _ hlast
    have hEl := ef_len ef hlast
    have hg2 := hk_get hk hlast
    have pbw : ∀ s, PBok l s → s = sm ∧ Ee.Pairwise (· ≤ ·) ∧ sm.dp ≤ 15 ∧ sm.sz ≤ 60 ∧ ∀ x v, brun (labs 0 l) noB x = some v → x = lastBox l := fun s hp => by
      obtain ⟨hw, es', e1, e2, e3, e4⟩ := hp
      rw [hlast] at e1
      cases e1
      exact ⟨rfl, e2, e3, e4, hw.2⟩
    have hat : atI (l.map encS) (-1) = some (encS (l.getLast hne)) := by
      have e : l.map encS = (l.dropLast.map encS) ++ [encS (l.getLast hne)] := by
        rw [← List.map_singleton, ← List.map_append, List.dropLast_concat_getLast hne]
      rw [e]
      exact atI_last
    have hlb : lastBox l = (l.getLast hne).box := by
      unfold lastBox
      rw [List.getLast?_eq_some_getLast hne]
      rfl
    walk_at "dx"
    refine de_dget ?_
    walk_at "dx"
    refine d1_neg ?_
    refine d2_ix (.lst (.arg _)) hat ?_
    rw [encS_eq, ← hlb]
    walk_at "dx"
    refine ⟨kvs, .inl (lastBox l), _, .cell m1, rfl, hg2, ?_⟩
    unfold encB
    refine dg_tup rfl ?_
    walk_at "dx"
    have wone : (∀ x v, brun (labs 0 l) noB x = some v → x = lastBox l) → brun (labs 0 l) noB = putB noB (lastBox l) (sm, Ee) := fun hw => by
      funext x
      by_cases e : lastBox l = x
      · rw [← e, hlast, putB_eq]
      · rw [putB_ne e]
        cases q : brun (labs 0 l) noB x with
        | none => rfl
        | some v => exact absurd (hw x v q).symm e
    have wpb : (∀ x v, brun (labs 0 l) noB x = some v → x = lastBox l) → Ee.Pairwise (· ≤ ·) → sm.dp ≤ 15 → sm.sz ≤ 60 → PBok l sm := fun hw h1 h2 h3 => ⟨⟨hcan, hw⟩, Ee, hlast, h1, h2, h3⟩
    generalize hGG : brun (labs 0 l) noB = G at hk hlast wone wpb pbw
    refine ds_lock m1 fun o ws => ?_
    refine ds_asg (de_mapA (α := Key × D) (fun kv => keyD kv.1) (fun kv => pB G (keyD kv.1)) (fun kv => keyD kv.1) (wip_name (by decide)) ?_)
    refine di_keys ?_
    walk_at "dx"
    refine ⟨r, o, ws, kvs, rfl, updM_same, kvs, rfl, by rw [List.length_map]; omega, fun M' hM => hM _ _ updM_same, fun e he M' hM => ?_, ?_⟩
    · obtain ⟨j, hj⟩ := hk.ky e.1 (List.mem_map.mpr ⟨e, he, rfl⟩)
      have hs : (valD kvs (.inl j)).isSome = true := valD_key.mpr (by rw [← hj]; exact List.mem_map.mpr ⟨e, he, rfl⟩)
      obtain ⟨dv, hdv⟩ := Option.isSome_iff_exists.mp hs
      have hval := hk.val j
      rw [hdv, Option.getD_some] at hval
      rw [hj]
      refine dg_name ?_
      refine ⟨rfl, ?_⟩
      walk_at "dx"
      refine de_dgetF ?_
      walk_at "dx"
      refine ⟨r, o, ws, kvs, .inl j, dv, rfl, hM _ _ updM_same, rfl, hdv, ?_⟩
      show DE _ _ _ _ _
      walk_at "dx"
      subst hval
      have pb : pB G (.int j) = (G j).isSome := rfl
      show D2 _ _ (bD (G j)) .non _ _
      cases hj2 : G j with
      | none =>
        rw [hj2] at pb
        simp only [bD]
        walk_at "dx"
        refine ⟨rfl, pb.symm, fun z => ?_⟩
        walk_at "dx"
        exact ⟨rfl, rfl⟩
      | some v =>
        rw [hj2] at pb
        simp only [bD, encB]
        refine d2_notN (.inr (.inr (.inr (.inl ⟨_, rfl⟩)))) ?_
        refine ⟨_, rfl, rfl, pb.symm, fun z => ?_⟩
        walk_at "dx"
        exact ⟨rfl, rfl⟩
    have hone : (∀ x v, G x = some v → x = lastBox l) → ((kvs.filter fun kv => pB G (keyD kv.1)).map fun kv => keyD kv.1).length ≤ 1 := fun hw => by
      have := left_one hk (wone hw) (pB G) fun j hj => Option.isSome_iff_exists.mp hj
      rw [List.filter_map, List.length_map] at this
      rw [List.length_map]
      exact this
    have hmany : (¬ ∀ x v, G x = some v → x = lastBox l) → 2 ≤ ((kvs.filter fun kv => pB G (keyD kv.1)).map fun kv => keyD kv.1).length := fun hw => by
      obtain ⟨x, hx⟩ := Classical.not_forall.mp hw
      obtain ⟨v, hv⟩ := Classical.not_forall.mp hx
      obtain ⟨hv1, hv2⟩ := Classical.not_imp.mp hv
      have inn : ∀ y u, G y = some u → D.int y ∈ (kvs.filter fun kv => pB G (keyD kv.1)).map fun kv => keyD kv.1 := fun y u hy => by
        have h1 := hk_get hk hy
        have h2 : (Sum.inl y : Key) ∈ kvs.map (·.1) := valD_key.mp (by rw [h1]; rfl)
        obtain ⟨e, he, hk1⟩ := List.mem_map.mp h2
        have hk1 : e.1 = .inl y := hk1
        refine List.mem_map.mpr ⟨e, List.mem_filter.mpr ⟨he, ?_⟩, by rw [hk1]; rfl⟩
        rw [hk1]
        show (G y).isSome = true
        rw [hy]; rfl
      exact two_le (inn x v hv1) (inn _ _ hlast) fun z => hv2 (by injection z)
    have hllen : ((kvs.filter fun kv => pB G (keyD kv.1)).map fun kv => keyD kv.1).length ≤ 1000 := by
      rw [List.length_map]
      exact Nat.le_trans (List.length_filter_le _ _) (by omega)
    generalize (kvs.filter fun kv => pB G (keyD kv.1)).map (fun kv => keyD kv.1) = lf at hone hmany hllen ⊢
    refine dg_name ?_
    refine ⟨updM_same, ?_⟩
    rw [updM_updM, updM_id m1]
    walk_at "dx"
    by_cases hw : ∀ x v, G x = some v → x = lastBox l
    · have h1 := hone hw
      refine ite_f (decide_eq_false (by omega)) ?_
      walk_at "dx"
      refine dl_sortedI (.own _) fun ys hp hs => ?_
      refine d2_neL (.own _) (.own _) (by simp [flatD]) (by simp [flatD]) (ints_shaped _) (ints_shaped _) ?_
      rw [show PyData.eqv (.list ((Ee.map D.int).map toPf)) (.list ((ys.map D.int).map toPf)) = decide (Ee = ys) from eqv_ints _ _]
      refine ⟨_, rfl, ?_⟩
      by_cases hE : Ee.Pairwise (· ≤ ·)
      · have e1 := (sorted_is hp hs).mpr hE
        refine ite_f (by rw [decide_eq_true e1]; rfl) ?_
        walk_at "dx"
        refine ⟨_, vws_refl (by simp [noLs, enc_noL]), enc sm, rfl, enc_wf sm, ?_⟩
        rw [sum_enc' hsok]
        by_cases hz : sm.dp ≤ 15 ∧ sm.sz ≤ 60
        · rw [decide_eq_true hz]
          walk_at "dx"
          exact fz_ret (enc_noL _) (qy sm (wpb hw hE hz.1 hz.2))
        · rw [decide_eq_false hz]
          walk_at "dx"
          refine ds_raise (qn fun ⟨s, hs⟩ => ?_)
          obtain ⟨_, _, a1, a2, _⟩ := pbw s hs
          exact hz ⟨a1, a2⟩
      · have e1 : ¬ Ee = ys := fun z => hE ((sorted_is hp hs).mp z)
        refine ite_t (by rw [decide_eq_false e1]; rfl) ?_
        refine ite_t rfl ?_
        refine ds_raise (qn fun ⟨s, hs⟩ => ?_)
        obtain ⟨_, a0, _⟩ := pbw s hs
        exact hE a0
    · have h1 := hmany hw
      refine ite_t (decide_eq_true (by omega)) ?_
      refine ite_t rfl ?_
      refine ds_raise (qn fun ⟨s, hs⟩ => ?_)
      obtain ⟨_, _, _, _, a3⟩ := pbw s hs
      exact hw a3

def _root_.DL.Stp.formed (t : Stp) : Prop := (0 ≤ t.box ∧ t.box < 200) ∧ t.fit ∧ ∀ x ∈ t.uses, 0 ≤ x ∧ x < 200
def Formed (l : List Stp) : Prop := ∀ t ∈ l, t.formed
theorem formed_of {put : List Int} : ∀ {l : List Stp}, okSt put l → Formed l := fun {l} h t ht => by
  obtain ⟨i, hi⟩ := List.getElem?_of_mem ht
  have o := okSt_get h hi
  exact ⟨⟨o.lo, o.hi⟩, o.fit, fun x hx => ⟨(o.us x hx).1, (o.us x hx).2.1⟩⟩
theorem step_miss {ok : Int → Bool} {t : Stp} (h : ∃ x ∈ t.uses, ok x = false) : stepD ok (encS t) = false := by
  obtain ⟨x, hx, ho⟩ := h
  cases t with
  | say b y =>
    rw [List.mem_singleton.mp hx] at ho
    show (boxD (.int b) && (if (match sizeOf' "say" with | some i => i | none => 0) = ((1 + 1 : Nat) : Int) then (if (("say" : Str) = "num") then numD (.int y) else if (("say" : Str) = "name") then letD (.int y) else [D.int y].all fun z => boxD z && inPut ok z) else false)) = false
    rw [if_pos (by decide +kernel), if_neg (by decide +kernel), if_neg (by decide +kernel), List.all_cons, show inPut ok (.int y) = false from ho, Bool.and_false, Bool.false_and, Bool.and_false]
  | bin b o y z =>
    show (boxD (.int b) && (if (match sizeOf' o.word with | some i => i | none => 0) = ((2 + 1 : Nat) : Int) then (if o.word = "num" then numD (.int y) else if o.word = "name" then letD (.int y) else [D.int y, D.int z].all fun u => boxD u && inPut ok u) else false)) = false
    rw [if_pos (by rw [size_wd]; decide), if_neg (by cases o <;> decide +kernel), if_neg (by cases o <;> decide +kernel), List.all_cons, List.all_cons]
    simp only [Stp.uses, List.mem_cons, List.not_mem_nil, or_false] at hx
    rcases hx with rfl | rfl
    · rw [show inPut ok (.int x) = false from ho, Bool.and_false, Bool.false_and, Bool.and_false]
    · rw [show inPut ok (.int x) = false from ho, Bool.and_false, Bool.false_and, Bool.and_false, Bool.and_false]
  | _ => cases hx
theorem ok_or {l : List Stp} (hf : Formed l) : ∀ i, i ≤ l.length → okSt [] (l.take i) ∨ ∃ k t, k < i ∧ l[k]? = some t ∧ okSt [] (l.take k) ∧ ∃ x ∈ t.uses, x ∉ (l.take k).map Stp.box
  | 0, _ => .inl trivial
  | i + 1, hi => by
    obtain ⟨t, ht⟩ : ∃ t, l[i]? = some t := ⟨_, List.getElem?_eq_getElem (by omega)⟩
    rcases ok_or hf i (by omega) with h | ⟨k, u, h1, h2, h3⟩
    · by_cases hu : ∀ x ∈ t.uses, x ∈ (l.take i).map Stp.box
      · refine .inl ?_
        have fm := hf t (List.mem_of_getElem? ht)
        rw [List.take_add_one, ht]
        exact okSt_app.mpr ⟨h, ⟨fm.1.1, fm.1.2, fm.2.1, fun x hx => ⟨(fm.2.2 x hx).1, (fm.2.2 x hx).2, by simpa using hu x hx⟩⟩, trivial⟩
      · obtain ⟨x, hx⟩ := Classical.not_forall.mp hu
        obtain ⟨hx1, hx2⟩ := Classical.not_imp.mp hx
        exact .inr ⟨i, t, by omega, ht, h, x, hx1, hx2⟩
    · exact .inr ⟨k, u, by omega, h2, h3⟩
theorem formed_bad {l : List Stp} (hf : Formed l) (hl : l.length ≤ 200) (hn : ¬ okSt [] l) : ∃ n, BadAt (l.map encS) n := by
  rcases ok_or hf l.length (Nat.le_refl _) with h | ⟨k, t, h1, h2, h3, x, hx1, hx2⟩
  · rw [List.take_length] at h
    exact absurd h hn
  · obtain ⟨ys, hy⟩ : ∃ ys, encS t = .tup ys := ⟨_, encS_eq _⟩
    refine ⟨k, .inr ⟨l.take k, ys, (l.drop (k + 1)).map encS, ?_, h3, by rw [List.length_take]; omega, by omega, by rw [← hy]; exact encS_wf t, encs_noL _, by rw [List.length_map]; omega, .inr ?_⟩⟩
    · have e : l = l.take k ++ t :: l.drop (k + 1) := by rw [← drop_get h2, List.take_append_drop]
      conv => lhs; rw [e]
      rw [List.map_append, List.map_cons, hy]
    · rw [← hy]
      exact step_miss ⟨x, hx1, decide_eq_false hx2⟩
/-- steps as they are handed about: a list of its own, or a cell that is not a -/
def StepsAt (a : Addr) (M : Mp) (x : D) (l : List Stp) : Prop := x = .lst .own (l.map encS) ∨ ∃ p, x = .val (.ref p) ∧ p ≠ a ∧ M p = some (.lst (l.map encS))
theorem StepsAt.isl {a : Addr} {M : Mp} {x : D} {l : List Stp} (h : StepsAt a M x l) : IsL M x (l.map encS) := by
  rcases h with rfl | ⟨p, rfl, _, hp⟩
  · exact .own _
  · exact .cell hp
theorem StepsAt.vw {a : Addr} {M : Mp} {x : D} {l : List Stp} (h : StepsAt a M x l) : Vw M x (.lst .arg (l.map encS)) := by
  rcases h with rfl | ⟨p, rfl, _, hp⟩
  · exact .own (vws_refl (encs_noL l))
  · exact .cell hp (vws_refl (encs_noL l))
theorem StepsAt.upd {a : Addr} {M : Mp} {x : D} {l : List Stp} (h : StepsAt a M x l) (c : Cell) : StepsAt a (updM M a c) x l := by
  rcases h with h | ⟨p, h, hp, hm⟩
  · exact .inl h
  · exact .inr ⟨p, h, hp, (updM_ne hp).trans hm⟩
theorem StepsAt.fr {a : Addr} {M M' : Mp} {x : D} {l : List Stp} (h : StepsAt a M x l) (k : ∀ b e, b ≠ a → M b = some e → M' b = some e) : StepsAt a M' x l := by
  rcases h with h | ⟨p, h, hp, hm⟩
  · exact .inl h
  · exact .inr ⟨p, h, hp, k _ _ hp hm⟩
def _root_.DL.Stp.rebox (r : Int) : Stp → Stp
  | .num _ v => .num r v
  | .nam _ c => .nam r c
  | .ask _ => .ask r
  | .say _ x => .say r x
  | .bin _ o x y => .bin r o x y
theorem rebox_enc (r : Int) (t : Stp) : encS (t.rebox r) = .tup (.int r :: .str t.wd :: t.tl) := by cases t <;> rfl
theorem rebox_formed {r : Int} {t : Stp} (h0 : 0 ≤ r) (h1 : r < 200) (h : t.formed) : (t.rebox r).formed := by
  obtain ⟨_, h2, h3⟩ := h
  cases t <;> exact ⟨⟨h0, h1⟩, h2, h3⟩
theorem formed_app {l m : List Stp} (h1 : Formed l) (h2 : Formed m) : Formed (l ++ m) := fun t ht => (List.mem_append.mp ht).elim (h1 t) (h2 t)
theorem formed_sub {l m : List Stp} (h : Formed l) (k : ∀ t ∈ m, t ∈ l) : Formed m := fun t ht => h t (k t ht)
theorem cut_mid {xs : List D} {k m : Nat} : ∃ i, cutD xs (some (k : Int)) (some (m : Int)) = (xs.drop i).take (min m xs.length - min k xs.length) := by
  unfold cutD
  rw [HT.sIx_nat, HT.sIx_nat]
  exact ⟨_, rfl⟩
abbrev s__law_turned : Stmt := top 51
abbrev N__law_turned : List Str := ["_law_state", "_law_steps_here", "_law_k", "_law_way", "_law_both"]
theorem sc__law_turned : FnScope N__law_turned ["_law_state", "_law_steps_here"] (defScope s__law_turned) := ⟨rfl, rfl, rfl, by decide +kernel, rfl, by decide +kernel, by decide +kernel⟩
def pTurned : Sq := fun ds M Q _ => ∃ (ns : List Int) (a : Addr) (c : Cell) (x : D) (l : List Stp), ds = [.val (.ref a), x] ∧ M a = some c ∧ StOk ns c ∧ StepsAt a M x l ∧ l ≠ [] ∧ l.length ≤ 100 ∧ Formed l ∧ ∀ (l' : List Stp) (c' : Cell), Formed l' → l'.length ≤ l.length + 1 → StOk ns c' → Q (.lst .own (l'.map encS)) (updM M a c')
theorem ok__law_turned (T : Tx w K mg aP aS es n0) (d : Dn K mg "_law_turned" s__law_turned ["_law_state", "_law_steps_here"]) (D__law_drawn : Cd P w K mg base "_law_drawn" 1 ["_law_state", "_law_many"] (spI K pDrawn)) : Cd P w K mg base "_law_turned" 2 ["_law_state", "_law_steps_here"] (spI K pTurned) := cd_of d fun f fd F => by
  refine fnI F sc__law_turned (fun ds M Q X h => ?_) (fun cdv A outer s H E hr => ⟨_, (pss_cons (ps_set (i := 2) sc__law_turned.nd rfl (Or.inl rfl) (pe_cd D__law_drawn (hr.mono (by omega)) rfl passL (pa_cons (pv 0) (pa_cons (pe_callB (call_lenk K) (by rfl) T.b_len (by decide +kernel) (pa_cons (pv 1) pa_nil)) pa_nil)))) (pss_cons (ps_set (i := 3) sc__law_turned.nd rfl (Or.inl rfl) (pe_cd D__law_drawn (hr.mono (by omega)) rfl passL (pa_cons (pv 0) (pa_cons pe_int pa_nil)))) (pss_cons (ps_if (pt_cmpR (op_eq3k K hr) (pv 3) pe_int (nomark _)) (pss_one (ps_ret (pe_op (op_add4k K) (pe_slice (sl_3k K) (pv 1) po_none (po_some (pv 2))) (pe_slice (sl_3k K) (pv 1) (po_some (pe_op (op_add4k K) (pv 2) pe_int)) po_none)))) pss_nil) (pss_cons (ps_if (pt_cmpR (op_eq3k K hr) (pv 3) pe_int (nomark _)) (pss_one (ps_ret (pe_op (op_add4k K) (pe_slice (sl_3k K) (pv 1) po_none (po_some (pe_op (op_add4k K) (pv 2) pe_int))) (pe_slice (sl_3k K) (pv 1) (po_some (pv 2)) po_none)))) pss_nil) (pss_cons (ps_if (pt_cmpR (op_eq3k K hr) (pv 3) pe_int (nomark _)) (pss_cons (ps_set (i := 4) sc__law_turned.nd rfl (Or.inl rfl) (pe_slice (sl_3k K) (pv 1) (po_some (pv 2)) (po_some (pe_op (op_add4k K) (pv 2) pe_int)))) (pss_one (ps_ret (pe_op (op_add4k K) (pe_op (op_add4k K) (pe_slice (sl_3k K) (pv 1) po_none (po_some (pv 2))) (pe_revL (pv 4))) (pe_slice (sl_3k K) (pv 1) (po_some (pe_op (op_add4k K) (pv 2) pe_int)) po_none))))) pss_nil) (pss_one (ps_ret (pe_op (op_add4k K) (pe_op (op_add4k K) (pe_slice (sl_3k K) (pv 1) po_none (po_some (pv 2))) (pe_lst (pa_cons (pe_op (op_add4k K) (pe_tup (pa_cons (pe_cd D__law_drawn (hr.mono (by omega)) rfl passL (pa_cons (pv 0) (pa_cons (pe_callB (call_lenk K) (by rfl) T.b_len (by decide +kernel) (pa_cons (pv 1) pa_nil)) pa_nil))) pa_nil)) (pe_slice (sl_3k K) (pe_ix (ix_seqk K) (pv 1) (pv 2) (fun _ _ => rfl)) (po_some pe_int) po_none)) pa_nil))) (pe_slice (sl_3k K) (pv 1) (po_some (pe_op (op_add4k K) (pv 2) pe_int)) po_none))))))))), fun B ds M Qd Xd h => ?_⟩)
  · obtain ⟨ns, a, c, x, l, rfl, _⟩ := h
    rfl
  obtain ⟨ns, a, c, x, l, rfl, hM, hs, hx, hne, hl, hf, q⟩ := h
  have hpos : 0 < l.length := List.length_pos_iff.mpr hne
  walk_at "dx"
  refine dl_len (.lst hx.isl) ?_
  rw [List.length_map]
  walk_at "dx"
  refine ⟨ns, a, c, _, rfl, hM, hs, by omega, by omega, fun k1 c1 h10 h11 hs1 => ?_⟩
  obtain ⟨k, rfl⟩ : ∃ k : Nat, k1 = k := ⟨k1.toNat, by omega⟩
  have hk : k < l.length := by omega
  walk_at "dx"
  refine ⟨ns, a, c1, 4, rfl, updM_same, hs1, by decide, by decide, fun way c2 h20 h21 hs2 => ?_⟩
  rw [updM_updM]
  have hx2 := hx.upd c2
  have e1 : ((k : Nat) : Int) + 1 = ((k + 1 : Nat) : Int) := by omega
  have e2 : ((k : Nat) : Int) + 2 = ((k + 2 : Nat) : Int) := by omega
  have ft : ∀ j, Formed (l.take j) := fun j => formed_sub hf fun t ht => List.mem_of_mem_take ht
  have fd' : ∀ j, Formed (l.drop j) := fun j => formed_sub hf fun t ht => List.mem_of_mem_drop ht
  rcases (by omega : way = 0 ∨ way = 1 ∨ way = 2 ∨ way = 3) with rfl | rfl | rfl | rfl
  · walk_at "dx"
    refine dsl_lst hx2.isl ?_
    rw [cut_take, ← List.map_take]
    walk_at "dx"
    rw [e1]
    refine dsl_lst hx2.isl ?_
    rw [cut_drop, ← List.map_drop]
    refine d2_add_lst (.own _) (.own _) (by simp only [List.length_map, List.length_take, List.length_drop]; omega) ?_
    rw [← List.map_append]
    exact q _ c2 (formed_app (ft _) (fd' _)) (by simp only [List.length_append, List.length_take, List.length_drop]; omega) hs2
  · walk_at "dx"
    rw [e1]
    refine dsl_lst hx2.isl ?_
    rw [cut_take, ← List.map_take]
    walk_at "dx"
    refine dsl_lst hx2.isl ?_
    rw [cut_drop, ← List.map_drop]
    refine d2_add_lst (.own _) (.own _) (by simp only [List.length_map, List.length_take, List.length_drop]; omega) ?_
    rw [← List.map_append]
    exact q _ c2 (formed_app (ft _) (fd' _)) (by simp only [List.length_append, List.length_take, List.length_drop]; omega) hs2
  · walk_at "dx"
    rw [e2]
    refine dsl_lst hx2.isl ?_
    obtain ⟨i, hi⟩ := cut_mid (xs := l.map encS) (k := k) (m := k + 2)
    rw [hi, ← List.map_drop, ← List.map_take]
    have hb : ((l.drop i).take (min (k + 2) (l.map encS).length - min k (l.map encS).length)).length ≤ 2 := by
      rw [List.length_take]
      omega
    have fb : Formed ((l.drop i).take (min (k + 2) (l.map encS).length - min k (l.map encS).length)) := formed_sub hf fun t ht => List.mem_of_mem_drop (List.mem_of_mem_take ht)
    generalize (l.drop i).take (min (k + 2) (l.map encS).length - min k (l.map encS).length) = both at hb fb ⊢
    walk_at "dx"
    refine dsl_lst hx2.isl ?_
    rw [cut_take, ← List.map_take]
    walk_at "dx"
    refine de_revL ?_
    walk_at "dx"
    refine ⟨_, .own _, ?_⟩
    rw [← List.map_reverse]
    refine d2_add_lst (.own _) (.own _) (by simp only [List.length_map, List.length_take, List.length_reverse]; omega) ?_
    walk_at "dx"
    rw [e2]
    refine dsl_lst hx2.isl ?_
    rw [cut_drop, ← List.map_drop]
    refine d2_add_lst (.own _) (.own _) (by simp only [List.length_append, List.length_map, List.length_take, List.length_drop, List.length_reverse]; omega) ?_
    rw [← List.map_append, ← List.map_append]
    exact q _ c2 (formed_app (formed_app (ft _) (formed_sub fb fun t ht => List.mem_reverse.mp ht)) (fd' _)) (by simp only [List.length_append, List.length_take, List.length_drop, List.length_reverse]; omega) hs2
  · walk_at "dx"
    refine dsl_lst hx2.isl ?_
    rw [cut_take, ← List.map_take]
    walk_at "dx"
    refine de_lst ?_
    walk_at "dx"
    refine de_tup ?_
    walk_at "dx"
    refine dl_len (.lst hx2.isl) ?_
    rw [List.length_map]
    walk_at "dx"
    refine ⟨ns, a, c2, _, rfl, updM_same, hs2, by omega, by omega, fun r c3 hr0 hr1 hs3 => ?_⟩
    rw [updM_updM]
    have hx3 := hx.upd c3
    walk_at "dx"
    refine ⟨by simp, ?_⟩
    walk_at "dx"
    obtain ⟨t, ht⟩ : ∃ t, l[k]? = some t := ⟨_, List.getElem?_eq_getElem hk⟩
    refine d2_ix (.lst hx3.isl) (d := encS t) (atI_nat (by rw [List.getElem?_map, ht]; rfl)) ?_
    rw [encS_eq]
    walk_at "dx"
    rw [cut1]
    refine d2_add_tup (by cases t <;> simp [Stp.tl]) ?_
    rw [show [D.int r] ++ (D.str t.wd :: t.tl) = D.int r :: D.str t.wd :: t.tl from rfl, ← rebox_enc]
    walk_at "dx"
    refine ⟨by simp, ?_⟩
    refine d2_add_lst (.own _) (.own _) (by simp only [List.length_map, List.length_take, List.length_cons, List.length_nil]; omega) ?_
    walk_at "dx"
    rw [e1]
    refine dsl_lst hx3.isl ?_
    rw [cut_drop, ← List.map_drop]
    refine d2_add_lst (.own _) (.own _) (by simp only [List.length_append, List.length_map, List.length_take, List.length_drop, List.length_cons, List.length_nil]; omega) ?_
    rw [show [encS (t.rebox r)] = [t.rebox r].map encS from rfl, ← List.map_append, ← List.map_append]
    exact q _ c3 (formed_app (formed_app (ft _) fun u hu => by rw [List.mem_singleton.mp hu]; exact rebox_formed hr0 (by omega) (hf t (List.mem_of_getElem? ht))) (fd' _)) (by simp only [List.length_append, List.length_take, List.length_drop, List.length_cons, List.length_nil]; omega) hs3

/-- plain facts of the walk over who uses what -/
structure LJ (l : List Stp) (i : Nat) (W : LS) : Prop where
  put : ∀ x ∈ (l.take i).map Stp.box, ∃ k, W.1 x = some k
  lt : ∀ x k, W.1 x = some k → k < i
  len : W.2.2.length = i
  few : ∀ v ∈ W.2.2, v.2.length ≤ 300
  ul : ∀ k, (W.2.1 k).length ≤ 2 * i
theorem lj_nil (l : List Stp) : LJ l 0 noL0 := ⟨fun x h => (by simp at h), fun x k h => (by cases h), rfl, fun v h => (by cases h), fun k => Nat.le_refl _⟩
theorem lawUs_le {t : Stp} {i k : Nat} {W : LS} : (lawUs t i W k).length ≤ 2 := by
  unfold lawUs
  rw [List.length_map]
  refine Nat.le_trans (List.length_filter_le _ _) ?_
  cases t <;> simp [Stp.uses]
theorem lj_step {l : List Stp} {i : Nat} {W : LS} {t : Stp} (J : LJ l i W) (ht : l[i]? = some t) : LJ l (i + 1) (t.lw i W) := by
  refine ⟨fun x hx => ?_, fun x k h => ?_, ?_, fun v hv => ?_, fun k => ?_⟩
  · rw [List.take_add_one, ht, List.map_append] at hx
    by_cases e : t.box = x
    · exact ⟨i, if_pos e⟩
    · rcases List.mem_append.mp hx with hx | hx
      · obtain ⟨k, hk⟩ := J.put x hx
        exact ⟨k, (if_neg e).trans hk⟩
      · exact absurd (List.mem_singleton.mp hx).symm e
  · by_cases e : t.box = x
    · have h : (if t.box = x then some i else W.1 x) = some k := h
      rw [if_pos e] at h
      injection h with h
      omega
    · have h : (if t.box = x then some i else W.1 x) = some k := h
      rw [if_neg e] at h
      have := J.lt x k h
      omega
  · show (W.2.2 ++ [cut3 (t.bval i (lawB W))]).length = i + 1
    rw [List.length_append, J.len]; rfl
  · rcases List.mem_append.mp hv with hv | hv
    · exact J.few v hv
    · rw [List.mem_singleton.mp hv]
      show (List.take 300 _).length ≤ 300
      rw [List.length_take]; omega
  · show (W.2.1 k ++ lawUs t i W k).length ≤ 2 * (i + 1)
    rw [List.length_append]
    have := J.ul k
    have := lawUs_le (t := t) (i := i) (k := k) (W := W)
    omega
abbrev refD (p : Addr) : D := .val (.ref p)
abbrev natD (k : Nat) : D := .int (k : Nat)
/-- what the law keeps of the steps told so far -/
structure DuI (l : List Stp) (i : Nat) (W : LS) (r pU pS : Addr) (ps : List Addr) (M : Mp) : Prop where
  ex : ∃ kvs, M r = some (.dic kvs) ∧ kvs.length ≤ i ∧ ∀ j : Int, valD kvs (.inl j) = (W.1 j).map natD
  us : M pU = some (.lst (ps.map refD))
  each : ∀ k p, ps[k]? = some p → M p = some (.lst ((W.2.1 k).map natD))
  sm : M pS = some (.lst (W.2.2.map encB))
  J : LJ l i W
theorem tl_uses {t : Stp} (h : t.lf = false) : t.tl = t.uses.map .int := by cases t <;> first | rfl | cases h
theorem lf_uses {t : Stp} (h : t.lf = true) : t.uses = [] := by cases t <;> first | rfl | cases h
theorem putD_le {kvs : List (Key × D)} {k : Key} {v : D} : (putD kvs k v).length ≤ kvs.length + 1 := by
  have := congrArg List.length (putD_keys (kvs := kvs) (k := k) (v := v))
  split at this
  · simp only [List.length_map] at this; omega
  · simp only [List.length_append, List.length_map, List.length_singleton] at this; omega
theorem d2_neN {P : Pr} {M : Mp} {Q : D → Mp → Prop} {x : D} {xs : List Nat} (hx : IsL M x (xs.map natD)) (q : Q (.bl (decide (xs ≠ []))) M) : D2 P (rNe3 P.K) x (.lst .own []) M Q := by
  have e : xs.map natD = (xs.map Int.ofNat).map D.int := by rw [List.map_map]; rfl
  rw [e] at hx
  refine d2_neL hx (.own []) (by simp [flatD]) rfl (ints_shaped _) (ints_shaped []) ?_
  rw [show PyData.eqv (.list (((xs.map Int.ofNat).map D.int).map toPf)) (.list (([] : List D).map toPf)) = decide (xs.map Int.ofNat = []) from eqv_ints _ []]
  cases xs <;> exact q
theorem atI_end {L : List D} {d : D} (h : L[L.length - 1]? = some d) : atI L (-1) = some d := by
  have hl := (List.getElem?_eq_some_iff.mp h).1
  have e : L = L.take (L.length - 1) ++ [d] := by
    conv => lhs; rw [← List.take_append_drop (L.length - 1) L]
    rw [drop_get h, List.drop_eq_nil_of_le (by omega)]
  rw [e]
  exact atI_last
def luJ (t : Stp) (i : Nat) (W : LS) (j k : Nat) : List Nat := ((t.uses.take j).filter fun x => decide (W.1 x = some k)).map fun _ => i
theorem luJ_le {t : Stp} {i j k : Nat} {W : LS} : (luJ t i W j k).length ≤ 2 := by
  unfold luJ
  rw [List.length_map]
  refine Nat.le_trans (List.length_filter_le _ _) ?_
  rw [List.length_take]
  have : t.uses.length ≤ 2 := by cases t <;> simp [Stp.uses]
  omega
theorem luJ_step {t : Stp} {i j k : Nat} {W : LS} {x : Int} (hx : t.uses[j]? = some x) : luJ t i W (j + 1) k = luJ t i W j k ++ if W.1 x = some k then [i] else [] := by
  unfold luJ
  rw [List.take_add_one, hx, List.filter_append, List.map_append]
  congr 1
  by_cases e : W.1 x = some k
  · simp [e]
  · simp [e]
theorem flat_le {vs : List BV} (few : vs.length ≤ 2) (h6 : ∀ v ∈ vs, v.2.length ≤ 300) : ∀ i, ((vs.take i).flatMap (·.2)).length ≤ 600 := fun i => by
  match vs, few, h6 with
  | [], _, _ => simp
  | [a], _, h6 => have := h6 a (by simp); cases i <;> simp <;> omega
  | [a, b], _, h6 =>
    have := h6 a (by simp)
    have := h6 b (by simp)
    match i with
    | 0 => simp
    | 1 => simp; omega
    | n + 2 => simp; omega
def partsV (t : Stp) (W : LS) : List BV := t.uses.map fun x => (lawB W x).getD dfB
theorem parts_of (t : Stp) (n : Int) (W : LS) (h : t.lf = false) : PartsOf t n (lawB W) (partsV t W) := by
  cases t with
  | num b v => cases h
  | nam b c => cases h
  | ask b => exact ⟨by simp [partsV, Stp.uses], rfl, rfl⟩
  | say b x => exact ⟨by simp [partsV, Stp.uses], rfl, by simp [partsV, Stp.uses, Stp.bval, Stp.loud]⟩
  | bin b o x y => exact ⟨by simp [partsV, Stp.uses], by cases o <;> rfl, by simp [partsV, Stp.uses, Stp.bval, Stp.loud]⟩
theorem lf_enc {t : Stp} (h : t.lf = true) (i : Nat) (W : LS) : encB (cut3 (t.bval i (lawB W))) = .tup [.tup (.str t.wd :: t.tl), .lst .own []] := by cases t <;> first | rfl | cases h
theorem updM2 {M : Mp} {a x : Addr} {c e : Cell} (h : M x = some e) (ha : x ≠ a) : updM M a c x = some e := (updM_ne ha).trans h
abbrev s__law_due : Stmt := top 52
abbrev N__law_due : List Str := ["_law_steps_here", "_law_whence", "_law_users", "_law_sums", "_law_k", "_law_step", "_law_parts_here", "_law_effects", "_law_one", "_law_loud", "_law_found", "_law_box"]
theorem sc__law_due : FnScope N__law_due ["_law_steps_here"] (defScope s__law_due) := ⟨rfl, rfl, rfl, by decide +kernel, rfl, by decide +kernel, by decide +kernel⟩
def pDue (n : Nat) : Pq := fun ds Q _ => ∃ l : List Stp, ds = [.lst .arg (l.map encS)] ∧ l ≠ [] ∧ l.length ≤ n ∧ n ≤ 100 ∧ okSt [] l ∧ (∀ s, DueOk l s → Q (enc s)) ∧ ((¬ ∃ s, DueOk l s) → Q .non)
theorem ok__law_due (T : Tx w K mg aP aS es n0) (d : Dn K mg "_law_due" s__law_due ["_law_steps_here"]) (D__law_all : Cd P w K mg base "_law_all" 64 ["_law_part"] (spP K (pAll 62))) (D__law_deep : Cd P w K mg base "_law_deep" 64 ["_law_part"] (spP K (pDeep 62))) : Cd P w K mg base "_law_due" 66 ["_law_steps_here"] (spP K (pDue 62)) := cd_of d fun f fd F => by
  refine fnP F sc__law_due (fun ds Q X h => ?_) (fun cdv A outer s H E hr => ⟨_, (pss_cons (ps_set (i := 1) sc__law_due.nd rfl (Or.inr rfl) pe_dnewK) (pss_cons (ps_set (i := 2) sc__law_due.nd rfl (Or.inr rfl) (pe_lc (own := [("_law_step", 5)]) (by rfl) sc__law_due.nd (pi_seqk K (pv 0)) (blkOk_by (N := N__law_due) (sc := defScope s__law_due) (by decide +kernel)) (fun _ _ _ _ _ => (pg_name (i := 5) sc__law_due.nd rfl (Or.inl rfl))) (fun _ _ _ _ _ => pts_nil) (fun _ _ _ _ _ => (pe_lst pa_nil)))) (pss_cons (ps_set (i := 3) sc__law_due.nd rfl (Or.inr rfl) (pe_lst pa_nil)) (pss_cons (ps_for PassesOwn.never rfl (pi_range1 (by rfl) T.b_range (pa_cons (pe_callB (call_lenk K) (by rfl) T.b_len (by decide +kernel) (pa_cons (pv 0) pa_nil)) pa_nil)) (pg_name (i := 4) sc__law_due.nd rfl (Or.inl rfl)) (pss_cons (ps_set (i := 5) sc__law_due.nd rfl (Or.inl rfl) (pe_ix (ix_seqk K) (pv 0) (pv 4) (fun _ _ => rfl))) (pss_cons (ps_if (pt_cmpR (op_in2k K) (pe_ix (ix_seqk K) (pv 5) pe_int (fun _ _ => rfl)) (pe_tup (pa_cons pe_str (pa_cons pe_str pa_nil))) (by rfl)) (pss_one (ps_expr (pe_bmk K PySem.F.plainAttrs_list PySem.F.slot_list_append PySem.F.type_list_append mt_append (pv 3) (pa_cons (pe_tup (pa_cons (pe_slice (sl_3k K) (pv 5) (po_some pe_int) po_none) (pa_cons (pe_lst pa_nil) pa_nil))) pa_nil)))) (pss_cons (ps_setLc (i := 6) (own := [("_law_box", 11)]) (by rfl) sc__law_due.nd rfl rfl (sw_true rfl rfl rfl (by decide +kernel)) (pi_seqk K (pe_slice (sl_3k K) (pv 5) (po_some pe_int) po_none)) (blkOk_by (N := N__law_due) (sc := defScope s__law_due) (by decide +kernel)) (fun _ _ _ _ _ => (pg_name (i := 11) sc__law_due.nd rfl (Or.inl rfl))) (fun _ _ _ _ _ => pts_nil) (fun _ _ _ _ _ => (pe_dget (hu_of hr) (pv 1) (pv 11) (fun _ _ => rfl)))) (pss_cons (ps_set (i := 7) sc__law_due.nd rfl (Or.inl rfl) (pe_lst pa_nil)) (pss_cons (ps_for PassesOwn.never rfl (pi_seqk K (pv 6)) (pg_name (i := 8) sc__law_due.nd rfl (Or.inl rfl)) (pss_cons (ps_expr (pe_bmk K PySem.F.plainAttrs_list PySem.F.slot_list_append PySem.F.type_list_append mt_append (pe_ix (ix_seqk K) (pv 2) (pv 8) (fun _ _ => rfl)) (pa_cons (pv 4) pa_nil))) (pss_one (ps_set (i := 7) sc__law_due.nd rfl (Or.inl rfl) (pe_op (op_add4k K) (pv 7) (pe_ix (ix_seqk K) (pe_ix (ix_seqk K) (pv 3) (pv 8) (fun _ _ => rfl)) pe_int (fun _ _ => rfl))))))) (pss_cons (ps_set (i := 9) sc__law_due.nd rfl (Or.inl rfl) (pe_op op_mul2 (pe_lst (pa_cons (pv 4) pa_nil)) (pe_callTy call_intA (by rfl) T.b_int (by decide +kernel) (pa_cons (pe_cmpR (op_in2k K) (pe_ix (ix_seqk K) (pv 5) pe_int (fun _ _ => rfl)) (pe_tup (pa_cons pe_str (pa_cons pe_str pa_nil))) (by rfl)) pa_nil)))) (pss_one (ps_expr (pe_bmk K PySem.F.plainAttrs_list PySem.F.slot_list_append PySem.F.type_list_append mt_append (pv 3) (pa_cons (pe_tup (pa_cons (pe_op (op_add4k K) (pe_tup (pa_cons (pe_ix (ix_seqk K) (pv 5) pe_int (fun _ _ => rfl)) pa_nil)) (pe_callTy (call_tuplek K) (by rfl) T.b_tuple (by decide +kernel) (pa_cons (pe_lc (own := [("_law_one", 8)]) (by rfl) sc__law_due.nd (pi_seqk K (pv 6)) (blkOk_by (N := N__law_due) (sc := defScope s__law_due) (by decide +kernel)) (fun _ _ _ _ _ => (pg_name (i := 8) sc__law_due.nd rfl (Or.inl rfl))) (fun _ _ _ _ _ => pts_nil) (fun _ _ _ _ _ => (pe_ix (ix_seqk K) (pe_ix (ix_seqk K) (pv 3) (pv 8) (fun _ _ => rfl)) pe_int (fun _ _ => rfl)))) pa_nil))) (pa_cons (pe_slice (sl_3k K) (pe_op (op_add4k K) (pv 7) (pv 9)) po_none (po_some pe_int)) pa_nil))) pa_nil))))))))) (pss_one (ps_dput (hu_of hr) (pv 1) (pe_ix (ix_seqk K) (pv 5) pe_int (fun _ _ => rfl)) (pv 4) rfl))))) (pss_cons (ps_if (PW.pt (pw_or (pt_cmpR (op_ne3k K hr) (pe_lc (own := [("_law_k", 4)]) (by rfl) sc__law_due.nd (pi_range1 (by rfl) T.b_range (pa_cons (pe_op op_sub (pe_callB (call_lenk K) (by rfl) T.b_len (by decide +kernel) (pa_cons (pv 0) pa_nil)) pe_int) pa_nil)) (blkOk_by (N := N__law_due) (sc := defScope s__law_due) (by decide +kernel)) (fun _ _ _ _ _ => (pg_name (i := 4) sc__law_due.nd rfl (Or.inl rfl))) (fun _ _ _ _ _ => (pts_one (pt_cmpR (op_ne3k K hr) (pe_callB (call_lenk K) (by rfl) T.b_len (by decide +kernel) (pa_cons (pe_ix (ix_seqk K) (pv 2) (pv 4) (fun _ _ => rfl)) pa_nil)) pe_int (nomark _)))) (fun _ _ _ _ _ => (pv 4))) (pe_lst pa_nil) (nomark _)) (pw_or1 (pt_cmpR (op_ne3k K hr) (pe_ix (ix_seqk K) (pv 2) (pe_un un_neg pe_int) (fun _ _ => rfl)) (pe_lst pa_nil) (nomark _))))) (pss_one (ps_ret pe_non)) pss_nil) (pss_cons (ps_asg (pe_ix (ix_seqk K) (pv 3) (pe_un un_neg pe_int) (fun _ _ => rfl)) (pg_tupk K (n := 2) (by rfl) (pgs_cons (pg_name (i := 10) sc__law_due.nd rfl (Or.inl rfl)) (pgs_cons (pg_name (i := 7) sc__law_due.nd rfl (Or.inl rfl)) pgs_nil)))) (pss_cons (ps_if (PW.pt (pw_or (pt_cmpR (op_ne3k K hr) (pv 7) (pe_callB (cr_sortedIk K) (by rfl) T.b_sorted (by decide +kernel) (pa_cons (pv 7) pa_nil)) (nomark _)) (pw_or (pt_cmpR op_gt (pe_callB (call_lenk K) (by rfl) T.b_len (by decide +kernel) (pa_cons (pe_cd D__law_all (hr.mono (by omega)) rfl passL (pa_cons (pv 10) pa_nil)) pa_nil)) pe_int (nomark _)) (pw_or1 (pt_cmpR op_gt (pe_cd D__law_deep (hr.mono (by omega)) rfl passL (pa_cons (pv 10) pa_nil)) pe_int (nomark _)))))) (pss_one (ps_ret pe_non)) pss_nil) (pss_one (ps_ret (pv 10)))))))))), fun B ds Qd Xd h => ?_⟩)
  · obtain ⟨l, rfl, _⟩ := h
    rfl
  obtain ⟨l, rfl, hne, hl, _, hok, qy, qn⟩ := h
  refine ds_seq (ds_asg ?_)
  refine de_dnew fun r hr1 hrb => ?_
  walk_at "dx"
  refine de_lc (wip_name (by decide)) ?_
  refine di_seq ?_
  walk_at "dx"
  refine ⟨_, _, .lst _ _ _, fun pU hU hUb => ?_⟩
  have hrU : pU ≠ r := fun z => by rw [z, updM_same] at hU; cases hU
  refine ⟨fun i acc M' => ∃ ps : List Addr, acc = ps.map refD ∧ ps.length = i ∧ i ≤ l.length ∧ ps.Nodup ∧ M' r = some (.dic []) ∧ M' pU = some (.lst (ps.map refD)) ∧ ∀ p ∈ ps, M' p = some (.lst []) ∧ p ≠ pU, ⟨[], rfl, rfl, Nat.zero_le _, List.nodup_nil, (updM_ne hrU.symm).trans updM_same, updM_same, fun p hp => by cases hp⟩, ?_, ?_, ?_⟩
  · rintro i acc M1 ⟨ps, rfl, hpl, hi, _, _, h2, _⟩
    exact ⟨trivial, h2, by rw [List.length_map]; omega⟩
  · rintro i d acc M1 hd ⟨ps, rfl, hpl, hi, nd, h1, h2, h3⟩
    have hi' := (List.getElem?_eq_some_iff.mp hd).1
    rw [List.length_map] at hi'
    walk_at "dx"
    refine de_lstC ?_
    walk_at "dx"
    refine ⟨by simp, fun p hp hpb => ?_⟩
    have hpU : p ≠ pU := fun z => by rw [z, h2] at hp; cases hp
    have hpr : p ≠ r := fun z => by rw [z, h1] at hp; cases hp
    have hpp : ∀ q ∈ ps, q ≠ p := fun q hq z => by rw [← z, (h3 q hq).1] at hp; cases hp
    refine ⟨(updM_ne hpU.symm).trans h2, by rw [List.length_map]; omega, ps ++ [p], by simp, by simp; omega, by omega, ?_, (updM_ne hrU.symm).trans ((updM_ne hpr.symm).trans h1), by rw [List.map_append]; exact updM_same, fun q hq => ?_⟩
    · exact List.nodup_append.mpr ⟨nd, by simp, fun a ha b hb => by rw [List.mem_singleton.mp hb]; exact hpp a ha⟩
    · rcases List.mem_append.mp hq with hq | hq
      · exact ⟨(updM_ne (h3 q hq).2).trans ((updM_ne (hpp q hq)).trans (h3 q hq).1), (h3 q hq).2⟩
      · rw [List.mem_singleton.mp hq]
        exact ⟨(updM_ne hpU).trans updM_same, hpU⟩
  rintro acc M1 ⟨ps, rfl, hpl, _, nd, m1, m2, m3⟩
  rw [List.length_map] at hpl
  walk_at "dx"
  refine de_lstC ?_
  walk_at "dx"
  refine ⟨by simp, fun pS hS hSb => ?_⟩
  have hSr : pS ≠ r := fun z => by rw [z, m1] at hS; cases hS
  have hSU : pS ≠ pU := fun z => by rw [z, m2] at hS; cases hS
  have hSp : ∀ p ∈ ps, p ≠ pS := fun p hp z => by rw [← z, (m3 p hp).1] at hS; cases hS
  have hpr : ∀ p ∈ ps, p ≠ r := fun p hp z => by have := (m3 p hp).1; rw [z, m1] at this; cases this
  have hpU : ∀ p ∈ ps, p ≠ pU := fun p hp => (m3 p hp).2
  have inp : ∀ {k : Nat} {p : Addr}, ps[k]? = some p → p ∈ ps := fun h => List.mem_of_getElem? h
  walk_at "dx"
  refine ds_for ?_
  refine di_rng1 ?_
  walk_at "dx"
  rw [List.length_map]
  refine ⟨by omega, by omega, fun i ε M' => ∃ (v4 v5 v6 v7 v8 v9 v10 v11 : Option D), ε = [some (.lst .arg (l.map encS)), some (.val (.ref r)), some (.val (.ref pU)), some (.val (.ref pS)), v4, v5, v6, v7, v8, v9, v10, v11] ∧ DuI l i (lrun (l.take i) 0 noL0) r pU pS ps M', ⟨_, _, _, _, _, _, _, _, rfl, ⟨⟨[], updM2 m1 hSr.symm, Nat.le_refl _, fun j => rfl⟩, updM2 m2 hSU.symm, fun k p hp => updM2 (m3 p (inp hp)).1 (hSp p (inp hp)), updM_same, lj_nil l⟩⟩, fun _ _ _ _ => trivial, ?_, ?_⟩
  · rintro i d ε M2 hd ⟨v4, v5, v6, v7, v8, v9, v10, v11, rfl, ⟨⟨kvs, x1, x2, x3⟩, us, each, sm, J⟩⟩
    have hi' := (List.getElem?_eq_some_iff.mp hd).1
    rw [intsD_len] at hi'
    have hdi : d = .int (i : Nat) := by
      have := hd
      unfold intsD at this
      rw [List.getElem?_map, List.getElem?_range (by omega)] at this
      have := Option.some.inj this
      rw [← this]
      show D.int (0 + (i : Nat)) = _
      rw [Int.zero_add]
    subst hdi
    obtain ⟨t, ht⟩ : ∃ t, l[i]? = some t := ⟨_, List.getElem?_eq_getElem (by omega)⟩
    have o := okSt_get hok ht
    have hnx := lrun_take ht
    have J' := lj_step J ht
    generalize hW : lrun (l.take i) 0 noL0 = W at *
    walk_at "dx"
    refine d2_ix (.lst (.arg _)) (d := encS t) (atI_nat (by rw [List.getElem?_map, ht]; rfl)) ?_
    rw [encS_eq]
    walk_at "dx"
    refine de_tup ?_
    walk_at "dx"
    refine ⟨by simp, d2_in (.tup _) rfl rfl ?_⟩
    rw [show inV (flatOf (D.str t.wd)) (List.map flatOf [D.str (Str.ofString "num"), D.str (Str.ofString "name")]) = t.lf from swd_lf t]
    refine ⟨_, rfl, ?_⟩
    have hpl2 : ∀ k, k < l.length → ∃ p, ps[k]? = some p := fun k hk => ⟨_, List.getElem?_eq_getElem (by omega)⟩
    have hx' : ∀ M3 : Mp, M3 r = some (.dic (putD kvs (.inl t.box) (.int (i : Nat)))) → M3 pU = some (.lst (ps.map refD)) → (∀ k p, ps[k]? = some p → M3 p = some (.lst ((W.2.1 k ++ lawUs t i W k).map natD))) → M3 pS = some (.lst ((W.2.2 ++ [cut3 (t.bval i (lawB W))]).map encB)) → DuI l (i + 1) (lrun (l.take (i + 1)) 0 noL0) r pU pS ps M3 := fun M3 a1 a2 a3 a4 => by
      rw [hnx]
      refine ⟨⟨_, a1, ?_, fun j => ?_⟩, a2, a3, a4, J'⟩
      · have := putD_le (kvs := kvs) (k := .inl t.box) (v := .int (i : Nat))
        omega
      · rw [valD_put]
        show _ = (if t.box = j then some i else W.1 j).map natD
        by_cases e : t.box = j
        · rw [if_pos e, if_pos (by rw [e])]
          rfl
        · rw [if_neg e, if_neg (fun z => e (by injection z)), x3]
    cases hlf : t.lf with
    | true =>
      refine ite_t rfl ?_
      walk_at "dx"
      refine de_bm ?_
      walk_at "dx"
      refine ⟨ty_list (.cell sm), ?_⟩
      walk_at "dx"
      refine de_tup ?_
      walk_at "dx"
      rw [cut1]
      refine de_lst ?_
      walk_at "dx"
      refine ⟨by simp, ?_⟩
      walk_at "dx"
      refine ⟨by simp, ?_⟩
      walk_at "dx"
      refine dm_append sm (by rw [List.length_map, J.len]; omega) ?_
      walk_at "dx"
      refine ds_dput ?_
      walk_at "dx"
      refine ⟨r, kvs, .inl t.box, rfl, rfl, updM2 x1 hSr.symm, by omega, ?_⟩
      walk_at "dx"
      refine ⟨_, _, _, _, _, _, _, _, rfl, hx' _ updM_same (updM2 (updM2 us hSU.symm) hrU) (fun k p hp => ?_) (updM2 ?_ hSr)⟩
      · rw [show lawUs t i W k = [] by unfold lawUs; rw [lf_uses hlf]; rfl, List.append_nil]
        exact updM2 (updM2 (each k p hp) (hSp p (inp hp))) (hpr p (inp hp))
      · rw [List.map_append, List.map_cons, List.map_nil, lf_enc hlf]
        exact updM_same
    | false =>
      refine ite_f rfl ?_
      walk_at "dx"
      refine de_mapA (α := Int) D.int (fun _ => true) (fun x => natD ((W.1 x).getD 0)) (wip_name (by decide)) ?_
      refine di_seq ?_
      walk_at "dx"
      rw [cut2, tl_uses hlf]
      refine ⟨_, _, .tup _ _, t.uses, rfl, by rw [List.length_map]; cases t <;> simp [Stp.uses], fun _ _ => trivial, fun x hx M' hM => ?_, ?_⟩
      · walk_at "dx"
        refine ⟨rfl, ?_⟩
        walk_at "dx"
        refine ⟨rfl, rfl, fun _ => ?_⟩
        refine de_dget ?_
        walk_at "dx"
        obtain ⟨k, hk⟩ := J.put x (by have := (o.us x hx).2.2; simpa using this)
        refine ⟨kvs, .inl x, natD k, .cell (hM _ _ x1), rfl, by rw [x3, hk]; rfl, rfl, ?_⟩
        rw [hk]; rfl
      rw [List.filter_eq_self.mpr (fun _ _ => rfl)]
      walk_at "dx"
      refine de_lst ?_
      walk_at "dx"
      refine ⟨by simp, ?_⟩
      walk_at "dx"
      have hgo : ∀ x ∈ t.uses, ∃ k p S, W.1 x = some k ∧ ps[k]? = some p ∧ W.2.2[k]? = some S ∧ (lawB W x).getD dfB = S ∧ S.2.length ≤ 300 := fun x hx => by
        obtain ⟨k, hk⟩ := J.put x (by have := (o.us x hx).2.2; simpa using this)
        have hki := J.lt x k hk
        obtain ⟨p, hp⟩ := hpl2 k (by omega)
        have hS2 : W.2.2[k]? = some (W.2.2[k]'(by rw [J.len]; exact hki)) := List.getElem?_eq_getElem _
        refine ⟨k, p, _, hk, hp, hS2, ?_, J.few _ (List.getElem_mem _)⟩
        unfold lawB
        rw [hk]
        dsimp only
        rw [hS2]
        rfl
      have hef : ∀ j, (((partsV t W).take j).flatMap (·.2)).length ≤ 600 := fun j => by
        have few := (parts_of t i W hlf).few
        have h6 : ∀ v ∈ partsV t W, v.2.length ≤ 300 := fun v hv => by
          obtain ⟨x, hx, rfl⟩ := List.mem_map.mp hv
          obtain ⟨_, _, S, _, _, _, e, hs⟩ := hgo x hx
          rw [e]; exact hs
        exact flat_le few h6 j
      have hul2 : t.uses.length ≤ 2 := by cases t <;> simp [Stp.uses]
      refine ds_for ?_
      refine di_seq ?_
      walk_at "dx"
      refine ⟨_, _, .lst _ _ _, fun j ε M' => ∃ v8 : Option D, ε = [some (.lst .arg (l.map encS)), some (.val (.ref r)), some (.val (.ref pU)), some (.val (.ref pS)), some (.int (i : Nat)), some (.tup (.int t.box :: .str t.wd :: t.uses.map .int)), some (.lst .own (t.uses.map fun x => natD ((W.1 x).getD 0))), some (.lst .own ((((partsV t W).take j).flatMap (·.2)).map .int)), v8, v9, v10, v11] ∧ M' r = some (.dic kvs) ∧ M' pU = some (.lst (ps.map refD)) ∧ (∀ k p, ps[k]? = some p → M' p = some (.lst ((W.2.1 k ++ luJ t i W j k).map natD))) ∧ M' pS = some (.lst (W.2.2.map encB)), ⟨_, rfl, x1, us, fun k p hp => by rw [show luJ t i W 0 k = [] from rfl, List.append_nil]; exact each k p hp, sm⟩, fun _ _ _ _ => trivial, ?_, ?_⟩
      · rintro j d ε M3 hd ⟨v8, rfl, y1, y2, y3, y4⟩
        rw [List.getElem?_map] at hd
        obtain ⟨x, hx, rfl⟩ : ∃ x, t.uses[j]? = some x ∧ natD ((W.1 x).getD 0) = d := by
          cases e : t.uses[j]? with
          | none => rw [e] at hd; cases hd
          | some v => rw [e] at hd; exact ⟨v, rfl, Option.some.inj hd⟩
        have hj := (List.getElem?_eq_some_iff.mp hx).1
        obtain ⟨k0, p0, S, g1, g2, g3, g4, g5⟩ := hgo x (List.mem_of_getElem? hx)
        rw [g1, Option.getD_some]
        have hp0 := inp g2
        have z := y3 k0 p0 g2
        have zl : (luJ t i W j k0).length ≤ 2 := luJ_le
        have zu := J.ul k0
        have heJ := hef j
        walk_at "dx"
        refine de_bm ?_
        walk_at "dx"
        refine d2_ix (.lst (.cell y2)) (d := refD p0) (atI_nat (by rw [List.getElem?_map, g2]; rfl)) ?_
        refine ⟨ty_list (.cell z), ?_⟩
        walk_at "dx"
        refine dm_append z (by rw [List.length_map, List.length_append]; omega) ?_
        walk_at "dx"
        refine d2_ix (.lst (.cell (updM2 y4 (hSp p0 hp0).symm))) (d := encB S) (atI_nat (by rw [List.getElem?_map, g3]; rfl)) ?_
        unfold encB
        walk_at "dx"
        refine d2_add_lst (.own _) (.own _) (by rw [List.length_map, List.length_map]; omega) ?_
        walk_at "dx"
        refine ⟨some (natD k0), ?_, updM2 y1 (hpr p0 hp0).symm, updM2 y2 (hpU p0 hp0).symm, fun k p hp => ?_, updM2 y4 (hSp p0 hp0).symm⟩
        · rw [show (partsV t W).take (j + 1) = (partsV t W).take j ++ [S] by rw [List.take_add_one, show (partsV t W)[j]? = some S by unfold partsV; rw [List.getElem?_map, hx, ← g4]; rfl]; rfl, List.flatMap_append, List.map_append]
          simp only [List.flatMap_cons, List.flatMap_nil, List.append_nil]
          rfl
        · rw [luJ_step hx]
          by_cases e : k = k0
          · subst e
            rw [hp] at g2
            cases g2
            rw [if_pos g1, show List.map natD (W.2.1 k ++ (luJ t i W j k ++ [i])) = List.map natD (W.2.1 k ++ luJ t i W j k) ++ [.int (i : Nat)] by rw [← List.append_assoc, List.map_append]; rfl]
            exact updM_same
          · rw [if_neg (fun z => e (by rw [g1] at z; injection z with z; exact z.symm)), List.append_nil]
            exact updM2 (y3 k p hp) fun z => e ((List.getElem?_inj (List.getElem?_eq_some_iff.mp hp).1 nd).mp (by rw [hp, g2, z]))
      · rintro ε M3 ⟨v8, rfl, y1, y2, y3, y4⟩
        rw [List.length_map] at y3 ⊢
        rw [show (partsV t W).take t.uses.length = partsV t W from List.take_of_length_le (by unfold partsV; rw [List.length_map]; exact Nat.le_refl _)]
        have hP := parts_of t i W hlf
        have heJ := hef t.uses.length
        rw [show (partsV t W).take t.uses.length = partsV t W from List.take_of_length_le (by unfold partsV; rw [List.length_map]; exact Nat.le_refl _)] at heJ
        walk_at "dx"
        refine de_lst ?_
        walk_at "dx"
        refine ⟨by simp, ?_⟩
        walk_at "dx"
        refine de_tup ?_
        walk_at "dx"
        refine ⟨by simp, d2_in (.tup _) rfl rfl ?_⟩
        rw [show inV (flatOf (D.str t.wd)) (List.map flatOf [D.str (Str.ofString "say"), D.str (Str.ofString "ask")]) = t.loud from swd_loud t]
        walk_at "dx"
        refine dl_intAB ?_
        have hrp : (List.replicate (if t.loud = true then (1 : Int) else 0).toNat [D.int (i : Nat)]).flatten = (if t.loud = true then [((i : Nat) : Int)] else []).map .int := by cases t.loud <;> rfl
        have hrl : ((if t.loud = true then [((i : Nat) : Int)] else []).map D.int).length ≤ 1 := by cases t.loud <;> simp
        refine d2_rep (.own _) (by cases t.loud <;> decide) (by cases t.loud <;> decide) (by cases t.loud <;> simp) ?_
        rw [hrp]
        walk_at "dx"
        refine de_bm ?_
        walk_at "dx"
        refine ⟨ty_list (.cell y4), ?_⟩
        walk_at "dx"
        refine de_tup ?_
        walk_at "dx"
        refine de_tup ?_
        walk_at "dx"
        refine ⟨by simp, ?_⟩
        walk_at "dx"
        refine de_mapA (α := Int) (fun x => natD ((W.1 x).getD 0)) (fun _ => true) (fun x => enc ((lawB W x).getD dfB).1) (wip_name (by decide)) ?_
        refine di_seq ?_
        walk_at "dx"
        refine ⟨_, _, .lst _ _ _, t.uses, rfl, by rw [List.length_map]; omega, fun _ _ => trivial, fun x hx M' hM => ?_, ?_⟩
        · obtain ⟨k0, p0, S, g1, g2, g3, g4, g5⟩ := hgo x hx
          rw [g1, Option.getD_some, g4]
          walk_at "dx"
          refine ⟨rfl, ?_⟩
          walk_at "dx"
          refine ⟨rfl, rfl, fun _ => ?_⟩
          walk_at "dx"
          refine d2_ix (.lst (.cell (hM _ _ y4))) (d := encB S) (atI_nat (by rw [List.getElem?_map, g3]; rfl)) ?_
          unfold encB
          walk_at "dx"
          exact ⟨rfl, rfl⟩
        rw [List.filter_eq_self.mpr (fun _ _ => rfl)]
        walk_at "dx"
        refine dl_tuple (.lst (.own _)) ?_
        refine d2_add_tup (by simp; omega) ?_
        walk_at "dx"
        refine d2_add_lst (.own _) (.own _) (by rw [List.length_map]; omega) ?_
        walk_at "dx"
        refine dsl_lst (.own _) ?_
        rw [show (300 : Int) = ((300 : Nat) : Int) from rfl, cut_take, ← List.map_append, ← List.map_take]
        walk_at "dx"
        refine ⟨by simp, ?_⟩
        walk_at "dx"
        refine dm_append y4 (by rw [List.length_map, J.len]; omega) ?_
        walk_at "dx"
        refine ds_dput ?_
        walk_at "dx"
        refine ⟨r, kvs, .inl t.box, rfl, rfl, updM2 y1 hSr.symm, by omega, ?_⟩
        walk_at "dx"
        refine ⟨_, _, _, _, _, _, _, _, rfl, hx' _ updM_same (updM2 (updM2 y2 hSU.symm) hrU) (fun k p hp => ?_) (updM2 ?_ hSr)⟩
        · have := y3 k p hp
          rw [show luJ t i W t.uses.length k = lawUs t i W k by unfold luJ lawUs; rw [List.take_length]] at this
          exact updM2 (updM2 this (hSp p (inp hp))) (hpr p (inp hp))
        · rw [List.map_append, List.map_cons, List.map_nil]
          have e : encB (cut3 (t.bval i (lawB W))) = .tup [.tup ([.str t.wd] ++ t.uses.map fun x => enc ((lawB W x).getD dfB).1), .lst .own (((partsV t W).flatMap (·.2) ++ if t.loud = true then [((i : Nat) : Int)] else []).take 300 |>.map .int)] := by
            unfold encB cut3
            dsimp only
            rw [hP.sm, hP.ef]
            unfold partsV
            rw [List.map_map]
            rfl
          rw [e]
          exact updM_same
  · rintro ε M2 ⟨v4, v5, v6, v7, v8, v9, v10, v11, rfl, ⟨⟨kvs, x1, x2, x3⟩, us, each, sm, J⟩⟩
    rw [intsD_len, show ((l.length : Nat) : Int).toNat = l.length from rfl, List.take_length] at each sm J
    have hpos : 0 < l.length := List.length_pos_iff.mpr hne
    walk_at "dx"
    refine de_mapA (α := Nat) natD (fun k => decide (((lrun l 0 noL0).2.1 k).length ≠ 1)) natD (wip_name (by decide)) ?_
    refine di_rng1 ?_
    walk_at "dx"
    rw [List.length_map]
    refine ⟨by omega, by omega, List.range (l.length - 1), ?_, by rw [intsD_len]; omega, fun _ _ => trivial, fun k hk M' hM => ?_, ?_⟩
    · rw [show (((l.length : Nat) : Int) - 1).toNat = l.length - 1 by omega]
      unfold intsD
      exact List.map_congr_left fun i _ => by show D.int (0 + _) = _; rw [Int.zero_add]
    · have hk' := List.mem_range.mp hk
      obtain ⟨p, hp⟩ : ∃ p, ps[k]? = some p := ⟨_, List.getElem?_eq_getElem (by omega)⟩
      walk_at "dx"
      refine ⟨rfl, ?_⟩
      walk_at "dx"
      refine d2_ix (.lst (.cell (hM _ _ us))) (d := refD p) (atI_nat (by rw [List.getElem?_map, hp]; rfl)) ?_
      walk_at "dx"
      refine dl_len (.lst (.cell (hM _ _ (each k p hp)))) ?_
      rw [List.length_map]
      walk_at "dx"
      refine ⟨rfl, ?_, fun _ => ?_⟩
      · rw [← decide_not]
        exact decide_eq_decide.mpr ⟨fun z y => z (by omega), fun z y => z (by omega)⟩
      · walk_at "dx"
        exact ⟨rfl, rfl⟩
    walk_at "dx"
    refine de_lst ?_
    walk_at "dx"
    refine ⟨by simp, ?_⟩
    refine d2_neN (.own _) ?_
    refine ⟨_, rfl, ?_⟩
    by_cases hA : (List.range (l.length - 1)).filter (fun k => decide (((lrun l 0 noL0).2.1 k).length ≠ 1)) = []
    · refine ite_f (decide_eq_false fun z => z hA) ?_
      have h1 : ∀ k, k + 1 < l.length → ((lrun l 0 noL0).2.1 k).length = 1 := fun k hk => by
        have := List.filter_eq_nil_iff.mp hA k (List.mem_range.mpr (by omega))
        simpa using this
      obtain ⟨pl, hpl3⟩ : ∃ p, ps[l.length - 1]? = some p := ⟨_, List.getElem?_eq_getElem (by omega)⟩
      walk_at "dx"
      refine d1_neg ?_
      walk_at "dx"
      refine d2_ix (.lst (.cell us)) (d := refD pl) (atI_end (by rw [List.length_map, hpl, List.getElem?_map, hpl3]; rfl)) ?_
      walk_at "dx"
      refine de_lst ?_
      walk_at "dx"
      refine ⟨by simp, ?_⟩
      refine d2_neN (.cell (each _ _ hpl3)) ?_
      refine ⟨_, rfl, ?_⟩
      by_cases hB : (lrun l 0 noL0).2.1 (l.length - 1) = []
      · refine ite_f (decide_eq_false fun z => z hB) ?_
        have told : Told1 l := ⟨h1, hB⟩
        have wh := (told_whole hok hne (by omega)).mp told
        obtain ⟨v, e1, e2⟩ := whole_val hok hne (by omega) wh.1
        have hsz := whole_sz wh.1 (show brun (labs 0 l) noB (lastBox l) = some (v.1, v.2) from e1)
        have hdp := dp_sz v.1
        have hv3 := J.few v (List.mem_of_getElem? e2)
        have due : ∀ s, DueOk l s → s = v.1 ∧ v.2.Pairwise (· ≤ ·) ∧ s.dp ≤ 15 ∧ s.sz ≤ 60 := fun s ⟨_, es, a1, a2, a3, a4⟩ => by
          rw [e2] at a1
          have := Option.some.inj a1
          subst this
          exact ⟨rfl, a2, a3, a4⟩
        walk_at "dx"
        refine d1_neg ?_
        walk_at "dx"
        refine d2_ix (.lst (.cell sm)) (d := encB v) (atI_end (by rw [List.length_map, J.len, List.getElem?_map, e2]; rfl)) ?_
        unfold encB
        refine dg_tup rfl ?_
        walk_at "dx"
        refine dl_sortedI (.own _) fun ys hp hs => ?_
        refine d2_neL (.own _) (.own _) (by simp [flatD]) (by simp [flatD]) (ints_shaped _) (ints_shaped _) ?_
        rw [show PyData.eqv (.list ((v.2.map D.int).map toPf)) (.list ((ys.map D.int).map toPf)) = decide (v.2 = ys) from eqv_ints _ _]
        refine ⟨_, rfl, ?_⟩
        by_cases hE : v.2.Pairwise (· ≤ ·)
        · have e1 := (sorted_is hp hs).mpr hE
          refine ite_f (by rw [decide_eq_true e1]; rfl) ?_
          walk_at "dx"
          refine ⟨_, vws_refl (by simp [noLs, enc_noL]), v.1, rfl, by omega, by omega, ?_⟩
          walk_at "dx"
          rw [List.length_map, all_len]
          by_cases hz : v.1.sz ≤ 60
          · refine ite_f (decide_eq_false (by omega)) ?_
            walk_at "dx"
            refine ⟨_, vws_refl (by simp [noLs, enc_noL]), v.1, rfl, by omega, ?_⟩
            walk_at "dx"
            by_cases hdd : v.1.dp ≤ 15
            · refine ite_f (decide_eq_false (by omega)) ?_
              walk_at "dx"
              exact fz_ret (enc_noL _) (qy v.1 ⟨told, v.2, e2, hE, hdd, hz⟩)
            · refine ite_t (decide_eq_true (by omega)) ?_
              walk_at "dx"
              exact qn fun ⟨s, hs⟩ => by
                obtain ⟨a1, a2, a3, a4⟩ := due s hs
                rw [a1] at a3
                exact hdd a3
          · refine ite_t (decide_eq_true (by omega)) ?_
            walk_at "dx"
            exact qn fun ⟨s, hs⟩ => by
              obtain ⟨a1, a2, a3, a4⟩ := due s hs
              rw [a1] at a4
              exact hz a4
        · have e1 : ¬ v.2 = ys := fun z => hE ((sorted_is hp hs).mp z)
          refine ite_t (by rw [decide_eq_false e1]; rfl) ?_
          refine ite_t rfl ?_
          walk_at "dx"
          exact qn fun ⟨s, hs⟩ => hE (due s hs).2.1
      · refine ite_t (decide_eq_true hB) ?_
        walk_at "dx"
        exact qn fun ⟨s, hs⟩ => hB hs.1.2
    · refine ite_t (decide_eq_true hA) ?_
      refine ite_t rfl ?_
      walk_at "dx"
      refine qn fun ⟨s, hs⟩ => hA (List.filter_eq_nil_iff.mpr fun k hk => ?_)
      have := hs.1.1 k (by have := List.mem_range.mp hk; omega)
      simpa using this

def toldV (r : R3) : D := .tup [.int r.1, .lst .arg (r.2.1.map .int), .int (r.2.2 : Nat)]
theorem toldV_sd {r : R3} (h : r.2.1.length ≤ 1000) : sdD 3 (toldV r) = true := by
  simp only [toldV, sdD, Bool.and_eq_true, decide_eq_true_eq, List.all_eq_true, List.length_cons, List.length_nil, List.all_cons, List.all_nil]
  refine ⟨by decide, trivial, ⟨by rw [List.length_map]; exact h, fun d hd => ?_⟩, trivial, trivial⟩
  obtain ⟨i, _, rfl⟩ := List.mem_map.mp hd
  rfl
theorem toldV_vw {M : Mp} (r : R3) : Vw M (toldD r) (toldV r) := .tup (.cons (.int _) (.cons (.own (vws_refl (ints_noL' _))) (.cons (.int _) .nil)))
theorem srun_said {nm gv : Nat → Int} : ∀ (l : List Stp) (S : HS), (srun nm gv l S).2.1.length ≤ S.2.1.length + l.length
  | [], S => Nat.le_add_right _ _
  | t :: l, S => by
    have h1 := srun_said (nm := nm) (gv := gv) l (t.put nm gv S)
    have h2 := go_len (nm := nm) (gv := gv) (t := t) (S := S)
    show (srun nm gv l (t.put nm gv S)).2.1.length ≤ _
    have h3 : (t.put nm gv S).2.1 = (t.go nm gv S).2.1 := rfl
    rw [h3] at h1
    rw [List.length_cons]
    omega
theorem formed_bad2 {l : List Stp} (hf : Formed l) (hl : l.length ≤ 200) (hn : ¬ (l ≠ [] ∧ okSt [] l)) : ∃ n, BadAt (l.map encS) n := by
  by_cases e : l = []
  · subst e
    exact ⟨0, .inl ⟨rfl, rfl⟩⟩
  · exact formed_bad hf hl fun z => hn ⟨e, z⟩
theorem d2_neS0 {P : Pr} {M : Mp} {Q : D → Mp → Prop} {x : D} {l : List Stp} (hx : IsL M x (l.map encS)) (hf : ∀ t ∈ l, t.fit) (q : Q (.bl (decide (l ≠ []))) M) : D2 P (rNe3 P.K) x (.lst .own []) M Q :=
  fun vx vy H R rx ry gd k => by
    obtain ⟨a, us, rfl, a1, a2⟩ := hx.at rx gd
    obtain ⟨b, ws, rfl, b1, b2⟩ := (IsL.own (M := M) []).at ry gd
    have f : (l.map encS).all flat2 = true := List.all_eq_true.mpr fun d hd => by
      obtain ⟨t, _, rfl⟩ := List.mem_map.mp hd
      exact encS_flat t
    have f0 : ([] : List D).all flat2 = true := rfl
    have s0 : SeqAt.shaped (.list (([] : List D).map toP2)) = true := encs_shaped (l := []) fun t ht => by cases ht
    have e : PyData.eqv (.list ((l.map encS).map toP2)) (.list (([] : List D).map toP2)) = decide (l = []) := by cases l <;> rfl
    have e2 : (!decide (l = [])) = decide (l ≠ []) := by rw [decide_not]
    refine .inr (.inr ⟨_, _, .lst (SqL.of a1) (dps_flat2 f a2), .lst (SqL.of b1) (dps_flat2 f0 b2), encs_shaped hf, s0, ?_⟩)
    rw [e, e2]
    exact k.here (.bl _) gd q
theorem wd_bad (s : Sm) : ¬ s.wd = ("BadSteps" : Str) := by
  cases s with
  | bin o a b =>
    cases o
    · exact (by decide +kernel : ¬ (("add" : Str) = ("BadSteps" : Str)))
    · exact (by decide +kernel : ¬ (("less" : Str) = ("BadSteps" : Str)))
    · exact (by decide +kernel : ¬ (("times" : Str) = ("BadSteps" : Str)))
  | num n => exact (by decide +kernel : ¬ (("num" : Str) = ("BadSteps" : Str)))
  | nam n => exact (by decide +kernel : ¬ (("name" : Str) = ("BadSteps" : Str)))
  | ask => exact (by decide +kernel : ¬ (("ask" : Str) = ("BadSteps" : Str)))
  | say a => exact (by decide +kernel : ¬ (("say" : Str) = ("BadSteps" : Str)))
theorem cst_formed {s : Sm} (g : s.good) : Formed (s.cst 0) := formed_of (back_cst g).ok
abbrev s_law : Stmt := top 54
abbrev N_law : List Str := ["_law_script", "_law_state", "_law_turn", "_law_steps_here", "_law_change", "_law_found", "_law_due_here", "_law_names_here", "_law_given_here", "_law_told"]
theorem sc_law : FnScope N_law ["_law_script"] (defScope s_law) := ⟨rfl, rfl, rfl, by decide +kernel, rfl, by decide +kernel, by decide +kernel⟩
def pLaw (p0 : Addr) : Sq := fun ds M Q _ => ∃ ns : List Int, ds = [.lst .frz (ns.map .int)] ∧ ns.length ≤ 63 ∧ (M p0 = some (.tab lamQ)) ∧ ∀ M', Q (.bl true) M'
theorem ok_law {f c p0 g CS Ex0 Ex1 Ex2 Ex3 Ex4 Ex5 : Addr} {oc kV doc pm ct oc2 kV2 doc2 pm2 cdv2 ct2 : Value} {od an od2 an2 : Option Addr} {osl osl2 : Array (Option Value)} (T : Tx w K mg aP aS es n0)
    (lk : K.lookup f = some ⟨oc, od, .func (PySem.W.fnOf "law" "law" (defArgs s_law) (defBody s_law) (defScope s_law) .none kV doc pm an (.ref c) ct), osl⟩) (hcd : PySem.W.codeIn K (.ref c) "law" = true)
    (kn_gl : mg "_law_kind" = some (.ref g)) (kn_kp : PySem.W.keepIn K (.ref g) = true) (kn_lk : K.lookup g = some ⟨oc2, od2, .func (PySem.W.fnOf "_law_kind" "_law_kind" (defArgs s__law_kind) (defBody s__law_kind) (defScope s__law_kind) .none kV2 doc2 pm2 an2 cdv2 ct2), osl2⟩) (kn_cd : PySem.W.codeIn K cdv2 "_law_kind" = true)
    (kn_bd : L2.Binds K (PySem.W.fnOf "_law_kind" "_law_kind" (defArgs s__law_kind) (defBody s__law_kind) (defScope s__law_kind) .none kV2 doc2 pm2 an2 cdv2 ct2) ["_law_work"] []) (Kk : Ks K mg CS Ex0 Ex1 Ex2 Ex3 Ex4 Ex5) (hKd : KdW K CS Ex0 Ex1 Ex2 Ex3 Ex4 Ex5 Ex4 "NoSum") (hex : PySem.W.exmOne K (.ref Ex4) (.ref CS) = some true)
    (hKf : KindF K CS Ex0 Ex1 Ex2 Ex3 Ex4 Ex5 Ex1 "BadSteps" "number") (hxf : PySem.W.exmOne K (.ref Ex1) (.ref CS) = some true) (TB : LamX.TabB base mg c p0)
    (D__law_start : Cd P w K mg base "_law_start" 1 ["_law_script"] (spI K pStart)) (D__law_steps : Cd P w K mg base "_law_steps" 2 ["_law_state"] (spI K pStepsL)) (D__law_any : Cd P w K mg base "_law_any" 18 ["_law_state"] (spI K pAny)) (D__law_cut : Cd P w K mg base "_law_cut" 17 ["_law_part", "_law_found"] (spI K (pCutL 15))) (D__law_drawn : Cd P w K mg base "_law_drawn" 1 ["_law_state", "_law_many"] (spI K pDrawn)) (D__law_turned : Cd P w K mg base "_law_turned" 2 ["_law_state", "_law_steps_here"] (spI K pTurned))
    (D__law_same : Cd P w K mg base "_law_same" 17 ["_law_found", "_law_due_here"] (spP K (pSame 15))) (D__law_due : Cd P w K mg base "_law_due" 66 ["_law_steps_here"] (spP K (pDue 62))) (D__law_names : Cd P w K mg base "_law_names" 2 ["_law_state"] (spI K pNames)) (D__law_given : Cd P w K mg base "_law_given" 2 ["_law_state"] (spI K pGiven))
    (D_put_back : Cd P w K mg base "put_back" 4 ["steps"] (spP K (pPutBackX Ex1 Ex4))) (D_run : Cd P w K mg base "run" 4 ["steps", "names", "given"] (spP K (pRunX Ex1 Ex2 Ex3))) (D_worth : Cd P w K mg base "worth" 18 ["part", "names", "given"] (spP K (pWorthX Ex2 Ex3))) :
    FnOk P w K mg base (L2.CX P w) 80 f (PySem.W.fnOf "law" "law" (defArgs s_law) (defBody s_law) (defScope s_law) .none kV doc pm an (.ref c) ct) ["_law_script"] (spI K (pLaw p0)) := by
  refine fnIc lk hcd sc_law (fun ds M Q X h => ?_) (fun A outer s H E hr => ⟨_, (pss_cons (ps_set (i := 1) sc_law.nd rfl (Or.inl rfl) (pe_cd D__law_start (hr.mono (by omega)) rfl passL (pa_cons (pv 0) pa_nil))) (pss_cons (ps_for PassesOwn.never rfl (pi_range1 (by rfl) T.b_range (pa_cons pe_int pa_nil)) (pg_name (i := 2) sc_law.nd rfl (Or.inl rfl)) (pss_cons (ps_set (i := 3) sc_law.nd rfl (Or.inr rfl) (pe_slice (sl_3k K) (pe_cd D__law_steps (hr.mono (by omega)) rfl passL (pa_cons (pv 1) pa_nil)) po_none (po_some pe_int))) (pss_cons (ps_if (pt_cmpR op_gt (pe_op op_modN (pv 2) pe_int) pe_int (nomark _)) (pss_cons (ps_set (i := 3) sc_law.nd rfl (Or.inr rfl) (pe_lst pa_nil)) (pss_cons (ps_expr (pe_cd D__law_cut (hr.mono (by omega)) rfl passL (pa_cons (pe_cd D__law_any (hr.mono (by omega)) rfl passL (pa_cons (pv 1) pa_nil)) (pa_cons (pv 3) pa_nil)))) (pss_one (ps_for PassesOwn.never rfl (pi_range1 (by rfl) T.b_range (pa_cons (pe_cd D__law_drawn (hr.mono (by omega)) rfl passL (pa_cons (pv 1) (pa_cons pe_int pa_nil))) pa_nil)) (pg_name (i := 4) sc_law.nd rfl (Or.inl rfl)) (pss_one (ps_set (i := 3) sc_law.nd rfl (Or.inr rfl) (pe_ifExp (pt_cmpR (op_ne3k K hr) (pv 3) (pe_lst pa_nil) (nomark _)) (pe_cd D__law_turned (hr.mono (by omega)) rfl passL (pa_cons (pv 1) (pa_cons (pv 3) pa_nil))) (pe_lst (pa_cons (pe_tup (pa_cons pe_int (pa_cons pe_str pa_nil))) pa_nil))))))))) pss_nil) (pss_cons (ps_set (i := 5) sc_law.nd rfl (Or.inl rfl) (pe_kind (k := 20) rfl kn_gl kn_kp kn_lk kn_cd kn_bd sc__law_kind rfl (Or.inl rfl) (kind_givesF Kk) TB rfl (hr.mono (by omega)) (LamX.lamS_by (by rfl)) rfl (fun _ _ _ _ _ => rfl) (fun A outer s H E f c1 hr => (pe_cd D_put_back (hr.mono (by omega)) rfl psE (pa_cons (pv 3) pa_nil))))) (pss_one (ps_if (PW.pt (pw_and (pt_val (pe_callB (call_isi3k K) (by rfl) T.b_isinstance (by decide +kernel) (pa_cons (pv 5) (pa_cons (pe_bltn (v := .ty "tuple") (by rfl) T.b_tuple (by decide +kernel) rfl) pa_nil)))) (pw_and1 (pt_cmpR (op_eq3k K hr) (pe_ix (ix_seqk K) (pv 5) pe_int (fun _ _ => rfl)) pe_str (nomark _))))) (pss_one (ps_if (pt_not (pt_val (pe_cd D__law_same (hr.mono (by omega)) rfl passL (pa_cons (pe_kind (k := 20) rfl kn_gl kn_kp kn_lk kn_cd kn_bd sc__law_kind rfl (Or.inl rfl) (kind_givesF Kk) TB rfl (hr.mono (by omega)) (LamX.lamS_by (by rfl)) rfl (fun _ _ _ _ _ => rfl) (fun A outer s H E f c1 hr => (pe_cd D_run (hr.mono (by omega)) rfl psE (pa_cons (pv 3) (pa_cons pe_dnewK (pa_cons (pe_lst pa_nil) pa_nil)))))) (pa_cons (pv 5) pa_nil))))) (pss_one (ps_ret pe_bl)) pss_nil)) (pss_cons (ps_set (i := 6) sc_law.nd rfl (Or.inl rfl) (pe_cd D__law_due (hr.mono (by omega)) rfl passL (pa_cons (pv 3) pa_nil))) (pss_cons (ps_if (pt_not (pt_val (pe_cd D__law_same (hr.mono (by omega)) rfl passL (pa_cons (pv 5) (pa_cons (pe_ifExp (pt_cmpR op_isN (pv 6) pe_non (nomark _)) pe_str (pv 6)) pa_nil))))) (pss_one (ps_ret pe_bl)) pss_nil) (pss_cons (ps_par (i := 7) (j := 8) (by rfl) sc_law.nd rfl rfl (by decide) rfl rfl (pa_cons (pe_cd D__law_names (hr.mono (by omega)) rfl passL (pa_cons (pv 1) pa_nil)) (pa_cons (pe_cd D__law_given (hr.mono (by omega)) rfl passL (pa_cons (pv 1) pa_nil)) pa_nil)) (by rfl)) (pss_one (ps_if (pt_cmpR op_notN (pv 6) pe_non (nomark _)) (pss_cons (ps_set (i := 9) sc_law.nd rfl (Or.inl rfl) (pe_cd D_run (hr.mono (by omega)) rfl passL (pa_cons (pv 3) (pa_cons (pv 7) (pa_cons (pv 8) pa_nil))))) (pss_one (ps_if (pt_not (pt_val (pe_cd D__law_same (hr.mono (by omega)) rfl passL (pa_cons (pv 9) (pa_cons (pe_cd D_worth (hr.mono (by omega)) rfl passL (pa_cons (pv 6) (pa_cons (pv 7) (pa_cons (pv 8) pa_nil)))) pa_nil))))) (pss_one (ps_ret pe_bl)) pss_nil))) pss_nil))))))))))) (pss_one (ps_ret pe_bl)))), fun B ds M Qd Xd h => ?_⟩)
  · obtain ⟨ns, rfl, _⟩ := h
    rfl
  obtain ⟨ns, rfl, hl, h0, q⟩ := h
  walk_at "dx"
  refine ⟨ns, rfl, hl, fun a cS ha hs => ?_⟩
  have hap : a ≠ p0 := fun z => by rw [z, h0] at ha; cases ha
  walk_at "dx"
  refine ds_for ?_
  refine di_rng1 ?_
  walk_at "dx"
  refine ⟨by decide, by decide, fun i ε M' => ∃ (c : Cell) (v2 v3 v4 v5 v6 v7 v8 v9 : Option D), ε = [some (.lst .frz (ns.map .int)), some (.val (.ref a)), v2, v3, v4, v5, v6, v7, v8, v9] ∧ M' a = some c ∧ StOk ns c ∧ M' p0 = some (.tab lamQ), ⟨cS, _, _, _, _, _, _, _, _, rfl, updM_same, hs, upd_keep ha h0⟩, fun _ _ _ _ => trivial, ?_, ?_⟩
  · rintro i d ε M1 hd ⟨c1, v2, v3, v4, v5, v6, v7, v8, v9, rfl, h1, hs1, t1⟩
    have hdi : d = .int (i : Nat) := by
      have hd1 := hd
      have hi' := (List.getElem?_eq_some_iff.mp hd).1
      rw [intsD_len] at hi'
      unfold intsD at hd1
      rw [List.getElem?_map, List.getElem?_range hi'] at hd1
      have := Option.some.inj hd1
      rw [← this]
      show D.int (0 + (i : Nat)) = _
      rw [Int.zero_add]
    subst hdi
    walk_at "dx"
    refine ⟨ns, a, c1, rfl, h1, hs1, fun p3 l c2 M2 hne hll hok hs2 hp3 h2 b2 fr2 => ?_⟩
    have t2 := fr2 p0 _ hap.symm t1
    walk_at "dx"
    refine dsl_lst (.cell b2) ?_
    rw [show (12 : Int) = ((12 : Nat) : Int) from rfl, cut_take, ← List.map_take]
    refine dg_name ?_
    refine ds_seq (ds_imp (G' := { nx := fun ε M => ∃ (x : D) (l : List Stp) (c : Cell) (v4 v5 v6 v7 v8 v9 : Option D), ε = [some (.lst .frz (ns.map .int)), some (.val (.ref a)), some (.int (i : Nat)), some x, v4, v5, v6, v7, v8, v9] ∧ M a = some c ∧ StOk ns c ∧ M p0 = some (.tab lamQ) ∧ StepsAt a M x l ∧ Formed l ∧ l.length ≤ 62, rt := fun _ _ => False }) ?_ (fun ε M5 hm => ?_) (fun _ _ z => z.elim) (fun _ _ z => z.elim) (fun _ _ z => z.elim))
    · refine ds_if ?_
      walk_at "dx"
      refine d2_modN (by decide) ?_
      walk_at "dx"
      by_cases hturn : (((i : Nat) : Int).fmod 4) > 0
      · refine ite_t (decide_eq_true hturn) ?_
        walk_at "dx"
        refine de_lstC ?_
        walk_at "dx"
        refine ⟨by simp, fun pq hq hqb => ?_⟩
        have haq : a ≠ pq := fun z => by rw [← z, h2] at hq; cases hq
        have h0q : p0 ≠ pq := fun z => by rw [← z, t2] at hq; cases hq
        walk_at "dx"
        refine ⟨ns, a, c2, rfl, updM2 h2 haq, hs2, fun s1 c3 M3 g1 hs3 h3 fr3 => ?_⟩
        have t3 := fr3 p0 _ hap.symm (updM2 t2 h0q)
        have q3 := fr3 pq _ haq.symm updM_same
        have hz := g1.sz
        have hdp := g1.dp
        walk_at "dx"
        refine ⟨pq, s1, [], rfl, q3, hdp, by rw [List.length_nil]; omega, fun M4 q4 fr4 => ?_⟩
        rw [List.nil_append, List.length_nil, show ((0 : Nat) : Int) = 0 from rfl, ← cst_enc] at q4
        have h4 := fr4 a _ haq h3
        have t4 := fr4 p0 _ h0q t3
        walk_at "dx"
        refine ds_for ?_
        refine di_rng1 ?_
        walk_at "dx"
        refine ⟨ns, a, c3, 3, rfl, h4, hs3, by decide, by decide, fun r1 c4 r10 r11 hs4 => ?_⟩
        walk_at "dx"
        refine ⟨by omega, by omega, fun j ε M' => ∃ (x : D) (l : List Stp) (c : Cell) (v4 v5 v6 v7 v8 v9 : Option D), ε = [some (.lst .frz (ns.map .int)), some (.val (.ref a)), some (.int (i : Nat)), some x, v4, v5, v6, v7, v8, v9] ∧ M' a = some c ∧ StOk ns c ∧ M' p0 = some (.tab lamQ) ∧ StepsAt a M' x l ∧ Formed l ∧ l.length ≤ 60 + j ∧ j ≤ 2, ⟨_, s1.cst 0, c4, _, _, _, _, _, _, rfl, updM_same, hs4, updM2 t4 hap.symm, .inr ⟨pq, rfl, haq.symm, updM2 q4 haq.symm⟩, cst_formed g1, by have := congrArg List.length (cst_enc s1 0); rw [List.length_map, cuts_len] at this; omega, by decide⟩, fun _ _ _ _ => trivial, ?_, ?_⟩
        · rintro j d ε M6 hd6 ⟨x, l6, c6, w4, w5, w6, w7, w8, w9, rfl, k1, k2, k3, k4, k5, k6, k7⟩
          have hj := (List.getElem?_eq_some_iff.mp hd6).1
          rw [intsD_len] at hj
          walk_at "dx"
          refine de_lst ?_
          walk_at "dx"
          refine ⟨by simp, ?_⟩
          refine d2_neS0 k4.isl (fun t ht => (k5 t ht).2.1) ?_
          refine ⟨_, rfl, ?_⟩
          by_cases hl6 : l6 = []
          · refine ite_f (decide_eq_false fun z => z hl6) ?_
            walk_at "dx"
            refine de_lst ?_
            walk_at "dx"
            refine de_tup ?_
            walk_at "dx"
            refine ⟨by simp, ?_⟩
            walk_at "dx"
            refine ⟨by simp, ?_⟩
            walk_at "dx"
            exact ⟨_, [.ask 0], c6, _, _, _, _, _, _, rfl, k1, k2, k3, .inl rfl, fun t ht => by rw [List.mem_singleton.mp ht]; exact ⟨⟨by decide, by decide⟩, trivial, fun x hx => by cases hx⟩, by simp; omega, by omega⟩
          · refine ite_t (decide_eq_true hl6) ?_
            walk_at "dx"
            refine ⟨ns, a, c6, x, l6, rfl, k1, k2, k4, hl6, by omega, k5, fun l' c' f1 f2 f3 => ?_⟩
            walk_at "dx"
            exact ⟨_, l', c', _, _, _, _, _, _, rfl, updM_same, f3, updM2 k3 hap.symm, .inl rfl, f1, by omega, by omega⟩
        · rintro ε M6 ⟨x, l6, c6, w4, w5, w6, w7, w8, w9, rfl, k1, k2, k3, k4, k5, k6, k7⟩
          rw [intsD_len] at k6 k7
          walk_at "dx"
          exact ⟨x, l6, c6, _, _, _, _, _, _, rfl, k1, k2, k3, k4, k5, by omega⟩
      · refine ite_f (decide_eq_false hturn) ?_
        walk_at "dx"
        exact ⟨_, l.take 12, c2, _, _, _, _, _, _, rfl, h2, hs2, t2, .inl rfl, formed_of (okSt_app.mp (by rw [List.take_append_drop]; exact hok) : okSt [] (l.take 12) ∧ _).1, by rw [List.length_take]; omega⟩
    obtain ⟨x, l5, c5, w4, w5, w6, w7, w8, w9, rfl, k1, k2, k3, k4, k5, k6⟩ := hm
    walk_at "dx"
    refine de_imp (Q' := fun d2 M' => M5 = M' ∧ ((∃ n : Nat, BadAt (l5.map encS) n ∧ d2 = .tup [.str "BadSteps", .int (n : Nat)]) ∨ (l5 ≠ [] ∧ okSt [] l5 ∧ ((∃ s, PBok l5 s ∧ d2 = enc s) ∨ ((¬ ∃ s, PBok l5 s) ∧ d2 = .str "NoSum"))))) ?_ ?_
    · refine de_kindF (P := ⟨K, B, E, Xd⟩) (q := lamQ) k3 fun E' => ?_
      refine de_callP ?_
      walk_at "dx"
      by_cases hok5 : l5 ≠ [] ∧ okSt [] l5
      · refine ⟨_, .cons k4.vw .nil, _, rfl, encs_noL l5, .inr ⟨l5, rfl, hok5.1, by omega, hok5.2, fun s hs => ?_, fun hn => ?_⟩⟩
        · exact ⟨rfl, .inr ⟨hok5.1, hok5.2, .inl ⟨s, hs, rfl⟩⟩⟩
        · exact ⟨Ex4, rfl, hex, .inl ⟨rfl, "NoSum", hKd, rfl, .inr ⟨hok5.1, hok5.2, .inr ⟨hn, rfl⟩⟩⟩⟩
      · obtain ⟨n, hbad⟩ := formed_bad2 k5 (by omega) hok5
        refine ⟨_, .cons k4.vw .nil, _, rfl, encs_noL l5, .inl ⟨n, hbad, ?_⟩⟩
        exact ⟨Ex1, rfl, hxf, .inr ⟨"BadSteps", "number", n, rfl, hKf, rfl, .inl ⟨n, hbad, rfl⟩⟩⟩
    rintro d2 M6 ⟨rfl, hcase⟩
    have fin : ∀ (M7 : Mp) (c7 : Cell) (u4 u5 u6 u7 u8 u9 : Option D), M7 a = some c7 → StOk ns c7 → M7 p0 = some (.tab lamQ) → ∃ (c : Cell) (v2 v3 v4 v5 v6 v7 v8 v9 : Option D), [some (D.lst .frz (ns.map .int)), some (.val (.ref a)), some (.int (i : Nat)), some x, u4, u5, u6, u7, u8, u9] = [some (.lst .frz (ns.map .int)), some (.val (.ref a)), v2, v3, v4, v5, v6, v7, v8, v9] ∧ M7 a = some c ∧ StOk ns c ∧ M7 p0 = some (.tab lamQ) := fun M7 c7 u4 u5 u6 u7 u8 u9 b1 b2 b3 => ⟨c7, _, _, _, _, _, _, _, _, rfl, b1, b2, b3⟩
    rcases hcase with ⟨n, hbad, rfl⟩ | ⟨hne5, hok5, hcase⟩
    · walk_at "dx"
      refine de_imp (Q' := fun d3 M' => (∀ b e, M5 b = some e → M' b = some e) ∧ d3 = .tup [.str "BadSteps", .int (n : Nat)]) ?_ ?_
      · refine de_kindF (P := ⟨K, B, E, Xd⟩) (q := lamQ) k3 fun E' => ?_
        refine de_callP ?_
        walk_at "dx"
        refine de_dnew fun pd hpd hpdb => ?_
        walk_at "dx"
        refine de_lst ?_
        walk_at "dx"
        refine ⟨by simp, ?_⟩
        walk_at "dx"
        refine ⟨_, .cons ((k4.fr (fun b e _ he => upd_keep hpd he)).vw) (.cons (.cellD updM_same rfl .nil) (.cons (.own .nil) .nil)), _, [], [], rfl, encs_noL l5, rfl, .inl ⟨n, hbad, ?_⟩⟩
        exact ⟨Ex1, rfl, hxf, .inr ⟨"BadSteps", "number", n, rfl, hKf, fun b e he => upd_keep hpd he, rfl⟩⟩
      · rintro d3 M7 ⟨fr, rfl⟩
        walk_at "dx"
        refine ⟨_, vws_refl rfl, .tup [.str "BadSteps", .int (n : Nat)], rfl, by simp [sdD], ?_⟩
        walk_at "dx"
        exact fin _ c5 _ _ _ _ _ _ (fr _ _ k1) k2 (fr _ _ k3)
    · have db := due_back hok5 hne5 (by omega : l5.length ≤ 300)
      rcases hcase with ⟨s, hs, rfl⟩ | ⟨hn, rfl⟩
      · have gs := back_good hok5 hs
        rw [enc_eq]
        walk_at "dx"
        refine ite_f (decide_eq_false (wd_bad s)) ?_
        walk_at "dx"
        refine ⟨_, .cons k4.vw .nil, l5, rfl, hne5, k6, by decide, hok5, fun s' hs' => ?_, fun hn => absurd ⟨s, (db s).mpr hs⟩ hn⟩
        rw [back_unique ((db s').mp hs') hs]
        rw [← enc_eq]
        walk_at "dx"
        refine d2_isN (.inr (.inr (.inr (.inl ⟨_, enc_eq s⟩)))) ?_
        refine ⟨_, rfl, ite_f rfl ?_⟩
        walk_at "dx"
        refine ⟨_, .cons (vw_refl (enc_noL s)) (.cons (vw_refl (enc_noL s)) .nil), enc s, rfl, sd_enc 15 s gs.dp, ?_⟩
        walk_at "dx"
        refine ⟨ns, a, c5, rfl, k1, k2, fun p vs c6 M6 hv tv hs6 hp h6 hpd fr6 => ?_⟩
        have hap' : p ≠ a := fun z => by rw [z, k1] at hp; cases hp
        walk_at "dx"
        refine ⟨ns, a, c6, rfl, h6, hs6, fun pg ggs c7 M7 hg0 hg1 tg hs7 hpg h7 hgd fr7 => ?_⟩
        have t7 := fr7 p0 _ hap.symm (fr6 p0 _ hap.symm k3)
        have hpd7 := fr7 p _ hap' hpd
        have k7 := (k4.fr fr6).fr fr7
        have vN : Vw M7 (.val (.ref p)) (.dic (nmK 97 vs)) := .cellD hpd7 rfl (vws_refl (nmK_noL _ _))
        have vG : Vw M7 (.val (.ref pg)) (.lst .arg (ggs.map .int)) := .cell hgd (vws_refl (ints_noL' _))
        have hbt := back_told (nm := nmOf vs) (gv := gvOf ggs) hs
        have hsl := run_said_len (nm := nmOf vs) (gv := gvOf ggs) s 0
        have hrk := run_asked (nm := nmOf vs) (gv := gvOf ggs) s 0
        rw [Nat.zero_add] at hrk
        have hask : s.asks ≤ s.sz := asks_le s
        have hgz := gs.sz
        have hna : nAsk l5 = s.asks := by
          have h1 : (runR (nmOf vs) (gvOf ggs) l5).2.2 = nAsk l5 := by
            show (srun (nmOf vs) (gvOf ggs) l5 (fun _ => none, [], 0)).2.2 = nAsk l5
            rw [srun_asked]
            exact Nat.zero_add _
          rw [← h1, hbt, hrk]
        walk_at "dx"
        refine ⟨_, _, rfl, ?_⟩
        walk_at "dx"
        refine d2_notN (.inr (.inr (.inr (.inl ⟨_, enc_eq s⟩)))) ?_
        refine ⟨_, rfl, ite_t rfl ?_⟩
        walk_at "dx"
        refine ⟨_, .cons k7.vw (.cons vN (.cons vG .nil)), l5.map encS, _, ggs, rfl, encs_noL l5, nmK_noL _ _, .inr ⟨l5, rfl, hne5, by omega, hok5, .inr ⟨vs, rfl, hv, tv, tg, .inr ⟨by omega, ?_⟩⟩⟩⟩
        rw [hbt]
        walk_at "dx"
        refine ⟨_, .cons (vw_refl (enc_noL s)) (.cons vN (.cons vG .nil)), s, _, ggs, rfl, gs, nmK_noL _ _, .inr ⟨vs, rfl, hv, tv, tg, .inr ⟨by omega, ?_⟩⟩⟩
        walk_at "dx"
        refine ⟨_, .cons (toldV_vw _) (.cons (toldV_vw _) .nil), _, rfl, sd_mono 3 15 _ (by decide) (toldV_sd (by omega)), ?_⟩
        walk_at "dx"
        exact fin _ c7 _ _ _ _ _ _ h7 hs7 t7
      · walk_at "dx"
        refine ⟨_, .cons k4.vw .nil, l5, rfl, hne5, k6, by decide, hok5, fun s' hs' => absurd ⟨s', (db s').mp hs'⟩ hn, fun _ => ?_⟩
        walk_at "dx"
        refine ⟨_, vws_refl rfl, .str "NoSum", rfl, by simp [sdD], ?_⟩
        walk_at "dx"
        refine ⟨ns, a, c5, rfl, k1, k2, fun p vs c6 M6 hv tv hs6 hp h6 hpd fr6 => ?_⟩
        walk_at "dx"
        refine ⟨ns, a, c6, rfl, h6, hs6, fun pg ggs c7 M7 hg0 hg1 tg hs7 hpg h7 hgd fr7 => ?_⟩
        have t7 := fr7 p0 _ hap.symm (fr6 p0 _ hap.symm k3)
        walk_at "dx"
        refine ⟨_, _, rfl, ?_⟩
        walk_at "dx"
        exact fin _ c7 _ _ _ _ _ _ h7 hs7 t7
  · rintro ε M1 ⟨c1, v2, v3, v4, v5, v6, v7, v8, v9, rfl, h1, hs1, t1⟩
    walk_at "dx"
    exact q _

end

theorem start_okT {K : PySem.W.Frag} {H : Hp} {a p0 : Addr} {ns : List Int} {E : XK} (hl : ns.length ≤ 63) (hT : H p0 = some (.tbl #[])) (hS : SqL K H a (ns.map V.int)) : spI K (pLaw p0) [.ref a] H (fun v _ => v = .bl true) E := by
  have gd : Good K H (updM DL.mt p0 (.tab lamQ)) H := by
    refine ⟨fun _ h => h, fun b c hc => ?_⟩
    by_cases e : b = p0
    · subst e
      rw [updM_same] at hc
      cases hc
      exact ⟨#[], hT, trivial, fun pos cv h => (by simp [codeAmong] at h)⟩
    · rw [updM_ne e] at hc
      cases hc
  have ne : ∀ u, H a = some u → u ≠ .tbl #[] → updM DL.mt p0 (.tab lamQ) a = none := fun u hu hne => by
    rw [updM_ne]
    · rfl
    · intro e
      rw [e, hT] at hu
      exact hne (Option.some.inj hu).symm
  refine ⟨H, [.lst .frz (ns.map .int)], updM DL.mt p0 (.tab lamQ), fun d _ => d = .bl true, X0, .cons (.lst (k := .frz) (vs := ns.map V.int) ?_ ?_) .nil, gd, ⟨ns, rfl, hl, updM_same, fun _ => rfl⟩, fun v d M' H' t g e h => ?_, fun _ _ _ _ _ _ x => x.elim⟩
  · rcases hS with (hS | ⟨o, hS⟩) | hS
    · exact .inl ⟨ne _ hS (fun z => by cases z), .inl hS⟩
    · exact .inl ⟨ne _ hS (fun z => by cases z), .inr ⟨o, hS⟩⟩
    · exact .inr hS
  · clear hS hl
    induction ns with
    | nil => exact .nil
    | cons n ns ih => exact .cons (.int _) ih
  · subst h
    exact tr_bl t
theorem all_mk {l : PySem.W.OpenLaw} {w : World} {K : PySem.W.Frag} {h : Heap} {mg : Str → Option Value} {fa : Addr} (X : K.In h) (G : h.Ns mainGlobals mg) (hfa : mg "law" = some (.ref fa))
    {cL p0 : Addr} {cdK : Value}
    {fL : Addr} {odL anL : Option Addr} {slL : Array (Option Value)} {ocL kVL dcL pmL ctL : Value}
    {fK : Addr} {odK anK : Option Addr} {slK : Array (Option Value)} {ocK kVK dcK pmK ctK : Value}
    {cd0 : Value}
    {f0 : Addr} {od0 an0 : Option Addr} {sl0 : Array (Option Value)} {oc0 kV0 dc0 pm0 ct0 : Value}
    {cd1 : Value}
    {f1 : Addr} {od1 an1 : Option Addr} {sl1 : Array (Option Value)} {oc1 kV1 dc1 pm1 ct1 : Value}
    {cd2 : Value}
    {f2 : Addr} {od2 an2 : Option Addr} {sl2 : Array (Option Value)} {oc2 kV2 dc2 pm2 ct2 : Value}
    {cd3 : Value}
    {f3 : Addr} {od3 an3 : Option Addr} {sl3 : Array (Option Value)} {oc3 kV3 dc3 pm3 ct3 : Value}
    {cd4 : Value}
    {f4 : Addr} {od4 an4 : Option Addr} {sl4 : Array (Option Value)} {oc4 kV4 dc4 pm4 ct4 : Value}
    {cd5 : Value}
    {f5 : Addr} {od5 an5 : Option Addr} {sl5 : Array (Option Value)} {oc5 kV5 dc5 pm5 ct5 : Value}
    {cd6 : Value}
    {f6 : Addr} {od6 an6 : Option Addr} {sl6 : Array (Option Value)} {oc6 kV6 dc6 pm6 ct6 : Value}
    {cd7 : Value}
    {f7 : Addr} {od7 an7 : Option Addr} {sl7 : Array (Option Value)} {oc7 kV7 dc7 pm7 ct7 : Value}
    {cd8 : Value}
    {f8 : Addr} {od8 an8 : Option Addr} {sl8 : Array (Option Value)} {oc8 kV8 dc8 pm8 ct8 : Value}
    {cd9 : Value}
    {f9 : Addr} {od9 an9 : Option Addr} {sl9 : Array (Option Value)} {oc9 kV9 dc9 pm9 ct9 : Value}
    {cd10 : Value}
    {f10 : Addr} {od10 an10 : Option Addr} {sl10 : Array (Option Value)} {oc10 kV10 dc10 pm10 ct10 : Value}
    {cd11 : Value}
    {f11 : Addr} {od11 an11 : Option Addr} {sl11 : Array (Option Value)} {oc11 kV11 dc11 pm11 ct11 : Value}
    {cd12 : Value}
    {f12 : Addr} {od12 an12 : Option Addr} {sl12 : Array (Option Value)} {oc12 kV12 dc12 pm12 ct12 : Value}
    {cd13 : Value}
    {f13 : Addr} {od13 an13 : Option Addr} {sl13 : Array (Option Value)} {oc13 kV13 dc13 pm13 ct13 : Value}
    {cd14 : Value}
    {f14 : Addr} {od14 an14 : Option Addr} {sl14 : Array (Option Value)} {oc14 kV14 dc14 pm14 ct14 : Value}
    {cd15 : Value}
    {f15 : Addr} {od15 an15 : Option Addr} {sl15 : Array (Option Value)} {oc15 kV15 dc15 pm15 ct15 : Value}
    {cd16 : Value}
    {f16 : Addr} {od16 an16 : Option Addr} {sl16 : Array (Option Value)} {oc16 kV16 dc16 pm16 ct16 : Value}
    {cd17 : Value}
    {f17 : Addr} {od17 an17 : Option Addr} {sl17 : Array (Option Value)} {oc17 kV17 dc17 pm17 ct17 : Value}
    {cd18 : Value}
    {f18 : Addr} {od18 an18 : Option Addr} {sl18 : Array (Option Value)} {oc18 kV18 dc18 pm18 ct18 : Value}
    {cd19 : Value}
    {f19 : Addr} {od19 an19 : Option Addr} {sl19 : Array (Option Value)} {oc19 kV19 dc19 pm19 ct19 : Value}
    {cd20 : Value}
    {f20 : Addr} {od20 an20 : Option Addr} {sl20 : Array (Option Value)} {oc20 kV20 dc20 pm20 ct20 : Value}
    {cd21 : Value}
    {f21 : Addr} {od21 an21 : Option Addr} {sl21 : Array (Option Value)} {oc21 kV21 dc21 pm21 ct21 : Value}
    {cd22 : Value}
    {f22 : Addr} {od22 an22 : Option Addr} {sl22 : Array (Option Value)} {oc22 kV22 dc22 pm22 ct22 : Value}
    {cd23 : Value}
    {f23 : Addr} {od23 an23 : Option Addr} {sl23 : Array (Option Value)} {oc23 kV23 dc23 pm23 ct23 : Value}
    {cd24 : Value}
    {f24 : Addr} {od24 an24 : Option Addr} {sl24 : Array (Option Value)} {oc24 kV24 dc24 pm24 ct24 : Value}
    {cd25 : Value}
    {f25 : Addr} {od25 an25 : Option Addr} {sl25 : Array (Option Value)} {oc25 kV25 dc25 pm25 ct25 : Value}
    {cd26 : Value}
    {f26 : Addr} {od26 an26 : Option Addr} {sl26 : Array (Option Value)} {oc26 kV26 dc26 pm26 ct26 : Value}
    {cd27 : Value}
    {f27 : Addr} {od27 an27 : Option Addr} {sl27 : Array (Option Value)} {oc27 kV27 dc27 pm27 ct27 : Value}
    {cd28 : Value}
    {f28 : Addr} {od28 an28 : Option Addr} {sl28 : Array (Option Value)} {oc28 kV28 dc28 pm28 ct28 : Value}
    {cd29 : Value}
    {f29 : Addr} {od29 an29 : Option Addr} {sl29 : Array (Option Value)} {oc29 kV29 dc29 pm29 ct29 : Value}
    {cd30 : Value}
    {f30 : Addr} {od30 an30 : Option Addr} {sl30 : Array (Option Value)} {oc30 kV30 dc30 pm30 ct30 : Value}
    {cd31 : Value}
    {f31 : Addr} {od31 an31 : Option Addr} {sl31 : Array (Option Value)} {oc31 kV31 dc31 pm31 ct31 : Value}
    {cd32 : Value}
    {f32 : Addr} {od32 an32 : Option Addr} {sl32 : Array (Option Value)} {oc32 kV32 dc32 pm32 ct32 : Value}
    {X_StepError : Addr}
    {X_BadSum : Addr}
    {X_BadSteps : Addr}
    {X_NoName : Addr}
    {X_NoMore : Addr}
    {X_NoSum : Addr}
    {X_BadText : Addr}
    {nm_BadSteps q_BadSteps : Str} {N_BadSteps : Addr} {bs_BadSteps bm_BadSteps : List Value} {sn_BadSteps : List Str} {sub_BadSteps : List Value} {ab_BadSteps : Bool} {col_BadSteps : Option Bool} {dd_BadSteps : Option Addr} {k0_BadSteps k1_BadSteps k2_BadSteps k3_BadSteps k5_BadSteps : Option Value} {f_BadSteps : Addr} {od_BadSteps an_BadSteps : Option Addr} {sl_BadSteps : Array (Option Value)} {oc_BadSteps kV_BadSteps dc_BadSteps pm_BadSteps cd_BadSteps ct_BadSteps : Value}
    {C_Teller : Addr}
    {f_Teller_init__ : Addr} {od_Teller_init__ an_Teller_init__ : Option Addr} {sl_Teller_init__ : Array (Option Value)} {oc_Teller_init__ kV_Teller_init__ dc_Teller_init__ pm_Teller_init__ cd_Teller_init__ ct_Teller_init__ : Value}
    {f_Teller_say : Addr} {od_Teller_say an_Teller_say : Option Addr} {sl_Teller_say : Array (Option Value)} {oc_Teller_say kV_Teller_say dc_Teller_say pm_Teller_say cd_Teller_say ct_Teller_say : Value}
    {f_Teller_ask : Addr} {od_Teller_ask an_Teller_ask : Option Addr} {sl_Teller_ask : Array (Option Value)} {oc_Teller_ask kV_Teller_ask dc_Teller_ask pm_Teller_ask cd_Teller_ask ct_Teller_ask : Value}
    {f_Teller_told : Addr} {od_Teller_told an_Teller_told : Option Addr} {sl_Teller_told : Array (Option Value)} {oc_Teller_told kV_Teller_told dc_Teller_told pm_Teller_told cd_Teller_told ct_Teller_told : Value}
    {t_WHEEL : Tok}
    {t_LETTERS : Tok}
    {aP : Addr} {odP : Option Addr} {slP : Array (Option Value)} {tP uP vP : Tok} {nP : Nat}
    {aS : Addr} {es : Array DictEntry} {n0 : Nat}
    {t_MOST_SUMS : Tok}
    {t_MOST_WITHIN : Tok}
    {t_MOST_STEPS : Tok}
    (hTab : h.get? p0 = some { cls := .none, data := .fields #[] })
    (aL : PySem.W.nsIn K mainGlobals "law" = some (some (.ref fL)))
    (lL : K.lookup fL = some ⟨ocL, odL, .func (PySem.W.fnOf "law" "law" (defArgs s_law) (defBody s_law) (defScope s_law) .none kVL dcL pmL anL (.ref cL) ctL), slL⟩)
    (cLc : PySem.W.codeIn K (.ref cL) "law" = true)
    (kL : PySem.W.keepIn K (.ref fL) = true)
    (hCode : PySem.W.codeHdIn K cL p0 = true)
    (hTabK : K.lookup p0 = none)
    (aK : PySem.W.nsIn K mainGlobals "_law_kind" = some (some (.ref fK)))
    (lK : K.lookup fK = some ⟨ocK, odK, .func (PySem.W.fnOf "_law_kind" "_law_kind" (defArgs s__law_kind) (defBody s__law_kind) (defScope s__law_kind) .none kVK dcK pmK anK cdK ctK), slK⟩)
    (cK : PySem.W.codeIn K cdK "_law_kind" = true)
    (kK : PySem.W.keepIn K (.ref fK) = true)
    (a0 : PySem.W.nsIn K mainGlobals "is_number" = some (some (.ref f0)))
    (l0 : K.lookup f0 = some ⟨oc0, od0, .func (PySem.W.fnOf "is_number" "is_number" (defArgs s_is_number) (defBody s_is_number) (defScope s_is_number) .none kV0 dc0 pm0 an0 cd0 ct0), sl0⟩)
    (c0 : PySem.W.codeIn K cd0 "is_number" = true)
    (k0 : PySem.W.keepIn K (.ref f0) = true)
    (a1 : PySem.W.nsIn K mainGlobals "is_letter" = some (some (.ref f1)))
    (l1 : K.lookup f1 = some ⟨oc1, od1, .func (PySem.W.fnOf "is_letter" "is_letter" (defArgs s_is_letter) (defBody s_is_letter) (defScope s_is_letter) .none kV1 dc1 pm1 an1 cd1 ct1), sl1⟩)
    (c1 : PySem.W.codeIn K cd1 "is_letter" = true)
    (k1 : PySem.W.keepIn K (.ref f1) = true)
    (a2 : PySem.W.nsIn K mainGlobals "is_whole" = some (some (.ref f2)))
    (l2 : K.lookup f2 = some ⟨oc2, od2, .func (PySem.W.fnOf "is_whole" "is_whole" (defArgs s_is_whole) (defBody s_is_whole) (defScope s_is_whole) .none kV2 dc2 pm2 an2 cd2 ct2), sl2⟩)
    (c2 : PySem.W.codeIn K cd2 "is_whole" = true)
    (k2 : PySem.W.keepIn K (.ref f2) = true)
    (a3 : PySem.W.nsIn K mainGlobals "within" = some (some (.ref f3)))
    (l3 : K.lookup f3 = some ⟨oc3, od3, .func (PySem.W.fnOf "within" "within" (defArgs s_within) (defBody s_within) (defScope s_within) .none kV3 dc3 pm3 an3 cd3 ct3), sl3⟩)
    (c3 : PySem.W.codeIn K cd3 "within" = true)
    (k3 : PySem.W.keepIn K (.ref f3) = true)
    (a4 : PySem.W.nsIn K mainGlobals "is_sum" = some (some (.ref f4)))
    (l4 : K.lookup f4 = some ⟨oc4, od4, .func (PySem.W.fnOf "is_sum" "is_sum" (defArgs s_is_sum) (defBody s_is_sum) (defScope s_is_sum) .none kV4 dc4 pm4 an4 cd4 ct4), sl4⟩)
    (c4 : PySem.W.codeIn K cd4 "is_sum" = true)
    (k4 : PySem.W.keepIn K (.ref f4) = true)
    (a5 : PySem.W.nsIn K mainGlobals "need_sum" = some (some (.ref f5)))
    (l5 : K.lookup f5 = some ⟨oc5, od5, .func (PySem.W.fnOf "need_sum" "need_sum" (defArgs s_need_sum) (defBody s_need_sum) (defScope s_need_sum) .none kV5 dc5 pm5 an5 cd5 ct5), sl5⟩)
    (c5 : PySem.W.codeIn K cd5 "need_sum" = true)
    (k5 : PySem.W.keepIn K (.ref f5) = true)
    (a6 : PySem.W.nsIn K mainGlobals "all_within" = some (some (.ref f6)))
    (l6 : K.lookup f6 = some ⟨oc6, od6, .func (PySem.W.fnOf "all_within" "all_within" (defArgs s_all_within) (defBody s_all_within) (defScope s_all_within) .none kV6 dc6 pm6 an6 cd6 ct6), sl6⟩)
    (c6 : PySem.W.codeIn K cd6 "all_within" = true)
    (k6 : PySem.W.keepIn K (.ref f6) = true)
    (a7 : PySem.W.nsIn K mainGlobals "joined" = some (some (.ref f7)))
    (l7 : K.lookup f7 = some ⟨oc7, od7, .func (PySem.W.fnOf "joined" "joined" (defArgs s_joined) (defBody s_joined) (defScope s_joined) .none kV7 dc7 pm7 an7 cd7 ct7), sl7⟩)
    (c7 : PySem.W.codeIn K cd7 "joined" = true)
    (k7 : PySem.W.keepIn K (.ref f7) = true)
    (a8 : PySem.W.nsIn K mainGlobals "need_given" = some (some (.ref f8)))
    (l8 : K.lookup f8 = some ⟨oc8, od8, .func (PySem.W.fnOf "need_given" "need_given" (defArgs s_need_given) (defBody s_need_given) (defScope s_need_given) .none kV8 dc8 pm8 an8 cd8 ct8), sl8⟩)
    (c8 : PySem.W.codeIn K cd8 "need_given" = true)
    (k8 : PySem.W.keepIn K (.ref f8) = true)
    (a9 : PySem.W.nsIn K mainGlobals "worth" = some (some (.ref f9)))
    (l9 : K.lookup f9 = some ⟨oc9, od9, .func (PySem.W.fnOf "worth" "worth" (defArgs s_worth) (defBody s_worth) (defScope s_worth) .none kV9 dc9 pm9 an9 cd9 ct9), sl9⟩)
    (c9 : PySem.W.codeIn K cd9 "worth" = true)
    (k9 : PySem.W.keepIn K (.ref f9) = true)
    (a10 : PySem.W.nsIn K mainGlobals "is_box" = some (some (.ref f10)))
    (l10 : K.lookup f10 = some ⟨oc10, od10, .func (PySem.W.fnOf "is_box" "is_box" (defArgs s_is_box) (defBody s_is_box) (defScope s_is_box) .none kV10 dc10 pm10 an10 cd10 ct10), sl10⟩)
    (c10 : PySem.W.codeIn K cd10 "is_box" = true)
    (k10 : PySem.W.keepIn K (.ref f10) = true)
    (a11 : PySem.W.nsIn K mainGlobals "is_step" = some (some (.ref f11)))
    (l11 : K.lookup f11 = some ⟨oc11, od11, .func (PySem.W.fnOf "is_step" "is_step" (defArgs s_is_step) (defBody s_is_step) (defScope s_is_step) .none kV11 dc11 pm11 an11 cd11 ct11), sl11⟩)
    (c11 : PySem.W.codeIn K cd11 "is_step" = true)
    (k11 : PySem.W.keepIn K (.ref f11) = true)
    (a12 : PySem.W.nsIn K mainGlobals "need_steps" = some (some (.ref f12)))
    (l12 : K.lookup f12 = some ⟨oc12, od12, .func (PySem.W.fnOf "need_steps" "need_steps" (defArgs s_need_steps) (defBody s_need_steps) (defScope s_need_steps) .none kV12 dc12 pm12 an12 cd12 ct12), sl12⟩)
    (c12 : PySem.W.codeIn K cd12 "need_steps" = true)
    (k12 : PySem.W.keepIn K (.ref f12) = true)
    (a13 : PySem.W.nsIn K mainGlobals "step_worth" = some (some (.ref f13)))
    (l13 : K.lookup f13 = some ⟨oc13, od13, .func (PySem.W.fnOf "step_worth" "step_worth" (defArgs s_step_worth) (defBody s_step_worth) (defScope s_step_worth) .none kV13 dc13 pm13 an13 cd13 ct13), sl13⟩)
    (c13 : PySem.W.codeIn K cd13 "step_worth" = true)
    (k13 : PySem.W.keepIn K (.ref f13) = true)
    (a14 : PySem.W.nsIn K mainGlobals "run" = some (some (.ref f14)))
    (l14 : K.lookup f14 = some ⟨oc14, od14, .func (PySem.W.fnOf "run" "run" (defArgs s_run) (defBody s_run) (defScope s_run) .none kV14 dc14 pm14 an14 cd14 ct14), sl14⟩)
    (c14 : PySem.W.codeIn K cd14 "run" = true)
    (k14 : PySem.W.keepIn K (.ref f14) = true)
    (a15 : PySem.W.nsIn K mainGlobals "taken" = some (some (.ref f15)))
    (l15 : K.lookup f15 = some ⟨oc15, od15, .func (PySem.W.fnOf "taken" "taken" (defArgs s_taken) (defBody s_taken) (defScope s_taken) .none kV15 dc15 pm15 an15 cd15 ct15), sl15⟩)
    (c15 : PySem.W.codeIn K cd15 "taken" = true)
    (k15 : PySem.W.keepIn K (.ref f15) = true)
    (a16 : PySem.W.nsIn K mainGlobals "one_back" = some (some (.ref f16)))
    (l16 : K.lookup f16 = some ⟨oc16, od16, .func (PySem.W.fnOf "one_back" "one_back" (defArgs s_one_back) (defBody s_one_back) (defScope s_one_back) .none kV16 dc16 pm16 an16 cd16 ct16), sl16⟩)
    (c16 : PySem.W.codeIn K cd16 "one_back" = true)
    (k16 : PySem.W.keepIn K (.ref f16) = true)
    (a17 : PySem.W.nsIn K mainGlobals "put_back" = some (some (.ref f17)))
    (l17 : K.lookup f17 = some ⟨oc17, od17, .func (PySem.W.fnOf "put_back" "put_back" (defArgs s_put_back) (defBody s_put_back) (defScope s_put_back) .none kV17 dc17 pm17 an17 cd17 ct17), sl17⟩)
    (c17 : PySem.W.codeIn K cd17 "put_back" = true)
    (k17 : PySem.W.keepIn K (.ref f17) = true)
    (a18 : PySem.W.nsIn K mainGlobals "_law_start" = some (some (.ref f18)))
    (l18 : K.lookup f18 = some ⟨oc18, od18, .func (PySem.W.fnOf "_law_start" "_law_start" (defArgs s__law_start) (defBody s__law_start) (defScope s__law_start) .none kV18 dc18 pm18 an18 cd18 ct18), sl18⟩)
    (c18 : PySem.W.codeIn K cd18 "_law_start" = true)
    (k18 : PySem.W.keepIn K (.ref f18) = true)
    (a19 : PySem.W.nsIn K mainGlobals "_law_drawn" = some (some (.ref f19)))
    (l19 : K.lookup f19 = some ⟨oc19, od19, .func (PySem.W.fnOf "_law_drawn" "_law_drawn" (defArgs s__law_drawn) (defBody s__law_drawn) (defScope s__law_drawn) .none kV19 dc19 pm19 an19 cd19 ct19), sl19⟩)
    (c19 : PySem.W.codeIn K cd19 "_law_drawn" = true)
    (k19 : PySem.W.keepIn K (.ref f19) = true)
    (a20 : PySem.W.nsIn K mainGlobals "_law_same" = some (some (.ref f20)))
    (l20 : K.lookup f20 = some ⟨oc20, od20, .func (PySem.W.fnOf "_law_same" "_law_same" (defArgs s__law_same) (defBody s__law_same) (defScope s__law_same) .none kV20 dc20 pm20 an20 cd20 ct20), sl20⟩)
    (c20 : PySem.W.codeIn K cd20 "_law_same" = true)
    (k20 : PySem.W.keepIn K (.ref f20) = true)
    (a21 : PySem.W.nsIn K mainGlobals "_law_sum" = some (some (.ref f21)))
    (l21 : K.lookup f21 = some ⟨oc21, od21, .func (PySem.W.fnOf "_law_sum" "_law_sum" (defArgs s__law_sum) (defBody s__law_sum) (defScope s__law_sum) .none kV21 dc21 pm21 an21 cd21 ct21), sl21⟩)
    (c21 : PySem.W.codeIn K cd21 "_law_sum" = true)
    (k21 : PySem.W.keepIn K (.ref f21) = true)
    (a22 : PySem.W.nsIn K mainGlobals "_law_any" = some (some (.ref f22)))
    (l22 : K.lookup f22 = some ⟨oc22, od22, .func (PySem.W.fnOf "_law_any" "_law_any" (defArgs s__law_any) (defBody s__law_any) (defScope s__law_any) .none kV22 dc22 pm22 an22 cd22 ct22), sl22⟩)
    (c22 : PySem.W.codeIn K cd22 "_law_any" = true)
    (k22 : PySem.W.keepIn K (.ref f22) = true)
    (a23 : PySem.W.nsIn K mainGlobals "_law_quiet" = some (some (.ref f23)))
    (l23 : K.lookup f23 = some ⟨oc23, od23, .func (PySem.W.fnOf "_law_quiet" "_law_quiet" (defArgs s__law_quiet) (defBody s__law_quiet) (defScope s__law_quiet) .none kV23 dc23 pm23 an23 cd23 ct23), sl23⟩)
    (c23 : PySem.W.codeIn K cd23 "_law_quiet" = true)
    (k23 : PySem.W.keepIn K (.ref f23) = true)
    (a24 : PySem.W.nsIn K mainGlobals "_law_parts" = some (some (.ref f24)))
    (l24 : K.lookup f24 = some ⟨oc24, od24, .func (PySem.W.fnOf "_law_parts" "_law_parts" (defArgs s__law_parts) (defBody s__law_parts) (defScope s__law_parts) .none kV24 dc24 pm24 an24 cd24 ct24), sl24⟩)
    (c24 : PySem.W.codeIn K cd24 "_law_parts" = true)
    (k24 : PySem.W.keepIn K (.ref f24) = true)
    (a25 : PySem.W.nsIn K mainGlobals "_law_all" = some (some (.ref f25)))
    (l25 : K.lookup f25 = some ⟨oc25, od25, .func (PySem.W.fnOf "_law_all" "_law_all" (defArgs s__law_all) (defBody s__law_all) (defScope s__law_all) .none kV25 dc25 pm25 an25 cd25 ct25), sl25⟩)
    (c25 : PySem.W.codeIn K cd25 "_law_all" = true)
    (k25 : PySem.W.keepIn K (.ref f25) = true)
    (a26 : PySem.W.nsIn K mainGlobals "_law_names" = some (some (.ref f26)))
    (l26 : K.lookup f26 = some ⟨oc26, od26, .func (PySem.W.fnOf "_law_names" "_law_names" (defArgs s__law_names) (defBody s__law_names) (defScope s__law_names) .none kV26 dc26 pm26 an26 cd26 ct26), sl26⟩)
    (c26 : PySem.W.codeIn K cd26 "_law_names" = true)
    (k26 : PySem.W.keepIn K (.ref f26) = true)
    (a27 : PySem.W.nsIn K mainGlobals "_law_given" = some (some (.ref f27)))
    (l27 : K.lookup f27 = some ⟨oc27, od27, .func (PySem.W.fnOf "_law_given" "_law_given" (defArgs s__law_given) (defBody s__law_given) (defScope s__law_given) .none kV27 dc27 pm27 an27 cd27 ct27), sl27⟩)
    (c27 : PySem.W.codeIn K cd27 "_law_given" = true)
    (k27 : PySem.W.keepIn K (.ref f27) = true)
    (a28 : PySem.W.nsIn K mainGlobals "_law_steps" = some (some (.ref f28)))
    (l28 : K.lookup f28 = some ⟨oc28, od28, .func (PySem.W.fnOf "_law_steps" "_law_steps" (defArgs s__law_steps) (defBody s__law_steps) (defScope s__law_steps) .none kV28 dc28 pm28 an28 cd28 ct28), sl28⟩)
    (c28 : PySem.W.codeIn K cd28 "_law_steps" = true)
    (k28 : PySem.W.keepIn K (.ref f28) = true)
    (a29 : PySem.W.nsIn K mainGlobals "_law_cut" = some (some (.ref f29)))
    (l29 : K.lookup f29 = some ⟨oc29, od29, .func (PySem.W.fnOf "_law_cut" "_law_cut" (defArgs s__law_cut) (defBody s__law_cut) (defScope s__law_cut) .none kV29 dc29 pm29 an29 cd29 ct29), sl29⟩)
    (c29 : PySem.W.codeIn K cd29 "_law_cut" = true)
    (k29 : PySem.W.keepIn K (.ref f29) = true)
    (a30 : PySem.W.nsIn K mainGlobals "_law_turned" = some (some (.ref f30)))
    (l30 : K.lookup f30 = some ⟨oc30, od30, .func (PySem.W.fnOf "_law_turned" "_law_turned" (defArgs s__law_turned) (defBody s__law_turned) (defScope s__law_turned) .none kV30 dc30 pm30 an30 cd30 ct30), sl30⟩)
    (c30 : PySem.W.codeIn K cd30 "_law_turned" = true)
    (k30 : PySem.W.keepIn K (.ref f30) = true)
    (a31 : PySem.W.nsIn K mainGlobals "_law_due" = some (some (.ref f31)))
    (l31 : K.lookup f31 = some ⟨oc31, od31, .func (PySem.W.fnOf "_law_due" "_law_due" (defArgs s__law_due) (defBody s__law_due) (defScope s__law_due) .none kV31 dc31 pm31 an31 cd31 ct31), sl31⟩)
    (c31 : PySem.W.codeIn K cd31 "_law_due" = true)
    (k31 : PySem.W.keepIn K (.ref f31) = true)
    (a32 : PySem.W.nsIn K mainGlobals "_law_deep" = some (some (.ref f32)))
    (l32 : K.lookup f32 = some ⟨oc32, od32, .func (PySem.W.fnOf "_law_deep" "_law_deep" (defArgs s__law_deep) (defBody s__law_deep) (defScope s__law_deep) .none kV32 dc32 pm32 an32 cd32 ct32), sl32⟩)
    (c32 : PySem.W.codeIn K cd32 "_law_deep" = true)
    (k32 : PySem.W.keepIn K (.ref f32) = true)
    (g_StepError : PySem.W.nsIn K mainGlobals "StepError" = some (some (.ref X_StepError)))
    (g_BadSum : PySem.W.nsIn K mainGlobals "BadSum" = some (some (.ref X_BadSum)))
    (g_BadSteps : PySem.W.nsIn K mainGlobals "BadSteps" = some (some (.ref X_BadSteps)))
    (g_NoName : PySem.W.nsIn K mainGlobals "NoName" = some (some (.ref X_NoName)))
    (g_NoMore : PySem.W.nsIn K mainGlobals "NoMore" = some (some (.ref X_NoMore)))
    (g_NoSum : PySem.W.nsIn K mainGlobals "NoSum" = some (some (.ref X_NoSum)))
    (g_BadText : PySem.W.nsIn K mainGlobals "BadText" = some (some (.ref X_BadText)))
    (z_VE : PySem.W.nsIn K mainGlobals "ValueError" = some none)
    (ex_NoName : PySem.W.excIn K X_NoName [.type "ValueError", .type "Exception", .type "BaseException", .type "object"] "ValueError.__new__" = true)
    (kp_NoName : PySem.W.keepIn K (.ref X_NoName) = true)
    (sb_NoName : PySem.W.subIn K (.ref X_NoName) (.type "BaseException") = some true)
    (ty_NoName : PySem.W.typeIn K (.ref X_NoName) = some (.type "type"))
    (eg_NoName : PySem.W.findIn K (.ref X_NoName) "__getattribute__" = some (some (.builtin "BaseException.__getattribute__")))
    (ek_NoName : PySem.W.findIn K (.ref X_NoName) "__getattr__" = some none)
    (ed_NoName : PySem.W.hasDictIn K X_NoName = true)
    (ea_NoName : PySem.W.findIn K (.ref X_NoName) "__class__" = some (some (.builtin "object.__class__")))
    (en_NoName : PySem.W.specialIn K (.builtin "object.__class__") "__get__" = some (some (.builtin "getset_descriptor.__get__")))
    (et_NoName : PySem.W.takesIn K (.builtin "object.__class__") = some true)
    (em_NoName : PySem.W.mroIn K X_NoName (.type "object") = some true)
    (xo_NoName : PySem.W.exmOne K (.ref X_NoName) (.ref X_StepError) = some true)
    (ki0_NoName : PySem.W.kitOne K (.ref X_NoName) (.ref X_BadSum) = some false)
    (ki1_NoName : PySem.W.kitOne K (.ref X_NoName) (.ref X_BadSteps) = some false)
    (ki2_NoName : PySem.W.kitOne K (.ref X_NoName) (.ref X_NoName) = some true)
    (ki3_NoName : PySem.W.kitOne K (.ref X_NoName) (.ref X_NoMore) = some false)
    (ki4_NoName : PySem.W.kitOne K (.ref X_NoName) (.ref X_NoSum) = some false)
    (ki5_NoName : PySem.W.kitOne K (.ref X_NoName) (.ref X_BadText) = some false)
    (kv_NoName : PySem.W.kitOne K (.ref X_NoName) (.type "ValueError") = some true)
    (ex_NoMore : PySem.W.excIn K X_NoMore [.type "ValueError", .type "Exception", .type "BaseException", .type "object"] "ValueError.__new__" = true)
    (kp_NoMore : PySem.W.keepIn K (.ref X_NoMore) = true)
    (sb_NoMore : PySem.W.subIn K (.ref X_NoMore) (.type "BaseException") = some true)
    (ty_NoMore : PySem.W.typeIn K (.ref X_NoMore) = some (.type "type"))
    (eg_NoMore : PySem.W.findIn K (.ref X_NoMore) "__getattribute__" = some (some (.builtin "BaseException.__getattribute__")))
    (ek_NoMore : PySem.W.findIn K (.ref X_NoMore) "__getattr__" = some none)
    (ed_NoMore : PySem.W.hasDictIn K X_NoMore = true)
    (ea_NoMore : PySem.W.findIn K (.ref X_NoMore) "__class__" = some (some (.builtin "object.__class__")))
    (en_NoMore : PySem.W.specialIn K (.builtin "object.__class__") "__get__" = some (some (.builtin "getset_descriptor.__get__")))
    (et_NoMore : PySem.W.takesIn K (.builtin "object.__class__") = some true)
    (em_NoMore : PySem.W.mroIn K X_NoMore (.type "object") = some true)
    (xo_NoMore : PySem.W.exmOne K (.ref X_NoMore) (.ref X_StepError) = some true)
    (ki0_NoMore : PySem.W.kitOne K (.ref X_NoMore) (.ref X_BadSum) = some false)
    (ki1_NoMore : PySem.W.kitOne K (.ref X_NoMore) (.ref X_BadSteps) = some false)
    (ki2_NoMore : PySem.W.kitOne K (.ref X_NoMore) (.ref X_NoName) = some false)
    (ki3_NoMore : PySem.W.kitOne K (.ref X_NoMore) (.ref X_NoMore) = some true)
    (ki4_NoMore : PySem.W.kitOne K (.ref X_NoMore) (.ref X_NoSum) = some false)
    (ki5_NoMore : PySem.W.kitOne K (.ref X_NoMore) (.ref X_BadText) = some false)
    (kv_NoMore : PySem.W.kitOne K (.ref X_NoMore) (.type "ValueError") = some true)
    (ex_NoSum : PySem.W.excIn K X_NoSum [.type "ValueError", .type "Exception", .type "BaseException", .type "object"] "ValueError.__new__" = true)
    (kp_NoSum : PySem.W.keepIn K (.ref X_NoSum) = true)
    (sb_NoSum : PySem.W.subIn K (.ref X_NoSum) (.type "BaseException") = some true)
    (ty_NoSum : PySem.W.typeIn K (.ref X_NoSum) = some (.type "type"))
    (eg_NoSum : PySem.W.findIn K (.ref X_NoSum) "__getattribute__" = some (some (.builtin "BaseException.__getattribute__")))
    (ek_NoSum : PySem.W.findIn K (.ref X_NoSum) "__getattr__" = some none)
    (ed_NoSum : PySem.W.hasDictIn K X_NoSum = true)
    (ea_NoSum : PySem.W.findIn K (.ref X_NoSum) "__class__" = some (some (.builtin "object.__class__")))
    (en_NoSum : PySem.W.specialIn K (.builtin "object.__class__") "__get__" = some (some (.builtin "getset_descriptor.__get__")))
    (et_NoSum : PySem.W.takesIn K (.builtin "object.__class__") = some true)
    (em_NoSum : PySem.W.mroIn K X_NoSum (.type "object") = some true)
    (xo_NoSum : PySem.W.exmOne K (.ref X_NoSum) (.ref X_StepError) = some true)
    (ki0_NoSum : PySem.W.kitOne K (.ref X_NoSum) (.ref X_BadSum) = some false)
    (ki1_NoSum : PySem.W.kitOne K (.ref X_NoSum) (.ref X_BadSteps) = some false)
    (ki2_NoSum : PySem.W.kitOne K (.ref X_NoSum) (.ref X_NoName) = some false)
    (ki3_NoSum : PySem.W.kitOne K (.ref X_NoSum) (.ref X_NoMore) = some false)
    (ki4_NoSum : PySem.W.kitOne K (.ref X_NoSum) (.ref X_NoSum) = some true)
    (ki5_NoSum : PySem.W.kitOne K (.ref X_NoSum) (.ref X_BadText) = some false)
    (kv_NoSum : PySem.W.kitOne K (.ref X_NoSum) (.type "ValueError") = some true)
    (kp_BadSteps : PySem.W.keepIn K (.ref X_BadSteps) = true)
    (sb_BadSteps : PySem.W.subIn K (.ref X_BadSteps) (.type "BaseException") = some true)
    (ty_BadSteps : PySem.W.typeIn K (.ref X_BadSteps) = some (.type "type"))
    (eg_BadSteps : PySem.W.findIn K (.ref X_BadSteps) "__getattribute__" = some (some (.builtin "BaseException.__getattribute__")))
    (ek_BadSteps : PySem.W.findIn K (.ref X_BadSteps) "__getattr__" = some none)
    (ed_BadSteps : PySem.W.hasDictIn K X_BadSteps = true)
    (ea_BadSteps : PySem.W.findIn K (.ref X_BadSteps) "__class__" = some (some (.builtin "object.__class__")))
    (en_BadSteps : PySem.W.specialIn K (.builtin "object.__class__") "__get__" = some (some (.builtin "getset_descriptor.__get__")))
    (et_BadSteps : PySem.W.takesIn K (.builtin "object.__class__") = some true)
    (em_BadSteps : PySem.W.mroIn K X_BadSteps (.type "object") = some true)
    (xo_BadSteps : PySem.W.exmOne K (.ref X_BadSteps) (.ref X_StepError) = some true)
    (ki0_BadSteps : PySem.W.kitOne K (.ref X_BadSteps) (.ref X_BadSum) = some false)
    (ki1_BadSteps : PySem.W.kitOne K (.ref X_BadSteps) (.ref X_BadSteps) = some true)
    (ki2_BadSteps : PySem.W.kitOne K (.ref X_BadSteps) (.ref X_NoName) = some false)
    (ki3_BadSteps : PySem.W.kitOne K (.ref X_BadSteps) (.ref X_NoMore) = some false)
    (ki4_BadSteps : PySem.W.kitOne K (.ref X_BadSteps) (.ref X_NoSum) = some false)
    (ki5_BadSteps : PySem.W.kitOne K (.ref X_BadSteps) (.ref X_BadText) = some false)
    (kv_BadSteps : PySem.W.kitOne K (.ref X_BadSteps) (.type "ValueError") = some true)
    (cx_BadSteps : K.lookup X_BadSteps = some (excClassObj nm_BadSteps q_BadSteps X_BadSteps N_BadSteps bs_BadSteps bm_BadSteps true sn_BadSteps sub_BadSteps ab_BadSteps col_BadSteps dd_BadSteps k0_BadSteps k1_BadSteps k2_BadSteps k3_BadSteps k5_BadSteps "ValueError.__new__"))
    (rv_BadSteps : PySem.HandSPX.refsVE bm_BadSteps = true)
    (sa_BadSteps : PySem.W.findIn K (.ref X_BadSteps) "__setattr__" = some (some (.builtin "object.__setattr__")))
    (n1_BadSteps : PySem.W.findIn K (.ref X_BadSteps) "number" = some none)
    (n2_BadSteps : PySem.W.findIn K (.ref X_BadSteps) "place" = some none)
    (ii_BadSteps : PySem.W.findIn K (.ref X_BadSteps) "__init__" = some (some (.ref f_BadSteps)))
    (ti_BadSteps : PySem.W.typeIn K (.ref f_BadSteps) = some (.type "function"))
    (li_BadSteps : K.lookup f_BadSteps = some ⟨oc_BadSteps, od_BadSteps, .func (PySem.W.fnOf "__init__" "BadSteps.__init__" (defArgs s_BadSteps_init__) (defBody s_BadSteps_init__) (defScope s_BadSteps_init__) .none kV_BadSteps dc_BadSteps pm_BadSteps an_BadSteps cd_BadSteps ct_BadSteps), sl_BadSteps⟩)
    (ci_BadSteps : PySem.W.codeIn K cd_BadSteps "BadSteps.__init__" = true)
    (kf_BadSteps : PySem.W.keepIn K (.ref f_BadSteps) = true)
    (rd_SE : PySem.W.readsIn K X_StepError (.type "type") = true)
    (ga_SE : PySem.W.specialIn K (.ref X_StepError) "__getattribute__" = some (some (.builtin "type.__getattribute__")))
    (at_SE : PySem.W.findCls K (.ref X_StepError) (.type "type") "__init__" = some (.val (.builtin "ValueError.__init__")))
    (aC_Teller : PySem.W.nsIn K mainGlobals "Teller" = some (some (.ref C_Teller)))
    (pg_Teller : PySem.W.plainGet K C_Teller Str.empty = true)
    (hd_Teller : PySem.W.hasDictIn K C_Teller = true)
    (po_Teller : PySem.W.plainOver K C_Teller = true)
    (sa_Teller : PySem.W.findIn K (.ref C_Teller) "__setattr__" = some (some (.builtin "object.__setattr__")))
    (mk_Teller : PySem.W.makesIn K C_Teller = true)
    (kc_Teller : PySem.W.keepIn K (.ref C_Teller) = true)
    (n_Teller_names : PySem.W.findIn K (.ref C_Teller) "names" = some none)
    (n_Teller_given : PySem.W.findIn K (.ref C_Teller) "given" = some none)
    (n_Teller_said : PySem.W.findIn K (.ref C_Teller) "said" = some none)
    (n_Teller_asked : PySem.W.findIn K (.ref C_Teller) "asked" = some none)
    (a_Teller_init__ : PySem.W.findIn K (.ref C_Teller) "__init__" = some (some (.ref f_Teller_init__)))
    (i_Teller_init__ : PySem.W.isFn K (.ref f_Teller_init__) = true)
    (l_Teller_init__ : K.lookup f_Teller_init__ = some ⟨oc_Teller_init__, od_Teller_init__, .func (PySem.W.fnOf "__init__" "Teller.__init__" (defArgs s_Teller_init__) (defBody s_Teller_init__) (defScope s_Teller_init__) .none kV_Teller_init__ dc_Teller_init__ pm_Teller_init__ an_Teller_init__ cd_Teller_init__ ct_Teller_init__), sl_Teller_init__⟩)
    (c_Teller_init__ : PySem.W.codeIn K cd_Teller_init__ "Teller.__init__" = true)
    (k_Teller_init__ : PySem.W.keepIn K (.ref f_Teller_init__) = true)
    (a_Teller_say : PySem.W.findIn K (.ref C_Teller) "say" = some (some (.ref f_Teller_say)))
    (i_Teller_say : PySem.W.isFn K (.ref f_Teller_say) = true)
    (l_Teller_say : K.lookup f_Teller_say = some ⟨oc_Teller_say, od_Teller_say, .func (PySem.W.fnOf "say" "Teller.say" (defArgs s_Teller_say) (defBody s_Teller_say) (defScope s_Teller_say) .none kV_Teller_say dc_Teller_say pm_Teller_say an_Teller_say cd_Teller_say ct_Teller_say), sl_Teller_say⟩)
    (c_Teller_say : PySem.W.codeIn K cd_Teller_say "Teller.say" = true)
    (k_Teller_say : PySem.W.keepIn K (.ref f_Teller_say) = true)
    (a_Teller_ask : PySem.W.findIn K (.ref C_Teller) "ask" = some (some (.ref f_Teller_ask)))
    (i_Teller_ask : PySem.W.isFn K (.ref f_Teller_ask) = true)
    (l_Teller_ask : K.lookup f_Teller_ask = some ⟨oc_Teller_ask, od_Teller_ask, .func (PySem.W.fnOf "ask" "Teller.ask" (defArgs s_Teller_ask) (defBody s_Teller_ask) (defScope s_Teller_ask) .none kV_Teller_ask dc_Teller_ask pm_Teller_ask an_Teller_ask cd_Teller_ask ct_Teller_ask), sl_Teller_ask⟩)
    (c_Teller_ask : PySem.W.codeIn K cd_Teller_ask "Teller.ask" = true)
    (k_Teller_ask : PySem.W.keepIn K (.ref f_Teller_ask) = true)
    (a_Teller_told : PySem.W.findIn K (.ref C_Teller) "told" = some (some (.ref f_Teller_told)))
    (i_Teller_told : PySem.W.isFn K (.ref f_Teller_told) = true)
    (l_Teller_told : K.lookup f_Teller_told = some ⟨oc_Teller_told, od_Teller_told, .func (PySem.W.fnOf "told" "Teller.told" (defArgs s_Teller_told) (defBody s_Teller_told) (defScope s_Teller_told) .none kV_Teller_told dc_Teller_told pm_Teller_told an_Teller_told cd_Teller_told ct_Teller_told), sl_Teller_told⟩)
    (c_Teller_told : PySem.W.codeIn K cd_Teller_told "Teller.told" = true)
    (k_Teller_told : PySem.W.keepIn K (.ref f_Teller_told) = true)
    (g_WHEEL : PySem.W.nsIn K mainGlobals "WHEEL" = some (some (.int 1000 t_WHEEL)))
    (g_LETTERS : PySem.W.nsIn K mainGlobals "LETTERS" = some (some (.str "abcdef" t_LETTERS)))
    (g_PAIRS : PySem.W.nsIn K mainGlobals "PAIRS" = some (some (.ref aP)))
    (l_PAIRS : K.lookup aP = some ⟨.type "tuple", odP, .seq #[.str "add" tP, .str "less" uP, .str "times" vP] nP, slP⟩)
    (g_SIZES : PySem.W.nsIn K mainGlobals "SIZES" = some (some (.ref aS)))
    (l_SIZES : K.lookup aS = some ⟨.type "dict", none, .dict es n0, #[]⟩)
    (g_MOST_SUMS : PySem.W.nsIn K mainGlobals "MOST_SUMS" = some (some (.int 60 t_MOST_SUMS)))
    (g_MOST_WITHIN : PySem.W.nsIn K mainGlobals "MOST_WITHIN" = some (some (.int 15 t_MOST_WITHIN)))
    (g_MOST_STEPS : PySem.W.nsIn K mainGlobals "MOST_STEPS" = some (some (.int 200 t_MOST_STEPS)))
    (z0 : PySem.W.nsIn K mainGlobals "len" = some none)
    (z1 : PySem.W.nsIn K mainGlobals "isinstance" = some none)
    (z2 : PySem.W.nsIn K mainGlobals "list" = some none)
    (z3 : PySem.W.nsIn K mainGlobals "tuple" = some none)
    (z4 : PySem.W.nsIn K mainGlobals "str" = some none)
    (z5 : PySem.W.nsIn K mainGlobals "int" = some none)
    (z6 : PySem.W.nsIn K mainGlobals "bool" = some none)
    (z7 : PySem.W.nsIn K mainGlobals "range" = some none)
    (z8 : PySem.W.nsIn K mainGlobals "max" = some none)
    (z9 : PySem.W.nsIn K mainGlobals "min" = some none)
    (z10 : PySem.W.nsIn K mainGlobals "sorted" = some none)
    (z11 : PySem.W.nsIn K mainGlobals "set" = some none)
    (z12 : PySem.W.nsIn K mainGlobals "enumerate" = some none)
    (z13 : PySem.W.nsIn K mainGlobals "reversed" = some none)
    (z14 : PySem.W.nsIn K mainGlobals "dict" = some none)
    (q_SIZES : PySem.W.KeysLit w.params es.toList)
    (s_SIZES : (aS == sysModules) = false)
    (v_SIZES : ∀ x, KF es x (sizeOf' x)) :
    LamX.LawAtS l w K (L2.CX l.prog w) 80 63 "_law_script" mg fa h := by
  have e := hfa.symm.trans (PySem.W.mg_of X G aL)
  cases e
  have T : Tx w K mg aP aS es n0 := {
    b_len := PySem.W.mg_none_of X G z0
    b_isinstance := PySem.W.mg_none_of X G z1
    b_list := PySem.W.mg_none_of X G z2
    b_tuple := PySem.W.mg_none_of X G z3
    b_str := PySem.W.mg_none_of X G z4
    b_int := PySem.W.mg_none_of X G z5
    b_bool := PySem.W.mg_none_of X G z6
    b_range := PySem.W.mg_none_of X G z7
    b_max := PySem.W.mg_none_of X G z8
    b_min := PySem.W.mg_none_of X G z9
    b_sorted := PySem.W.mg_none_of X G z10
    b_set := PySem.W.mg_none_of X G z11
    b_enumerate := PySem.W.mg_none_of X G z12
    b_reversed := PySem.W.mg_none_of X G z13
    b_dict := PySem.W.mg_none_of X G z14
    g_WHEEL := ⟨_, PySem.W.mg_of X G g_WHEEL⟩
    g_LETTERS := ⟨_, PySem.W.mg_of X G g_LETTERS⟩
    g_PAIRS := PySem.W.mg_of X G g_PAIRS
    k_PAIRS := ktup3 l_PAIRS
    g_SIZES := PySem.W.mg_of X G g_SIZES
    d_SIZES := ⟨l_SIZES, q_SIZES, s_SIZES⟩
    f_SIZES := v_SIZES
    g_MOST_SUMS := ⟨_, PySem.W.mg_of X G g_MOST_SUMS⟩
    g_MOST_WITHIN := ⟨_, PySem.W.mg_of X G g_MOST_WITHIN⟩
    g_MOST_STEPS := ⟨_, PySem.W.mg_of X G g_MOST_STEPS⟩
  }
  have F0 := fun_mk (st := s_is_number) l0 c0 k0
  have d_is_number : Dn K mg "is_number" s_is_number ["number"] := ⟨_, _, F0, PySem.W.mg_of X G a0, F0.binds fun _ _ _ _ _ _ us hl => match us, hl with | [_], _ => rfl⟩
  have F1 := fun_mk (st := s_is_letter) l1 c1 k1
  have d_is_letter : Dn K mg "is_letter" s_is_letter ["word"] := ⟨_, _, F1, PySem.W.mg_of X G a1, F1.binds fun _ _ _ _ _ _ us hl => match us, hl with | [_], _ => rfl⟩
  have F2 := fun_mk (st := s_is_whole) l2 c2 k2
  have d_is_whole : Dn K mg "is_whole" s_is_whole ["part"] := ⟨_, _, F2, PySem.W.mg_of X G a2, F2.binds fun _ _ _ _ _ _ us hl => match us, hl with | [_], _ => rfl⟩
  have F3 := fun_mk (st := s_within) l3 c3 k3
  have d_within : Dn K mg "within" s_within ["part"] := ⟨_, _, F3, PySem.W.mg_of X G a3, F3.binds fun _ _ _ _ _ _ us hl => match us, hl with | [_], _ => rfl⟩
  have F4 := fun_mk (st := s_is_sum) l4 c4 k4
  have d_is_sum : Dn K mg "is_sum" s_is_sum ["part"] := ⟨_, _, F4, PySem.W.mg_of X G a4, F4.binds fun _ _ _ _ _ _ us hl => match us, hl with | [_], _ => rfl⟩
  have F5 := fun_mk (st := s_need_sum) l5 c5 k5
  have d_need_sum : Dn K mg "need_sum" s_need_sum ["part"] := ⟨_, _, F5, PySem.W.mg_of X G a5, F5.binds fun _ _ _ _ _ _ us hl => match us, hl with | [_], _ => rfl⟩
  have F6 := fun_mk (st := s_all_within) l6 c6 k6
  have d_all_within : Dn K mg "all_within" s_all_within ["part"] := ⟨_, _, F6, PySem.W.mg_of X G a6, F6.binds fun _ _ _ _ _ _ us hl => match us, hl with | [_], _ => rfl⟩
  have F7 := fun_mk (st := s_joined) l7 c7 k7
  have d_joined : Dn K mg "joined" s_joined ["word", "one", "other"] := ⟨_, _, F7, PySem.W.mg_of X G a7, F7.binds fun _ _ _ _ _ _ us hl => match us, hl with | [_, _, _], _ => rfl⟩
  have F8 := fun_mk (st := s_need_given) l8 c8 k8
  have d_need_given : Dn K mg "need_given" s_need_given ["letters", "asks", "names", "given"] := ⟨_, _, F8, PySem.W.mg_of X G a8, F8.binds fun _ _ _ _ _ _ us hl => match us, hl with | [_, _, _, _], _ => rfl⟩
  have F9 := fun_mk (st := s_worth) l9 c9 k9
  have d_worth : Dn K mg "worth" s_worth ["part", "names", "given"] := ⟨_, _, F9, PySem.W.mg_of X G a9, F9.binds fun _ _ _ _ _ _ us hl => match us, hl with | [_, _, _], _ => rfl⟩
  have F10 := fun_mk (st := s_is_box) l10 c10 k10
  have d_is_box : Dn K mg "is_box" s_is_box ["box"] := ⟨_, _, F10, PySem.W.mg_of X G a10, F10.binds fun _ _ _ _ _ _ us hl => match us, hl with | [_], _ => rfl⟩
  have F11 := fun_mk (st := s_is_step) l11 c11 k11
  have d_is_step : Dn K mg "is_step" s_is_step ["step", "put"] := ⟨_, _, F11, PySem.W.mg_of X G a11, F11.binds fun _ _ _ _ _ _ us hl => match us, hl with | [_, _], _ => rfl⟩
  have F12 := fun_mk (st := s_need_steps) l12 c12 k12
  have d_need_steps : Dn K mg "need_steps" s_need_steps ["steps"] := ⟨_, _, F12, PySem.W.mg_of X G a12, F12.binds fun _ _ _ _ _ _ us hl => match us, hl with | [_], _ => rfl⟩
  have F13 := fun_mk (st := s_step_worth) l13 c13 k13
  have d_step_worth : Dn K mg "step_worth" s_step_worth ["teller", "held", "step"] := ⟨_, _, F13, PySem.W.mg_of X G a13, F13.binds fun _ _ _ _ _ _ us hl => match us, hl with | [_, _, _], _ => rfl⟩
  have F14 := fun_mk (st := s_run) l14 c14 k14
  have d_run : Dn K mg "run" s_run ["steps", "names", "given"] := ⟨_, _, F14, PySem.W.mg_of X G a14, F14.binds fun _ _ _ _ _ _ us hl => match us, hl with | [_, _, _], _ => rfl⟩
  have F15 := fun_mk (st := s_taken) l15 c15 k15
  have d_taken : Dn K mg "taken" s_taken ["held", "box"] := ⟨_, _, F15, PySem.W.mg_of X G a15, F15.binds fun _ _ _ _ _ _ us hl => match us, hl with | [_, _], _ => rfl⟩
  have F16 := fun_mk (st := s_one_back) l16 c16 k16
  have d_one_back : Dn K mg "one_back" s_one_back ["held", "step", "number"] := ⟨_, _, F16, PySem.W.mg_of X G a16, F16.binds fun _ _ _ _ _ _ us hl => match us, hl with | [_, _, _], _ => rfl⟩
  have F17 := fun_mk (st := s_put_back) l17 c17 k17
  have d_put_back : Dn K mg "put_back" s_put_back ["steps"] := ⟨_, _, F17, PySem.W.mg_of X G a17, F17.binds fun _ _ _ _ _ _ us hl => match us, hl with | [_], _ => rfl⟩
  have F18 := fun_mk (st := s__law_start) l18 c18 k18
  have d__law_start : Dn K mg "_law_start" s__law_start ["_law_script"] := ⟨_, _, F18, PySem.W.mg_of X G a18, F18.binds fun _ _ _ _ _ _ us hl => match us, hl with | [_], _ => rfl⟩
  have F19 := fun_mk (st := s__law_drawn) l19 c19 k19
  have d__law_drawn : Dn K mg "_law_drawn" s__law_drawn ["_law_state", "_law_many"] := ⟨_, _, F19, PySem.W.mg_of X G a19, F19.binds fun _ _ _ _ _ _ us hl => match us, hl with | [_, _], _ => rfl⟩
  have F20 := fun_mk (st := s__law_same) l20 c20 k20
  have d__law_same : Dn K mg "_law_same" s__law_same ["_law_found", "_law_due_here"] := ⟨_, _, F20, PySem.W.mg_of X G a20, F20.binds fun _ _ _ _ _ _ us hl => match us, hl with | [_, _], _ => rfl⟩
  have F21 := fun_mk (st := s__law_sum) l21 c21 k21
  have d__law_sum : Dn K mg "_law_sum" s__law_sum ["_law_state", "_law_deep_here", "_law_room"] := ⟨_, _, F21, PySem.W.mg_of X G a21, F21.binds fun _ _ _ _ _ _ us hl => match us, hl with | [_, _, _], _ => rfl⟩
  have F22 := fun_mk (st := s__law_any) l22 c22 k22
  have d__law_any : Dn K mg "_law_any" s__law_any ["_law_state"] := ⟨_, _, F22, PySem.W.mg_of X G a22, F22.binds fun _ _ _ _ _ _ us hl => match us, hl with | [_], _ => rfl⟩
  have F23 := fun_mk (st := s__law_quiet) l23 c23 k23
  have d__law_quiet : Dn K mg "_law_quiet" s__law_quiet ["_law_part"] := ⟨_, _, F23, PySem.W.mg_of X G a23, F23.binds fun _ _ _ _ _ _ us hl => match us, hl with | [_], _ => rfl⟩
  have F24 := fun_mk (st := s__law_parts) l24 c24 k24
  have d__law_parts : Dn K mg "_law_parts" s__law_parts ["_law_part"] := ⟨_, _, F24, PySem.W.mg_of X G a24, F24.binds fun _ _ _ _ _ _ us hl => match us, hl with | [_], _ => rfl⟩
  have F25 := fun_mk (st := s__law_all) l25 c25 k25
  have d__law_all : Dn K mg "_law_all" s__law_all ["_law_part"] := ⟨_, _, F25, PySem.W.mg_of X G a25, F25.binds fun _ _ _ _ _ _ us hl => match us, hl with | [_], _ => rfl⟩
  have F26 := fun_mk (st := s__law_names) l26 c26 k26
  have d__law_names : Dn K mg "_law_names" s__law_names ["_law_state"] := ⟨_, _, F26, PySem.W.mg_of X G a26, F26.binds fun _ _ _ _ _ _ us hl => match us, hl with | [_], _ => rfl⟩
  have F27 := fun_mk (st := s__law_given) l27 c27 k27
  have d__law_given : Dn K mg "_law_given" s__law_given ["_law_state"] := ⟨_, _, F27, PySem.W.mg_of X G a27, F27.binds fun _ _ _ _ _ _ us hl => match us, hl with | [_], _ => rfl⟩
  have F28 := fun_mk (st := s__law_steps) l28 c28 k28
  have d__law_steps : Dn K mg "_law_steps" s__law_steps ["_law_state"] := ⟨_, _, F28, PySem.W.mg_of X G a28, F28.binds fun _ _ _ _ _ _ us hl => match us, hl with | [_], _ => rfl⟩
  have F29 := fun_mk (st := s__law_cut) l29 c29 k29
  have d__law_cut : Dn K mg "_law_cut" s__law_cut ["_law_part", "_law_found"] := ⟨_, _, F29, PySem.W.mg_of X G a29, F29.binds fun _ _ _ _ _ _ us hl => match us, hl with | [_, _], _ => rfl⟩
  have F30 := fun_mk (st := s__law_turned) l30 c30 k30
  have d__law_turned : Dn K mg "_law_turned" s__law_turned ["_law_state", "_law_steps_here"] := ⟨_, _, F30, PySem.W.mg_of X G a30, F30.binds fun _ _ _ _ _ _ us hl => match us, hl with | [_, _], _ => rfl⟩
  have F31 := fun_mk (st := s__law_due) l31 c31 k31
  have d__law_due : Dn K mg "_law_due" s__law_due ["_law_steps_here"] := ⟨_, _, F31, PySem.W.mg_of X G a31, F31.binds fun _ _ _ _ _ _ us hl => match us, hl with | [_], _ => rfl⟩
  have F32 := fun_mk (st := s__law_deep) l32 c32 k32
  have d__law_deep : Dn K mg "_law_deep" s__law_deep ["_law_part"] := ⟨_, _, F32, PySem.W.mg_of X G a32, F32.binds fun _ _ _ _ _ _ us hl => match us, hl with | [_], _ => rfl⟩
  have c_Teller : Tc_Teller K C_Teller := ⟨⟨pg_Teller, hd_Teller, po_Teller, sa_Teller⟩, n_Teller_names, n_Teller_given, n_Teller_said, n_Teller_asked⟩
  have F_Teller_init__ := fun_mk (st := s_Teller_init__) l_Teller_init__ c_Teller_init__ k_Teller_init__
  have d_Teller_init__ : Kn K mg "Teller" C_Teller "Teller.__init__" s_Teller_init__ ["self", "names", "given"] := ⟨_, _, F_Teller_init__, ⟨mk_Teller, a_Teller_init__, i_Teller_init__, kc_Teller⟩, PySem.W.mg_of X G aC_Teller, F_Teller_init__.binds fun _ _ _ _ _ _ us hl => match us, hl with | [_, _, _], _ => rfl⟩
  have F_Teller_say := fun_mk (st := s_Teller_say) l_Teller_say c_Teller_say k_Teller_say
  have d_Teller_say : Mn K C_Teller "say" "Teller.say" s_Teller_say ["self", "number"] := ⟨_, _, F_Teller_say, ⟨a_Teller_say, i_Teller_say, k_Teller_say⟩, F_Teller_say.binds fun _ _ _ _ _ _ us hl => match us, hl with | [_, _], _ => rfl⟩
  have F_Teller_ask := fun_mk (st := s_Teller_ask) l_Teller_ask c_Teller_ask k_Teller_ask
  have d_Teller_ask : Mn K C_Teller "ask" "Teller.ask" s_Teller_ask ["self"] := ⟨_, _, F_Teller_ask, ⟨a_Teller_ask, i_Teller_ask, k_Teller_ask⟩, F_Teller_ask.binds fun _ _ _ _ _ _ us hl => match us, hl with | [_], _ => rfl⟩
  have F_Teller_told := fun_mk (st := s_Teller_told) l_Teller_told c_Teller_told k_Teller_told
  have d_Teller_told : Mn K C_Teller "told" "Teller.told" s_Teller_told ["self", "part"] := ⟨_, _, F_Teller_told, ⟨a_Teller_told, i_Teller_told, k_Teller_told⟩, F_Teller_told.binds fun _ _ _ _ _ _ us hl => match us, hl with | [_, _], _ => rfl⟩
  have FK := fun_mk (st := s__law_kind) lK cK kK
  have Kk : Ks K mg X_StepError X_BadSum X_BadSteps X_NoName X_NoMore X_NoSum X_BadText := ⟨PySem.W.mg_of X G g_StepError, PySem.W.mg_of X G g_BadSum, PySem.W.mg_of X G g_BadSteps, PySem.W.mg_of X G g_NoName, PySem.W.mg_of X G g_NoMore, PySem.W.mg_of X G g_NoSum, PySem.W.mg_of X G g_BadText, PySem.W.mg_none_of X G z_VE, PySem.W.mg_none_of X G z1⟩
  have e_NoName : EK K mg "NoName" X_NoName := ⟨ex_NoName, PySem.W.mg_of X G g_NoName, kp_NoName, sb_NoName, ty_NoName⟩
  have hKd_NoName : KdW K X_StepError X_BadSum X_BadSteps X_NoName X_NoMore X_NoSum X_BadText X_NoName "NoName" := ⟨2, by decide, ⟨⟨eg_NoName, ek_NoName, sb_NoName, ed_NoName, ea_NoName, en_NoName, et_NoName, em_NoName⟩, xo_NoName, fun j k b h1 h2 => match j, h1, h2 with | 0, rfl, rfl => ki0_NoName | 1, rfl, rfl => ki1_NoName | 2, rfl, rfl => ki2_NoName | 3, rfl, rfl => ki3_NoName | 4, rfl, rfl => ki4_NoName | 5, rfl, rfl => ki5_NoName | _ + 6, h1, _ => by simp at h1, kv_NoName⟩, rfl⟩
  have e_NoMore : EK K mg "NoMore" X_NoMore := ⟨ex_NoMore, PySem.W.mg_of X G g_NoMore, kp_NoMore, sb_NoMore, ty_NoMore⟩
  have hKd_NoMore : KdW K X_StepError X_BadSum X_BadSteps X_NoName X_NoMore X_NoSum X_BadText X_NoMore "NoMore" := ⟨3, by decide, ⟨⟨eg_NoMore, ek_NoMore, sb_NoMore, ed_NoMore, ea_NoMore, en_NoMore, et_NoMore, em_NoMore⟩, xo_NoMore, fun j k b h1 h2 => match j, h1, h2 with | 0, rfl, rfl => ki0_NoMore | 1, rfl, rfl => ki1_NoMore | 2, rfl, rfl => ki2_NoMore | 3, rfl, rfl => ki3_NoMore | 4, rfl, rfl => ki4_NoMore | 5, rfl, rfl => ki5_NoMore | _ + 6, h1, _ => by simp at h1, kv_NoMore⟩, rfl⟩
  have e_NoSum : EK K mg "NoSum" X_NoSum := ⟨ex_NoSum, PySem.W.mg_of X G g_NoSum, kp_NoSum, sb_NoSum, ty_NoSum⟩
  have hKd_NoSum : KdW K X_StepError X_BadSum X_BadSteps X_NoName X_NoMore X_NoSum X_BadText X_NoSum "NoSum" := ⟨4, by decide, ⟨⟨eg_NoSum, ek_NoSum, sb_NoSum, ed_NoSum, ea_NoSum, en_NoSum, et_NoSum, em_NoSum⟩, xo_NoSum, fun j k b h1 h2 => match j, h1, h2 with | 0, rfl, rfl => ki0_NoSum | 1, rfl, rfl => ki1_NoSum | 2, rfl, rfl => ki2_NoSum | 3, rfl, rfl => ki3_NoSum | 4, rfl, rfl => ki4_NoSum | 5, rfl, rfl => ki5_NoSum | _ + 6, h1, _ => by simp at h1, kv_NoSum⟩, rfl⟩
  have F_BadSteps := fun_mk (st := s_BadSteps_init__) li_BadSteps ci_BadSteps kf_BadSteps
  have oe_BadSteps : OexC K X_BadSteps := ⟨⟨_, _, _, _, _, _, _, _, _, _, _, _, _, _, _, cx_BadSteps, rv_BadSteps⟩, sa_BadSteps, sb_BadSteps, ty_BadSteps, kp_BadSteps⟩
  have hKf_BadSteps : KindF K X_StepError X_BadSum X_BadSteps X_NoName X_NoMore X_NoSum X_BadText X_BadSteps "BadSteps" "number" := ⟨⟨1, .inl ⟨rfl, rfl, rfl⟩, ⟨⟨eg_BadSteps, ek_BadSteps, sb_BadSteps, ed_BadSteps, ea_BadSteps, en_BadSteps, et_BadSteps, em_BadSteps⟩, xo_BadSteps, fun j k b h1 h2 => match j, h1, h2 with | 0, rfl, rfl => ki0_BadSteps | 1, rfl, rfl => ki1_BadSteps | 2, rfl, rfl => ki2_BadSteps | 3, rfl, rfl => ki3_BadSteps | 4, rfl, rfl => ki4_BadSteps | 5, rfl, rfl => ki5_BadSteps | _ + 6, h1, _ => by simp at h1, kv_BadSteps⟩⟩, ⟨eg_BadSteps, ek_BadSteps, sb_BadSteps, ed_BadSteps⟩, n1_BadSteps, n2_BadSteps⟩
  refine ⟨PySem.W.fnOf "law" "law" (defArgs s_law) (defBody s_law) (defScope s_law) .none kVL dcL pmL anL (.ref cL) ctL, [(cL, p0)], spI K (pLaw p0), fun p hp => ?_, fun p hp => ?_, fun p hp => ?_, fun s v => .of_eq rfl, fun H a ns hl _ hT hS => start_okT hl (hT (cL, p0) List.mem_cons_self) hS, fun base _ _ hTB => ?_⟩
  · rw [List.mem_singleton.mp hp]; exact hTab
  · rw [List.mem_singleton.mp hp]; exact hTabK
  · rw [List.mem_singleton.mp hp]; exact PySem.W.codeHd_of_K X hCode
  have TB := hTB (cL, p0) List.mem_cons_self
  have ek_BadSteps : EKF l.prog w K mg base "BadSteps" X_BadSteps "number" := ⟨oe_BadSteps, PySem.W.mg_of X G g_BadSteps, _, _, _, ii_BadSteps, ti_BadSteps, F_BadSteps.binds (fun _ _ _ _ _ _ us hl => match us, hl with | [_, _], _ => rfl), ini_BadSteps F_BadSteps Kk.g_StepError ⟨rd_SE, ga_SE, at_SE⟩ oe_BadSteps n1_BadSteps⟩
  have D_is_number := ok_is_number (P := l.prog) (base := base) T d_is_number
  have D_is_letter := ok_is_letter (P := l.prog) (base := base) T d_is_letter
  have D_is_whole := ok_is_whole T d_is_whole D_is_number D_is_letter
  have D_within := ok_within (P := l.prog) (base := base) T d_within
  have D_is_sum := ok_is_sum T d_is_sum D_is_whole D_within
  have D_need_sum := ok_need_sum d_need_sum D_is_sum
  have D_is_box := ok_is_boxG (P := l.prog) (base := base) T d_is_box
  have D_is_step := ok_is_stepG T d_is_step D_is_box D_is_number D_is_letter
  have D_need_steps := ok_need_stepsX T ek_BadSteps d_need_steps D_is_step
  have D_all_within := ok_all_within T d_all_within (to_withinS D_within) 15
  have D_joined := ok_joined (P := l.prog) (base := base) T d_joined
  have D_need_given := ok_need_given (P := l.prog) (w := w) (base := base) T e_NoName e_NoMore d_need_given
  have D_Teller_init := ok_Teller_init (P := l.prog) (w := w) (mg := mg) (base := base) c_Teller d_Teller_init__
  have D_Teller_say := ok_Teller_say (P := l.prog) (w := w) (mg := mg) (base := base) c_Teller d_Teller_say
  have D_Teller_ask := ok_Teller_ask (P := l.prog) (w := w) (mg := mg) (base := base) c_Teller d_Teller_ask
  have D_Teller_told := ok_Teller_told T c_Teller d_Teller_told D_joined D_Teller_say D_Teller_ask 15
  have D_worth := ok_worth T c_Teller d_worth D_need_sum D_all_within D_need_given D_Teller_init D_Teller_told
  have D_step_worth := ok_step_worth T c_Teller d_step_worth D_joined D_Teller_say D_Teller_ask
  have D_run := ok_runX T c_Teller d_run D_need_steps D_need_given D_Teller_init D_step_worth
  have D_taken := ok_takenX (P := l.prog) (base := base) T e_NoSum d_taken
  have D_one_back := ok_one_backX T d_one_back D_taken
  have D_put_back := ok_put_backX T e_NoSum d_put_back D_need_steps D_one_back D_is_sum
  have D__law_start := ok__law_start (P := l.prog) (base := base) T d__law_start
  have D__law_drawn := ok__law_drawn (P := l.prog) (base := base) T d__law_drawn
  have D__law_sum := ok__law_sum T d__law_sum D__law_drawn 15
  have D__law_quiet := ok__law_quiet (P := l.prog) (base := base) T d__law_quiet 15
  have D__law_any := ok__law_any T d__law_any D__law_drawn D__law_sum D__law_quiet
  have D__law_parts := ok__law_parts (P := l.prog) (base := base) T d__law_parts
  have D__law_all := ok__law_all T d__law_all D__law_parts 62
  have D__law_deep := ok__law_deep T d__law_deep D__law_parts 62
  have D__law_due := ok__law_due T d__law_due D__law_all D__law_deep
  have D__law_cut := ok__law_cut T d__law_cut D__law_parts 15
  have D__law_same := ok__law_same (P := l.prog) (base := base) T d__law_same 15
  have D__law_names := ok__law_names T d__law_names D__law_drawn
  have D__law_given := ok__law_given T d__law_given D__law_drawn
  have D__law_steps := ok__law_steps T d__law_steps D__law_drawn
  have D__law_turned := ok__law_turned T d__law_turned D__law_drawn
  exact ok_law T lL cLc (PySem.W.mg_of X G aK) kK lK cK (FK.binds fun _ _ _ _ _ _ us hl => match us, hl with | [_], _ => rfl) Kk hKd_NoSum xo_NoSum hKf_BadSteps xo_BadSteps TB D__law_start D__law_steps D__law_any D__law_cut D__law_drawn D__law_turned D__law_same D__law_due D__law_names D__law_given D_put_back D_run D_worth
theorem walk_hereT {l : PySem.W.OpenLaw} {q : Program} {loose : List Str} {XP : (Str → Option Value) → Heap → Prop} {YP : World → Heap → Prop} {d : DefRec} {K : Params → PySem.W.Frag} (hn : l.most = some 63) (hdf : d.params.defaults = [])
    (hY : ∀ (w : World) (h : Heap), YP w h → (K w.params).In h)
    (F : ∀ (w : World) (mg : Str → Option Value) (fa : Addr) (h : Heap), YP w h → (K w.params).In h → h.Ns mainGlobals mg → mg d.name = some (.ref fa) → LamX.LawAtS l w (K w.params) (L2.CX l.prog w) 80 63 "_law_script" mg fa h) :
    PySem.W.WalkO q loose XP YP l.row.toRowW d [] (fun f vs => PySem.call f vs) :=
  LamX.walk_ofTs (n := 63) (k := 80) (x := "_law_script") (CX := fun w => L2.CX l.prog w) hn (by decide) hdf ⟨rfl, by decide, by decide⟩ hY F fun w H s e s' ⟨_, _, _, _, _, _, _, _, _, _, _, _, z⟩ => z
end Lw
open PySem PySem.W PyProof.Rows
set_option maxRecDepth 100000 in
set_option maxHeartbeats 0 in
theorem PySem.Challenge.cw_stepnames_k10_whole_which_steps_are_a_su_holds : PySem.Challenge.rw_stepnames_k10_whole_which_steps_are_a_su.Holds := by
  w_on; o_law; k_head; (case hw => w_witness2)
  k_fill
  refine Lw.walk_hereT (l := PySem.Challenge.rw_stepnames_k10_whole_which_steps_are_a_su) rfl rfl (fun w h Y => PySem.W.km_in_of Y) ?F
  case F =>
    intro w mg fa h Y KX G hmg
    refine' Lw.all_mk KX G hmg (PySem.W.km_tabs_of Y _ List.mem_cons_self) ?aL ?lL ?cLc ?kL ?hCode ?hTabK ?aK ?lK ?cK ?kK ?a0 ?l0 ?c0 ?k0 ?a1 ?l1 ?c1 ?k1 ?a2 ?l2 ?c2 ?k2 ?a3 ?l3 ?c3 ?k3 ?a4 ?l4 ?c4 ?k4 ?a5 ?l5 ?c5 ?k5 ?a6 ?l6 ?c6 ?k6 ?a7 ?l7 ?c7 ?k7 ?a8 ?l8 ?c8 ?k8 ?a9 ?l9 ?c9 ?k9 ?a10 ?l10 ?c10 ?k10 ?a11 ?l11 ?c11 ?k11 ?a12 ?l12 ?c12 ?k12 ?a13 ?l13 ?c13 ?k13 ?a14 ?l14 ?c14 ?k14 ?a15 ?l15 ?c15 ?k15 ?a16 ?l16 ?c16 ?k16 ?a17 ?l17 ?c17 ?k17 ?a18 ?l18 ?c18 ?k18 ?a19 ?l19 ?c19 ?k19 ?a20 ?l20 ?c20 ?k20 ?a21 ?l21 ?c21 ?k21 ?a22 ?l22 ?c22 ?k22 ?a23 ?l23 ?c23 ?k23 ?a24 ?l24 ?c24 ?k24 ?a25 ?l25 ?c25 ?k25 ?a26 ?l26 ?c26 ?k26 ?a27 ?l27 ?c27 ?k27 ?a28 ?l28 ?c28 ?k28 ?a29 ?l29 ?c29 ?k29 ?a30 ?l30 ?c30 ?k30 ?a31 ?l31 ?c31 ?k31 ?a32 ?l32 ?c32 ?k32 ?g_StepError ?g_BadSum ?g_BadSteps ?g_NoName ?g_NoMore ?g_NoSum ?g_BadText ?z_VE ?ex_NoName ?kp_NoName ?sb_NoName ?ty_NoName ?eg_NoName ?ek_NoName ?ed_NoName ?ea_NoName ?en_NoName ?et_NoName ?em_NoName ?xo_NoName ?ki0_NoName ?ki1_NoName ?ki2_NoName ?ki3_NoName ?ki4_NoName ?ki5_NoName ?kv_NoName ?ex_NoMore ?kp_NoMore ?sb_NoMore ?ty_NoMore ?eg_NoMore ?ek_NoMore ?ed_NoMore ?ea_NoMore ?en_NoMore ?et_NoMore ?em_NoMore ?xo_NoMore ?ki0_NoMore ?ki1_NoMore ?ki2_NoMore ?ki3_NoMore ?ki4_NoMore ?ki5_NoMore ?kv_NoMore ?ex_NoSum ?kp_NoSum ?sb_NoSum ?ty_NoSum ?eg_NoSum ?ek_NoSum ?ed_NoSum ?ea_NoSum ?en_NoSum ?et_NoSum ?em_NoSum ?xo_NoSum ?ki0_NoSum ?ki1_NoSum ?ki2_NoSum ?ki3_NoSum ?ki4_NoSum ?ki5_NoSum ?kv_NoSum ?kp_BadSteps ?sb_BadSteps ?ty_BadSteps ?eg_BadSteps ?ek_BadSteps ?ed_BadSteps ?ea_BadSteps ?en_BadSteps ?et_BadSteps ?em_BadSteps ?xo_BadSteps ?ki0_BadSteps ?ki1_BadSteps ?ki2_BadSteps ?ki3_BadSteps ?ki4_BadSteps ?ki5_BadSteps ?kv_BadSteps ?cx_BadSteps ?rv_BadSteps ?sa_BadSteps ?n1_BadSteps ?n2_BadSteps ?ii_BadSteps ?ti_BadSteps ?li_BadSteps ?ci_BadSteps ?kf_BadSteps ?rd_SE ?ga_SE ?at_SE ?aC_Teller ?pg_Teller ?hd_Teller ?po_Teller ?sa_Teller ?mk_Teller ?kc_Teller ?n_Teller_names ?n_Teller_given ?n_Teller_said ?n_Teller_asked ?a_Teller_init__ ?i_Teller_init__ ?l_Teller_init__ ?c_Teller_init__ ?k_Teller_init__ ?a_Teller_say ?i_Teller_say ?l_Teller_say ?c_Teller_say ?k_Teller_say ?a_Teller_ask ?i_Teller_ask ?l_Teller_ask ?c_Teller_ask ?k_Teller_ask ?a_Teller_told ?i_Teller_told ?l_Teller_told ?c_Teller_told ?k_Teller_told ?g_WHEEL ?g_LETTERS ?g_PAIRS ?l_PAIRS ?g_SIZES ?l_SIZES ?g_MOST_SUMS ?g_MOST_WITHIN ?g_MOST_STEPS ?z0 ?z1 ?z2 ?z3 ?z4 ?z5 ?z6 ?z7 ?z8 ?z9 ?z10 ?z11 ?z12 ?z13 ?z14 ?q_SIZES ?s_SIZES ?v_SIZES
    (case aL => first | k_is | kernel_rfl)
    (case lL => first | k_is | kernel_rfl)
    (case cLc => first | k_is | kernel_rfl)
    (case kL => first | k_is | kernel_rfl)
    (case hCode => first | k_is | kernel_rfl)
    (case hTabK => first | k_is | kernel_rfl)
    (case aK => first | k_is | kernel_rfl)
    (case lK => first | k_is | kernel_rfl)
    (case cK => first | k_is | kernel_rfl)
    (case kK => first | k_is | kernel_rfl)
    (case a0 => first | k_is | kernel_rfl)
    (case l0 => first | k_is | kernel_rfl)
    (case c0 => first | k_is | kernel_rfl)
    (case k0 => first | k_is | kernel_rfl)
    (case a1 => first | k_is | kernel_rfl)
    (case l1 => first | k_is | kernel_rfl)
    (case c1 => first | k_is | kernel_rfl)
    (case k1 => first | k_is | kernel_rfl)
    (case a2 => first | k_is | kernel_rfl)
    (case l2 => first | k_is | kernel_rfl)
    (case c2 => first | k_is | kernel_rfl)
    (case k2 => first | k_is | kernel_rfl)
    (case a3 => first | k_is | kernel_rfl)
    (case l3 => first | k_is | kernel_rfl)
    (case c3 => first | k_is | kernel_rfl)
    (case k3 => first | k_is | kernel_rfl)
    (case a4 => first | k_is | kernel_rfl)
    (case l4 => first | k_is | kernel_rfl)
    (case c4 => first | k_is | kernel_rfl)
    (case k4 => first | k_is | kernel_rfl)
    (case a5 => first | k_is | kernel_rfl)
    (case l5 => first | k_is | kernel_rfl)
    (case c5 => first | k_is | kernel_rfl)
    (case k5 => first | k_is | kernel_rfl)
    (case a6 => first | k_is | kernel_rfl)
    (case l6 => first | k_is | kernel_rfl)
    (case c6 => first | k_is | kernel_rfl)
    (case k6 => first | k_is | kernel_rfl)
    (case a7 => first | k_is | kernel_rfl)
    (case l7 => first | k_is | kernel_rfl)
    (case c7 => first | k_is | kernel_rfl)
    (case k7 => first | k_is | kernel_rfl)
    (case a8 => first | k_is | kernel_rfl)
    (case l8 => first | k_is | kernel_rfl)
    (case c8 => first | k_is | kernel_rfl)
    (case k8 => first | k_is | kernel_rfl)
    (case a9 => first | k_is | kernel_rfl)
    (case l9 => first | k_is | kernel_rfl)
    (case c9 => first | k_is | kernel_rfl)
    (case k9 => first | k_is | kernel_rfl)
    (case a10 => first | k_is | kernel_rfl)
    (case l10 => first | k_is | kernel_rfl)
    (case c10 => first | k_is | kernel_rfl)
    (case k10 => first | k_is | kernel_rfl)
    (case a11 => first | k_is | kernel_rfl)
    (case l11 => first | k_is | kernel_rfl)
    (case c11 => first | k_is | kernel_rfl)
    (case k11 => first | k_is | kernel_rfl)
    (case a12 => first | k_is | kernel_rfl)
    (case l12 => first | k_is | kernel_rfl)
    (case c12 => first | k_is | kernel_rfl)
    (case k12 => first | k_is | kernel_rfl)
    (case a13 => first | k_is | kernel_rfl)
    (case l13 => first | k_is | kernel_rfl)
    (case c13 => first | k_is | kernel_rfl)
    (case k13 => first | k_is | kernel_rfl)
    (case a14 => first | k_is | kernel_rfl)
    (case l14 => first | k_is | kernel_rfl)
    (case c14 => first | k_is | kernel_rfl)
    (case k14 => first | k_is | kernel_rfl)
    (case a15 => first | k_is | kernel_rfl)
    (case l15 => first | k_is | kernel_rfl)
    (case c15 => first | k_is | kernel_rfl)
    (case k15 => first | k_is | kernel_rfl)
    (case a16 => first | k_is | kernel_rfl)
    (case l16 => first | k_is | kernel_rfl)
    (case c16 => first | k_is | kernel_rfl)
    (case k16 => first | k_is | kernel_rfl)
    (case a17 => first | k_is | kernel_rfl)
    (case l17 => first | k_is | kernel_rfl)
    (case c17 => first | k_is | kernel_rfl)
    (case k17 => first | k_is | kernel_rfl)
    (case a18 => first | k_is | kernel_rfl)
    (case l18 => first | k_is | kernel_rfl)
    (case c18 => first | k_is | kernel_rfl)
    (case k18 => first | k_is | kernel_rfl)
    (case a19 => first | k_is | kernel_rfl)
    (case l19 => first | k_is | kernel_rfl)
    (case c19 => first | k_is | kernel_rfl)
    (case k19 => first | k_is | kernel_rfl)
    (case a20 => first | k_is | kernel_rfl)
    (case l20 => first | k_is | kernel_rfl)
    (case c20 => first | k_is | kernel_rfl)
    (case k20 => first | k_is | kernel_rfl)
    (case a21 => first | k_is | kernel_rfl)
    (case l21 => first | k_is | kernel_rfl)
    (case c21 => first | k_is | kernel_rfl)
    (case k21 => first | k_is | kernel_rfl)
    (case a22 => first | k_is | kernel_rfl)
    (case l22 => first | k_is | kernel_rfl)
    (case c22 => first | k_is | kernel_rfl)
    (case k22 => first | k_is | kernel_rfl)
    (case a23 => first | k_is | kernel_rfl)
    (case l23 => first | k_is | kernel_rfl)
    (case c23 => first | k_is | kernel_rfl)
    (case k23 => first | k_is | kernel_rfl)
    (case a24 => first | k_is | kernel_rfl)
    (case l24 => first | k_is | kernel_rfl)
    (case c24 => first | k_is | kernel_rfl)
    (case k24 => first | k_is | kernel_rfl)
    (case a25 => first | k_is | kernel_rfl)
    (case l25 => first | k_is | kernel_rfl)
    (case c25 => first | k_is | kernel_rfl)
    (case k25 => first | k_is | kernel_rfl)
    (case a26 => first | k_is | kernel_rfl)
    (case l26 => first | k_is | kernel_rfl)
    (case c26 => first | k_is | kernel_rfl)
    (case k26 => first | k_is | kernel_rfl)
    (case a27 => first | k_is | kernel_rfl)
    (case l27 => first | k_is | kernel_rfl)
    (case c27 => first | k_is | kernel_rfl)
    (case k27 => first | k_is | kernel_rfl)
    (case a28 => first | k_is | kernel_rfl)
    (case l28 => first | k_is | kernel_rfl)
    (case c28 => first | k_is | kernel_rfl)
    (case k28 => first | k_is | kernel_rfl)
    (case a29 => first | k_is | kernel_rfl)
    (case l29 => first | k_is | kernel_rfl)
    (case c29 => first | k_is | kernel_rfl)
    (case k29 => first | k_is | kernel_rfl)
    (case a30 => first | k_is | kernel_rfl)
    (case l30 => first | k_is | kernel_rfl)
    (case c30 => first | k_is | kernel_rfl)
    (case k30 => first | k_is | kernel_rfl)
    (case a31 => first | k_is | kernel_rfl)
    (case l31 => first | k_is | kernel_rfl)
    (case c31 => first | k_is | kernel_rfl)
    (case k31 => first | k_is | kernel_rfl)
    (case a32 => first | k_is | kernel_rfl)
    (case l32 => first | k_is | kernel_rfl)
    (case c32 => first | k_is | kernel_rfl)
    (case k32 => first | k_is | kernel_rfl)
    (case g_StepError => first | k_is | kernel_rfl)
    (case g_BadSum => first | k_is | kernel_rfl)
    (case g_BadSteps => first | k_is | kernel_rfl)
    (case g_NoName => first | k_is | kernel_rfl)
    (case g_NoMore => first | k_is | kernel_rfl)
    (case g_NoSum => first | k_is | kernel_rfl)
    (case g_BadText => first | k_is | kernel_rfl)
    (case z_VE => first | k_is | kernel_rfl)
    (case ex_NoName => first | k_is | kernel_rfl)
    (case kp_NoName => first | k_is | kernel_rfl)
    (case sb_NoName => first | k_is | kernel_rfl)
    (case ty_NoName => first | k_is | kernel_rfl)
    (case eg_NoName => first | k_is | kernel_rfl)
    (case ek_NoName => first | k_is | kernel_rfl)
    (case ed_NoName => first | k_is | kernel_rfl)
    (case ea_NoName => first | k_is | kernel_rfl)
    (case en_NoName => first | k_is | kernel_rfl)
    (case et_NoName => first | k_is | kernel_rfl)
    (case em_NoName => first | k_is | kernel_rfl)
    (case xo_NoName => first | k_is | kernel_rfl)
    (case ki0_NoName => first | k_is | kernel_rfl)
    (case ki1_NoName => first | k_is | kernel_rfl)
    (case ki2_NoName => first | k_is | kernel_rfl)
    (case ki3_NoName => first | k_is | kernel_rfl)
    (case ki4_NoName => first | k_is | kernel_rfl)
    (case ki5_NoName => first | k_is | kernel_rfl)
    (case kv_NoName => first | k_is | kernel_rfl)
    (case ex_NoMore => first | k_is | kernel_rfl)
    (case kp_NoMore => first | k_is | kernel_rfl)
    (case sb_NoMore => first | k_is | kernel_rfl)
    (case ty_NoMore => first | k_is | kernel_rfl)
    (case eg_NoMore => first | k_is | kernel_rfl)
    (case ek_NoMore => first | k_is | kernel_rfl)
    (case ed_NoMore => first | k_is | kernel_rfl)
    (case ea_NoMore => first | k_is | kernel_rfl)
    (case en_NoMore => first | k_is | kernel_rfl)
    (case et_NoMore => first | k_is | kernel_rfl)
    (case em_NoMore => first | k_is | kernel_rfl)
    (case xo_NoMore => first | k_is | kernel_rfl)
    (case ki0_NoMore => first | k_is | kernel_rfl)
    (case ki1_NoMore => first | k_is | kernel_rfl)
    (case ki2_NoMore => first | k_is | kernel_rfl)
    (case ki3_NoMore => first | k_is | kernel_rfl)
    (case ki4_NoMore => first | k_is | kernel_rfl)
    (case ki5_NoMore => first | k_is | kernel_rfl)
    (case kv_NoMore => first | k_is | kernel_rfl)
    (case ex_NoSum => first | k_is | kernel_rfl)
    (case kp_NoSum => first | k_is | kernel_rfl)
    (case sb_NoSum => first | k_is | kernel_rfl)
    (case ty_NoSum => first | k_is | kernel_rfl)
    (case eg_NoSum => first | k_is | kernel_rfl)
    (case ek_NoSum => first | k_is | kernel_rfl)
    (case ed_NoSum => first | k_is | kernel_rfl)
    (case ea_NoSum => first | k_is | kernel_rfl)
    (case en_NoSum => first | k_is | kernel_rfl)
    (case et_NoSum => first | k_is | kernel_rfl)
    (case em_NoSum => first | k_is | kernel_rfl)
    (case xo_NoSum => first | k_is | kernel_rfl)
    (case ki0_NoSum => first | k_is | kernel_rfl)
    (case ki1_NoSum => first | k_is | kernel_rfl)
    (case ki2_NoSum => first | k_is | kernel_rfl)
    (case ki3_NoSum => first | k_is | kernel_rfl)
    (case ki4_NoSum => first | k_is | kernel_rfl)
    (case ki5_NoSum => first | k_is | kernel_rfl)
    (case kv_NoSum => first | k_is | kernel_rfl)
    (case kp_BadSteps => first | k_is | kernel_rfl)
    (case sb_BadSteps => first | k_is | kernel_rfl)
    (case ty_BadSteps => first | k_is | kernel_rfl)
    (case eg_BadSteps => first | k_is | kernel_rfl)
    (case ek_BadSteps => first | k_is | kernel_rfl)
    (case ed_BadSteps => first | k_is | kernel_rfl)
    (case ea_BadSteps => first | k_is | kernel_rfl)
    (case en_BadSteps => first | k_is | kernel_rfl)
    (case et_BadSteps => first | k_is | kernel_rfl)
    (case em_BadSteps => first | k_is | kernel_rfl)
    (case xo_BadSteps => first | k_is | kernel_rfl)
    (case ki0_BadSteps => first | k_is | kernel_rfl)
    (case ki1_BadSteps => first | k_is | kernel_rfl)
    (case ki2_BadSteps => first | k_is | kernel_rfl)
    (case ki3_BadSteps => first | k_is | kernel_rfl)
    (case ki4_BadSteps => first | k_is | kernel_rfl)
    (case ki5_BadSteps => first | k_is | kernel_rfl)
    (case kv_BadSteps => first | k_is | kernel_rfl)
    (case cx_BadSteps => first | k_is | kernel_rfl)
    (case rv_BadSteps => first | k_is | kernel_rfl)
    (case sa_BadSteps => first | k_is | kernel_rfl)
    (case n1_BadSteps => first | k_is | kernel_rfl)
    (case n2_BadSteps => first | k_is | kernel_rfl)
    (case ii_BadSteps => first | k_is | kernel_rfl)
    (case ti_BadSteps => first | k_is | kernel_rfl)
    (case li_BadSteps => first | k_is | kernel_rfl)
    (case ci_BadSteps => first | k_is | kernel_rfl)
    (case kf_BadSteps => first | k_is | kernel_rfl)
    (case rd_SE => first | k_is | kernel_rfl)
    (case ga_SE => first | k_is | kernel_rfl)
    (case at_SE => first | k_is | kernel_rfl)
    (case aC_Teller => first | k_is | kernel_rfl)
    (case pg_Teller => first | k_is | kernel_rfl)
    (case hd_Teller => first | k_is | kernel_rfl)
    (case po_Teller => first | k_is | kernel_rfl)
    (case sa_Teller => first | k_is | kernel_rfl)
    (case mk_Teller => first | k_is | kernel_rfl)
    (case kc_Teller => first | k_is | kernel_rfl)
    (case n_Teller_names => first | k_is | kernel_rfl)
    (case n_Teller_given => first | k_is | kernel_rfl)
    (case n_Teller_said => first | k_is | kernel_rfl)
    (case n_Teller_asked => first | k_is | kernel_rfl)
    (case a_Teller_init__ => first | k_is | kernel_rfl)
    (case i_Teller_init__ => first | k_is | kernel_rfl)
    (case l_Teller_init__ => first | k_is | kernel_rfl)
    (case c_Teller_init__ => first | k_is | kernel_rfl)
    (case k_Teller_init__ => first | k_is | kernel_rfl)
    (case a_Teller_say => first | k_is | kernel_rfl)
    (case i_Teller_say => first | k_is | kernel_rfl)
    (case l_Teller_say => first | k_is | kernel_rfl)
    (case c_Teller_say => first | k_is | kernel_rfl)
    (case k_Teller_say => first | k_is | kernel_rfl)
    (case a_Teller_ask => first | k_is | kernel_rfl)
    (case i_Teller_ask => first | k_is | kernel_rfl)
    (case l_Teller_ask => first | k_is | kernel_rfl)
    (case c_Teller_ask => first | k_is | kernel_rfl)
    (case k_Teller_ask => first | k_is | kernel_rfl)
    (case a_Teller_told => first | k_is | kernel_rfl)
    (case i_Teller_told => first | k_is | kernel_rfl)
    (case l_Teller_told => first | k_is | kernel_rfl)
    (case c_Teller_told => first | k_is | kernel_rfl)
    (case k_Teller_told => first | k_is | kernel_rfl)
    (case g_WHEEL => first | k_is | kernel_rfl)
    (case g_LETTERS => first | k_is | kernel_rfl)
    (case g_PAIRS => first | k_is | kernel_rfl)
    (case l_PAIRS => first | k_is | kernel_rfl)
    (case g_SIZES => first | k_is | kernel_rfl)
    (case l_SIZES => first | k_is | kernel_rfl)
    (case g_MOST_SUMS => first | k_is | kernel_rfl)
    (case g_MOST_WITHIN => first | k_is | kernel_rfl)
    (case g_MOST_STEPS => first | k_is | kernel_rfl)
    (case z0 => first | k_is | kernel_rfl)
    (case z1 => first | k_is | kernel_rfl)
    (case z2 => first | k_is | kernel_rfl)
    (case z3 => first | k_is | kernel_rfl)
    (case z4 => first | k_is | kernel_rfl)
    (case z5 => first | k_is | kernel_rfl)
    (case z6 => first | k_is | kernel_rfl)
    (case z7 => first | k_is | kernel_rfl)
    (case z8 => first | k_is | kernel_rfl)
    (case z9 => first | k_is | kernel_rfl)
    (case z10 => first | k_is | kernel_rfl)
    (case z11 => first | k_is | kernel_rfl)
    (case z12 => first | k_is | kernel_rfl)
    (case z13 => first | k_is | kernel_rfl)
    (case z14 => first | k_is | kernel_rfl)
    (case q_SIZES => exact ⟨⟨_, _, rfl, rfl⟩, ⟨_, _, rfl, rfl⟩, ⟨_, _, rfl, rfl⟩, ⟨_, _, rfl, rfl⟩, ⟨_, _, rfl, rfl⟩, ⟨_, _, rfl, rfl⟩, ⟨_, _, rfl, rfl⟩, trivial⟩)
    (case s_SIZES => decide +kernel)
    (case v_SIZES => exact DL.kf_sizes)

