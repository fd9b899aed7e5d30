import PyProof.Rows.All
import Wide.All
import OpenK.AllK
import Wide.FinOn
import HandS.ForMost
import HandS.Exc
import HandS.ExcOwn
import HandS.WordsExc
import HandS.Defaults
import HandS.Wide
import HandS.TupAny
import HandS.Flow
import HandS.FStr
import HandS.IsInst
import HandS.HeadEnd
import HandS.Head0
import HandS.Head1
import HandS.Head2
import HandS.HeadHook1
import HandS.HeadHook2
import HandS.HeadHook3
import HandS.HeadHook4
import HandS.Deep
import HandS.More
import HandS.SetFor
import HandS.Style
import HandS.ExcIs
import KE.KExcIs
import HandS.Codes
import PySem.Challenge.RW_virtualturns_k02_shares_reckoned
set_option Elab.async false
set_option linter.all false
set_option maxRecDepth 100000
/-! F3, part a: data with cells; code as functions; how they stand for values and heaps; expressions. -/
namespace F3
open PySem PySem.Spec PyProof.Rows L2

/-- what a name or an item holds: plain things and trees that never change again; ref i: the i-th cell -/
inductive D where
  | non | bl (b : Bool) | int (i : Int) | str (x : Str)
  | tup (xs : List D) | lst (xs : List D)
  | dct (kvs : List (Key × D))
  | ref (i : Nat)
  | obj (c : String) (fs : List (String × D))
  | exc (c : String) (fs : List (String × D))
  deriving Inhabited
/-- what changes -/
inductive Cell where
  | lst (xs : List D) | dct (kvs : List (Key × D)) | ins (c : String) (fs : List (String × D)) | lck (kvs : List (Key × D))
  deriving Inhabited
abbrev Store := List Cell
abbrev Env := List (Option D)
/-- how an expression ends -/
inductive Res (A : Type) where
  | ok (a : A) (st : Store)
  | exn (c : String) (fs : List (String × D)) (st : Store)
  | stuck
def Res.bind {A B : Type} (r : Res A) (k : A → Store → Res B) : Res B := match r with
  | .ok a st => k a st
  | .exn c fs st => .exn c fs st
  | .stuck => .stuck
abbrev Ex := Env → Store → Res D
abbrev Exs := Env → Store → Res (List D)
/-- how a statement ends -/
inductive Flow where
  | nx (env : Env) (st : Store)
  | rt (d : D) (st : Store)
  | bk (env : Env) (st : Store)
  | ct (env : Env) (st : Store)
  | ex (c : String) (fs : List (String × D)) (env : Env) (st : Store)
  | stuck
abbrev Sm := Env → Store → Flow

/-- the cells' addresses in order, and those that are kept aside (a list that a comprehension fills) -/
structure As where
  c : List Addr
  r : List Addr
instance : Membership Addr As := ⟨fun as a => a ∈ as.c ∨ a ∈ as.r⟩
theorem As.not {as : As} {a : Addr} (h1 : a ∉ as.c) (h2 : a ∉ as.r) : a ∉ as := fun h => Or.elim h h1 h2
/-- a list, a tuple that never changes: no cell, or the text's own -/
def FzL (K : PySem.W.Frag) (as : As) (H : Hp) (a : Addr) (xs : List V) : Prop := (a ∉ as ∧ Rd H a (.lst xs)) ∨ ∀ H, SqL K H a xs
def FzT (K : PySem.W.Frag) (as : As) (H : Hp) (a : Addr) (xs : List V) : Prop := (a ∉ as ∧ Rd H a (.tup xs)) ∨ ∀ H, SqT K H a xs
theorem FzL.sq {K : PySem.W.Frag} {as : As} {H : Hp} {a : Addr} {xs : List V} (h : FzL K as H a xs) : SqL K H a xs := h.elim (fun h => .inl h.2) fun h => h H
theorem FzT.sq {K : PySem.W.Frag} {as : As} {H : Hp} {a : Addr} {xs : List V} (h : FzT K as H a xs) : SqT K H a xs := h.elim (fun h => .inl h.2) fun h => h H
/-- an exception object that is kept: its class, its dict -/
def KO (cls : Value) (d : Option Addr) (a : Addr) : HO := .ext fun h => ∃ (oe : Obj) (vs : Array Value), h.get? a = some oe ∧ Zc cls d oe ∧ oe.data = .fields vs
section
variable (K : PySem.W.Frag) (cl : String → Addr) (as : As) (H : Hp)
mutual
inductive Sh : V → D → Prop
  | non : Sh .non .non
  | bl (b : Bool) : Sh (.bl b) (.bl b)
  | int (i : Int) : Sh (.int i) (.int i)
  | str (x : Str) : Sh (.str x) (.str x)
  | ref {i : Nat} {a : Addr} : as.c[i]? = some a → Sh (.ref a) (.ref i)
  | lst {a : Addr} {xs : List V} {ds : List D} : FzL K as H a xs → ShL xs ds → Sh (.ref a) (.lst ds)
  | tup {a : Addr} {xs : List V} {ds : List D} : FzT K as H a xs → ShL xs ds → Sh (.ref a) (.tup ds)
  | dct {a : Addr} {kvs : List (Key × V)} {ds : List (Key × D)} : a ∉ as → H a = some (.dK kvs) → kvs.map (·.1) = ds.map (·.1) → ShL (kvs.map (·.2)) (ds.map (·.2)) → Sh (.ref a) (.dct ds)
  | obj {a dx : Addr} {c : String} {fv : List (Str × V)} {fs : List (String × D)} : a ∉ as → H a = some (.ins (cl c) dx fv) → fv.map (·.1) = fs.map (fun p => Str.ofString p.1) → ShL (fv.map (·.2)) (fs.map (·.2)) → Sh (.ref a) (.obj c fs)
  | exc0 {a : Addr} {c : String} : a ∉ as → H a = some (KO (.ref (cl c)) none a) → Sh (.ref a) (.exc c [])
  | exc1 {a dd : Addr} {c : String} {fv : List (Str × V)} {fs : List (String × D)} : a ∉ as → H a = some (KO (.ref (cl c)) (some dd) a) → dd ∉ as → H dd = some (.xd fv) → fv.map (·.1) = fs.map (fun p => Str.ofString p.1) → ShL (fv.map (·.2)) (fs.map (·.2)) → Sh (.ref a) (.exc c fs)
inductive ShL : List V → List D → Prop
  | nil : ShL [] []
  | cons {v : V} {vs : List V} {d : D} {ds : List D} : Sh v d → ShL vs ds → ShL (v :: vs) (d :: ds)
end
/-- a cell stands at a -/
inductive CellAt (a : Addr) : Cell → Prop
  | lst {xs : List V} {ds : List D} : H a = some (.lst xs) → ShL K cl as H xs ds → CellAt a (.lst ds)
  | dct {kvs : List (Key × V)} {ds : List (Key × D)} : H a = some (.dK kvs) → kvs.map (·.1) = ds.map (·.1) → ShL K cl as H (kvs.map (·.2)) (ds.map (·.2)) → CellAt a (.dct ds)
  | lck {kvs : List (Key × V)} {ds : List (Key × D)} {o : Obj} : H a = some (.frz o (.dK kvs)) → kvs.map (·.1) = ds.map (·.1) → ShL K cl as H (kvs.map (·.2)) (ds.map (·.2)) → CellAt a (.lck ds)
  | ins {dx : Addr} {c : String} {fv : List (Str × V)} {fs : List (String × D)} : H a = some (.ins (cl c) dx fv) → fv.map (·.1) = fs.map (fun p => Str.ofString p.1) → ShL K cl as H (fv.map (·.2)) (fs.map (·.2)) → CellAt a (.ins c fs)
end
structure Rel (K : PySem.W.Frag) (cl : String → Addr) (as : As) (H : Hp) (st : Store) : Prop where
  len : as.c.length = st.length
  nd : as.c.Nodup
  cell : ∀ (i : Nat) (a : Addr) (c : Cell), as.c[i]? = some a → st[i]? = some c → CellAt K cl as H a c
  rs : ∀ a ∈ as.r, a ∉ as.c ∧ ∃ o, H a = some o
/-- on from there: what is shown stays shown -/
structure Mv (as : As) (H : Hp) (as' : As) (H' : Hp) : Prop where
  pre : ∀ (i : Nat) (a : Addr), as.c[i]? = some a → as'.c[i]? = some a
  keep : ∀ a o, a ∉ as → H a = some o → H' a = some o ∧ a ∉ as'
structure Le (as : As) (H : Hp) (as' : As) (H' : Hp) : Prop extends Mv as H as' H' where
  res : as'.r = as.r
  resk : ∀ a ∈ as.r, H' a = H a
structure EnvR (K : PySem.W.Frag) (cl : String → Addr) (as : As) (H : Hp) (sg : L2.St) (env : Env) : Prop where
  len : sg.length = env.length
  at_ : ∀ (i : Nat) (d : D), env[i]? = some (some d) → ∃ v, sg[i]? = some (some v) ∧ Sh K cl as H v d
/-- a raised exception -/
def ExcR (K : PySem.W.Frag) (cl : String → Addr) (as : As) (H : Hp) (cls : Value) (d : Option Addr) (c : String) (fs : List (String × D)) : Prop :=
  cls = .ref (cl c) ∧ ((fs = [] ∧ d = none) ∨ ∃ (dd : Addr) (fv : List (Str × V)), d = some dd ∧ dd ∉ as ∧ H dd = some (.xd fv) ∧ fv.map (·.1) = fs.map (fun p => Str.ofString p.1) ∧ ShL K cl as H (fv.map (·.2)) (fs.map (·.2)))

section
variable {K : PySem.W.Frag} {cl : String → Addr} {as as' as2 : As} {H H' H2 : Hp} {st : Store} {a : Addr} {o : HO} {sg : L2.St} {env : Env}
theorem CellAt.here {c : Cell} (h : CellAt K cl as H a c) : ∃ o, H a = some o := by
  cases h <;> exact ⟨_, by assumption⟩
theorem Rel.here (r : Rel K cl as H st) (h : a ∈ as) : ∃ o, H a = some o := by
  rcases h with h | h
  · obtain ⟨i, hi, e⟩ := List.getElem_of_mem h
    have h1 : as.c[i]? = some a := by rw [List.getElem?_eq_getElem hi, e]
    have h2 : i < st.length := by rw [← r.len]; exact hi
    exact (r.cell i a st[i] h1 (List.getElem?_eq_getElem h2)).here
  · exact (r.rs a h).2
theorem Rel.fresh (r : Rel K cl as H st) (h : H a = none) : a ∉ as := fun m => by
  obtain ⟨u, e⟩ := r.here m
  rw [h] at e; cases e
theorem Mv.refl : Mv as H as H := ⟨fun _ _ h => h, fun _ _ h1 h2 => ⟨h2, h1⟩⟩
theorem Le.refl : Le as H as H := ⟨.refl, rfl, fun _ _ => rfl⟩
theorem Mv.trans (l1 : Mv as H as' H') (l2 : Mv as' H' as2 H2) : Mv as H as2 H2 :=
  ⟨fun i a h => l2.pre i a (l1.pre i a h), fun a o h1 h2 => let ⟨e, n⟩ := l1.keep a o h1 h2; l2.keep a o n e⟩
theorem Le.trans (l1 : Le as H as' H') (l2 : Le as' H' as2 H2) : Le as H as2 H2 :=
  ⟨l1.toMv.trans l2.toMv, l2.res.trans l1.res, fun a h => (l2.resk a (by rw [l1.res]; exact h)).trans (l1.resk a h)⟩
theorem Mv.rd {u : HO} (l : Mv as H as' H') (n : a ∉ as) (h : Rd H a u) : a ∉ as' ∧ Rd H' a u := by
  rcases h with h | ⟨o, h⟩
  · exact ⟨(l.keep a _ n h).2, .inl (l.keep a _ n h).1⟩
  · exact ⟨(l.keep a _ n h).2, .inr ⟨o, (l.keep a _ n h).1⟩⟩
theorem Mv.fzL (l : Mv as H as' H') {xs : List V} (h : FzL K as H a xs) : FzL K as' H' a xs := h.elim (fun h => .inl (l.rd h.1 h.2)) .inr
theorem Mv.fzT (l : Mv as H as' H') {xs : List V} (h : FzT K as H a xs) : FzT K as' H' a xs := h.elim (fun h => .inl (l.rd h.1 h.2)) .inr
mutual
theorem Sh.upM (l : Mv as H as' H') : ∀ {v : V} {d : D}, Sh K cl as H v d → Sh K cl as' H' v d
  | _, _, .non => .non
  | _, _, .bl b => .bl b
  | _, _, .int i => .int i
  | _, _, .str x => .str x
  | _, _, .ref h => .ref (l.pre _ _ h)
  | _, _, .lst h r => .lst (l.fzL h) (ShL.upM l r)
  | _, _, .tup h r => .tup (l.fzT h) (ShL.upM l r)
  | _, _, .dct n h e r => .dct (l.keep _ _ n h).2 (l.keep _ _ n h).1 e (ShL.upM l r)
  | _, _, .obj n h e r => .obj (l.keep _ _ n h).2 (l.keep _ _ n h).1 e (ShL.upM l r)
  | _, _, .exc0 n h => .exc0 (l.keep _ _ n h).2 (l.keep _ _ n h).1
  | _, _, .exc1 n h n2 h2 e r => .exc1 (l.keep _ _ n h).2 (l.keep _ _ n h).1 (l.keep _ _ n2 h2).2 (l.keep _ _ n2 h2).1 e (ShL.upM l r)
theorem ShL.upM (l : Mv as H as' H') : ∀ {vs : List V} {ds : List D}, ShL K cl as H vs ds → ShL K cl as' H' vs ds
  | _, _, .nil => .nil
  | _, _, .cons h r => .cons (Sh.upM l h) (ShL.upM l r)
end
theorem EnvR.upM (l : Mv as H as' H') (h : EnvR K cl as H sg env) : EnvR K cl as' H' sg env :=
  ⟨h.len, fun i d e => let ⟨v, e1, s⟩ := h.at_ i d e; ⟨v, e1, s.upM l⟩⟩
theorem Sh.up (l : Le as H as' H') {v : V} {d : D} (h : Sh K cl as H v d) : Sh K cl as' H' v d := h.upM l.toMv
theorem ShL.up (l : Le as H as' H') {vs : List V} {ds : List D} (h : ShL K cl as H vs ds) : ShL K cl as' H' vs ds := h.upM l.toMv
theorem EnvR.up (l : Le as H as' H') (h : EnvR K cl as H sg env) : EnvR K cl as' H' sg env := h.upM l.toMv
theorem ShL.length : ∀ {vs : List V} {ds : List D}, ShL K cl as H vs ds → vs.length = ds.length
  | _, _, .nil => rfl
  | _, _, .cons _ r => congrArg Nat.succ r.length
theorem ShL.get : ∀ {vs : List V} {ds : List D} {i : Nat} {d : D}, ShL K cl as H vs ds → ds[i]? = some d → ∃ v, vs[i]? = some v ∧ Sh K cl as H v d
  | _, _, _, _, .nil, e => by simp at e
  | _, _, 0, _, .cons h _, e => by simp at e; subst e; exact ⟨_, rfl, h⟩
  | _, _, i + 1, d, .cons _ r, e => by
    obtain ⟨v, h1, h2⟩ := ShL.get (i := i) (d := d) r (by simpa using e)
    exact ⟨v, by simpa using h1, h2⟩
theorem ShL.append : ∀ {vs ws : List V} {ds es : List D}, ShL K cl as H vs ds → ShL K cl as H ws es → ShL K cl as H (vs ++ ws) (ds ++ es)
  | _, _, _, _, .nil, s => s
  | _, _, _, _, .cons h r, s => .cons h (ShL.append r s)
theorem ShL.take : ∀ {vs : List V} {ds : List D} (n : Nat), ShL K cl as H vs ds → ShL K cl as H (vs.take n) (ds.take n)
  | _, _, 0, _ => .nil
  | _, _, _ + 1, .nil => .nil
  | _, _, n + 1, .cons h r => .cons h (ShL.take n r)
theorem ShL.drop : ∀ {vs : List V} {ds : List D} (n : Nat), ShL K cl as H vs ds → ShL K cl as H (vs.drop n) (ds.drop n)
  | _, _, 0, r => r
  | _, _, _ + 1, .nil => .nil
  | _, _, n + 1, .cons _ r => ShL.drop n r
theorem ShL.set {v : V} {d : D} (s : Sh K cl as H v d) : ∀ {vs : List V} {ds : List D} (i : Nat), ShL K cl as H vs ds → ShL K cl as H (vs.set i v) (ds.set i d)
  | _, _, _, .nil => .nil
  | _, _, 0, .cons _ r => .cons s r
  | _, _, i + 1, .cons h r => .cons h (ShL.set s i r)
theorem ShL.rev {vs : List V} {ds : List D} (h : ShL K cl as H vs ds) : ShL K cl as H vs.reverse ds.reverse := by
  induction h using ShL.rec (motive_1 := fun _ _ _ => True) with
  | nil => exact .nil
  | cons h r _ ih => rw [List.reverse_cons, List.reverse_cons]; exact ih.append (.cons h .nil)
  | _ => trivial
theorem ShL.map1 {vs : List V} {ds : List D} (h : ShL K cl as H vs ds) : ∀ {i : Nat} {v : V}, vs[i]? = some v → ∃ d, ds[i]? = some d ∧ Sh K cl as H v d := by
  intro i v e
  have hi : i < vs.length := (List.getElem?_eq_some_iff.mp e).1
  have hj : i < ds.length := by rw [← h.length]; exact hi
  obtain ⟨w, h1, h2⟩ := h.get (List.getElem?_eq_getElem hj)
  rw [e] at h1; cases h1
  exact ⟨_, List.getElem?_eq_getElem hj, h2⟩
/-- a new object that is no cell -/
theorem Mv.new {p : Addr} (h : H p = none) : Mv as H as (upd H p o) :=
  ⟨fun _ _ h => h, fun a u n e => ⟨by rw [upd_ne (ne_of_none e h)]; exact e, n⟩⟩
theorem Le.new {p : Addr} (r : Rel K cl as H st) (h : H p = none) : Le as H as (upd H p o) :=
  ⟨.new h, rfl, fun a m => upd_ne (fun e => by obtain ⟨u, z⟩ := (r.rs a m).2; rw [e, h] at z; cases z)⟩
theorem CellAt.mono {c : Cell} (l : Mv as H as' H') (e : ∀ o, H a = some o → H' a = some o) (h : CellAt K cl as H a c) : CellAt K cl as' H' a c := by
  cases h with
  | lst h1 h2 => exact .lst (e _ h1) (h2.upM l)
  | dct h1 h2 h3 => exact .dct (e _ h1) h2 (h3.upM l)
  | lck h1 h2 h3 => exact .lck (e _ h1) h2 (h3.upM l)
  | ins h1 h2 h3 => exact .ins (e _ h1) h2 (h3.upM l)
theorem Rel.new (r : Rel K cl as H st) {p : Addr} (h : H p = none) : Rel K cl as (upd H p o) st :=
  ⟨r.len, r.nd, fun i a c h1 h2 => (r.cell i a c h1 h2).mono (Mv.new h) fun u e => by rw [upd_ne (ne_of_none e h)]; exact e,
    fun a m => ⟨(r.rs a m).1, by obtain ⟨u, e⟩ := (r.rs a m).2; exact ⟨u, by rw [upd_ne (ne_of_none e h)]; exact e⟩⟩⟩
end

/-! ### readings -/
section
variable (K : PySem.W.Frag) (cl : String → Addr) (W : WX)
/-- what must hold of an end, so that Q holds behind it -/
def Wt (sg : L2.St) (as : As) (H : Hp) (Q : VK) : Res D → Prop
  | .ok d st' => ∀ as' H' v, Le as H as' H' → Rel K cl as' H' st' → Sh K cl as' H' v d → Q v H'
  | .exn c fs st' => ∀ as' H' cls d, Le as H as' H' → Rel K cl as' H' st' → ExcR K cl as' H' cls d c fs → W cls d sg H'
  | .stuck => False
def Wts (sg : L2.St) (as : As) (H : Hp) (Q : List V → Hp → Prop) : Res (List D) → Prop
  | .ok ds st' => ∀ as' H' vs, Le as H as' H' → Rel K cl as' H' st' → ShL K cl as' H' vs ds → Q vs H'
  | .exn c fs st' => ∀ as' H' cls d, Le as H as' H' → Rel K cl as' H' st' → ExcR K cl as' H' cls d c fs → W cls d sg H'
  | .stuck => False
def tF (f : Ex) : TE := fun sg H Q => ∃ (as : As) (st : Store) (env : Env), Rel K cl as H st ∧ EnvR K cl as H sg env ∧ Wt K cl W sg as H Q (f env st)
def tFs (f : Exs) : TA := fun sg H Q => ∃ (as : As) (st : Store) (env : Env), Rel K cl as H st ∧ EnvR K cl as H sg env ∧ Wts K cl W sg as H Q (f env st)
/-- of a test: the code tells a truth -/
def Wtt (sg : L2.St) (as : As) (H : Hp) (Q : Bool → Hp → Prop) : Res D → Prop
  | .ok (.bl b) st' => ∀ as' H', Le as H as' H' → Rel K cl as' H' st' → Q b H'
  | .ok _ _ => False
  | .exn c fs st' => ∀ as' H' cls d, Le as H as' H' → Rel K cl as' H' st' → ExcR K cl as' H' cls d c fs → W cls d sg H'
  | .stuck => False
def tFt (f : Ex) : TT := fun sg H Q => ∃ (as : As) (st : Store) (env : Env), Rel K cl as H st ∧ EnvR K cl as H sg env ∧ Wtt K cl W sg as H Q (f env st)
/-- of a statement -/
def Wf (as : As) (H : Hp) (Dn : Ends) : Flow → Prop
  | .nx env' st' => ∀ as' H' sg', Le as H as' H' → Rel K cl as' H' st' → EnvR K cl as' H' sg' env' → Dn.nx sg' H'
  | .bk env' st' => ∀ as' H' sg', Le as H as' H' → Rel K cl as' H' st' → EnvR K cl as' H' sg' env' → Dn.bk sg' H'
  | .ct env' st' => ∀ as' H' sg', Le as H as' H' → Rel K cl as' H' st' → EnvR K cl as' H' sg' env' → Dn.ct sg' H'
  | .rt d st' => ∀ as' H' v, Le as H as' H' → Rel K cl as' H' st' → Sh K cl as' H' v d → Dn.rt v H'
  | .ex c fs env' st' => ∀ as' H' sg' cls d, Le as H as' H' → Rel K cl as' H' st' → EnvR K cl as' H' sg' env' → ExcR K cl as' H' cls d c fs → W cls d sg' H'
  | .stuck => False
def tS (f : Sm) : TS := fun Dn sg H => ∃ (as : As) (st : Store) (env : Env), Rel K cl as H st ∧ EnvR K cl as H sg env ∧ Wf K cl W as H Dn (f env st)
end
section
variable {K : PySem.W.Frag} {cl : String → Addr} {W : WX} {sg : L2.St} {as as1 : As} {H H1 : Hp} {Q : VK}
theorem Wt.up {r : Res D} (l : Le as H as1 H1) (h : Wt K cl W sg as H Q r) : Wt K cl W sg as1 H1 Q r := by
  cases r with
  | ok d s => exact fun as' H' v l' r' x => h as' H' v (l.trans l') r' x
  | exn c fs s => exact fun as' H' cls d l' r' x => h as' H' cls d (l.trans l') r' x
  | stuck => exact h
theorem Wts.up {Q : List V → Hp → Prop} {r : Res (List D)} (l : Le as H as1 H1) (h : Wts K cl W sg as H Q r) : Wts K cl W sg as1 H1 Q r := by
  cases r with
  | ok d s => exact fun as' H' v l' r' x => h as' H' v (l.trans l') r' x
  | exn c fs s => exact fun as' H' cls d l' r' x => h as' H' cls d (l.trans l') r' x
  | stuck => exact h
/-- one expression, then what follows -/
theorem Wt.bind {r : Res D} {k : D → Store → Res D} {Q' : VK} (h : Wt K cl W sg as H Q (r.bind k))
    (hk : ∀ d s as1 H1 v, r = .ok d s → Le as H as1 H1 → Rel K cl as1 H1 s → Sh K cl as1 H1 v d → Wt K cl W sg as1 H1 Q (k d s) → Q' v H1) : Wt K cl W sg as H Q' r := by
  cases r with
  | ok d s => exact fun as1 H1 v l r1 x => hk d s as1 H1 v rfl l r1 x (Wt.up l h)
  | exn c fs s => exact h
  | stuck => exact h
theorem Wt.binds {r : Res (List D)} {k : List D → Store → Res D} {Q' : List V → Hp → Prop} (h : Wt K cl W sg as H Q (r.bind k))
    (hk : ∀ d s as1 H1 v, r = .ok d s → Le as H as1 H1 → Rel K cl as1 H1 s → ShL K cl as1 H1 v d → Wt K cl W sg as1 H1 Q (k d s) → Q' v H1) : Wts K cl W sg as H Q' r := by
  cases r with
  | ok d s => exact fun as1 H1 v l r1 x => hk d s as1 H1 v rfl l r1 x (Wt.up l h)
  | exn c fs s => exact h
  | stuck => exact h
theorem Wts.bind {r : Res D} {k : D → Store → Res (List D)} {Q : List V → Hp → Prop} {Q' : VK} (h : Wts K cl W sg as H Q (r.bind k))
    (hk : ∀ d s as1 H1 v, r = .ok d s → Le as H as1 H1 → Rel K cl as1 H1 s → Sh K cl as1 H1 v d → Wts K cl W sg as1 H1 Q (k d s) → Q' v H1) : Wt K cl W sg as H Q' r := by
  cases r with
  | ok d s => exact fun as1 H1 v l r1 x => hk d s as1 H1 v rfl l r1 x (Wts.up l h)
  | exn c fs s => exact h
  | stuck => exact h
theorem Wts.binds {r : Res (List D)} {k : List D → Store → Res (List D)} {Q Q' : List V → Hp → Prop} (h : Wts K cl W sg as H Q (r.bind k))
    (hk : ∀ d s as1 H1 v, r = .ok d s → Le as H as1 H1 → Rel K cl as1 H1 s → ShL K cl as1 H1 v d → Wts K cl W sg as1 H1 Q (k d s) → Q' v H1) : Wts K cl W sg as H Q' r := by
  cases r with
  | ok d s => exact fun as1 H1 v l r1 x => hk d s as1 H1 v rfl l r1 x (Wts.up l h)
  | exn c fs s => exact h
  | stuck => exact h
theorem Wtt.up {Q : Bool → Hp → Prop} {r : Res D} (l : Le as H as1 H1) (h : Wtt K cl W sg as H Q r) : Wtt K cl W sg as1 H1 Q r := by
  cases r with
  | ok d s =>
    cases d with
    | bl b => exact fun as' H' l' r' => h as' H' (l.trans l') r'
    | _ => exact h
  | exn c fs s => exact fun as' H' cls d l' r' x => h as' H' cls d (l.trans l') r' x
  | stuck => exact h
theorem Wtt.wt {Q : Bool → Hp → Prop} {r : Res D} (h : Wtt K cl W sg as H Q r) : Wt K cl W sg as H (fun v H' => ∃ c, v = .bl c ∧ Q c H') r := by
  cases r with
  | ok d s =>
    cases d with
    | bl b => exact fun as' H' v l r' x => by cases x; exact ⟨b, rfl, h as' H' l r'⟩
    | _ => exact h.elim
  | exn c fs s => exact h
  | stuck => exact h
theorem Wtt.bind {r : Res D} {k : D → Store → Res D} {Q : Bool → Hp → Prop} {Q' : VK} (h : Wtt K cl W sg as H Q (r.bind k))
    (hk : ∀ d s as1 H1 v, r = .ok d s → Le as H as1 H1 → Rel K cl as1 H1 s → Sh K cl as1 H1 v d → Wtt K cl W sg as1 H1 Q (k d s) → Q' v H1) : Wt K cl W sg as H Q' r := by
  cases r with
  | ok d s => exact fun as1 H1 v l r1 x => hk d s as1 H1 v rfl l r1 x (Wtt.up l h)
  | exn c fs s => exact h
  | stuck => exact h
/-- a truth, then what follows -/
theorem Wt.bindB {r : Res D} {k : D → Store → Res D} {Q' : Bool → Hp → Prop} (h : Wt K cl W sg as H Q (r.bind k)) (hn : ∀ d s, (∀ b, d ≠ .bl b) → k d s = .stuck)
    (hk : ∀ b s as1 H1, r = .ok (.bl b) s → Le as H as1 H1 → Rel K cl as1 H1 s → Wt K cl W sg as1 H1 Q (k (.bl b) s) → Q' b H1) : Wtt K cl W sg as H Q' r := by
  cases r with
  | ok d s =>
    cases d with
    | bl b => exact fun as1 H1 l r1 => hk b s as1 H1 rfl l r1 (Wt.up l h)
    | _ =>
      have h : Wt K cl W sg as H Q (k _ s) := h
      rw [hn _ s (fun b => by intro z; cases z)] at h
      exact h
  | exn c fs s => exact h
  | stuck => exact h
theorem Wtt.bindB {r : Res D} {k : D → Store → Res D} {Q Q' : Bool → Hp → Prop} (h : Wtt K cl W sg as H Q (r.bind k)) (hn : ∀ d s, (∀ b, d ≠ .bl b) → k d s = .stuck)
    (hk : ∀ b s as1 H1, r = .ok (.bl b) s → Le as H as1 H1 → Rel K cl as1 H1 s → Wtt K cl W sg as1 H1 Q (k (.bl b) s) → Q' b H1) : Wtt K cl W sg as H Q' r := by
  cases r with
  | ok d s =>
    cases d with
    | bl b => exact fun as1 H1 l r1 => hk b s as1 H1 rfl l r1 (Wtt.up l h)
    | _ =>
      have h : Wtt K cl W sg as H Q (k _ s) := h
      rw [hn _ s (fun b => by intro z; cases z)] at h
      exact h
  | exn c fs s => exact h
  | stuck => exact h
theorem Wf.up {Dn : Ends} {r : Flow} (l : Le as H as1 H1) (h : Wf K cl W as H Dn r) : Wf K cl W as1 H1 Dn r := by
  cases r with
  | nx e s => exact fun as' H' sg' l' r' x => h as' H' sg' (l.trans l') r' x
  | bk e s => exact fun as' H' sg' l' r' x => h as' H' sg' (l.trans l') r' x
  | ct e s => exact fun as' H' sg' l' r' x => h as' H' sg' (l.trans l') r' x
  | rt d s => exact fun as' H' v l' r' x => h as' H' v (l.trans l') r' x
  | ex c fs e s => exact fun as' H' sg' cls d l' r' x y => h as' H' sg' cls d (l.trans l') r' x y
  | stuck => exact h
end
/-- an expression of the text is the code f -/
abbrev FE (X : Cx) (cl : String → Addr) (W : WX) (e : Expr) (f : Ex) : Prop := PE X e (tF X.K cl W f)
abbrev FT (X : Cx) (cl : String → Addr) (W : WX) (e : Expr) (f : Ex) : Prop := PT X e (tFt X.K cl W f)
abbrev FW (X : Cx) (cl : String → Addr) (W : WX) (e : Expr) (f : Ex) : Prop := PW X e (tFt X.K cl W f)
abbrev FS (X : Cx) (cl : String → Addr) (W : WX) (s : Stmt) (f : Sm) : Prop := PS X s (tS X.K cl W f)
abbrev FSs (X : Cx) (cl : String → Addr) (W : WX) (s : List Stmt) (f : Sm) : Prop := PSs X s (tS X.K cl W f)

section
variable {X : Cx} {cl : String → Addr} {W : WX} {e : Expr} {es : List Expr} {st : Stmt} {sts : List Stmt}
theorem PE.w {t t' : TE} (h : PE X e t) (i : ∀ sg H Q, t' sg H Q → t sg H Q) : PE X e t' := ⟨fun pins s sg H Q I q => h.run pins s sg H Q I (i _ _ _ q)⟩
theorem PT.w {t t' : TT} (h : PT X e t) (i : ∀ sg H Q, t' sg H Q → t sg H Q) : PT X e t' := ⟨fun pins s sg H Q I q => h.run pins s sg H Q I (i _ _ _ q)⟩
theorem PW.w {t t' : TT} (h : PW X e t) (i : ∀ sg H Q, t' sg H Q → t sg H Q) : PW X e t' := ⟨fun wh pins s sg H Q I q => h.run wh pins s sg H Q I (i _ _ _ q)⟩
theorem PS.w {t t' : TS} (h : PS X st t) (i : ∀ Dn sg H, t' Dn sg H → t Dn sg H) : PS X st t' := ⟨fun pins s sg H Dn I q => h.run pins s sg H Dn I (i _ _ _ q)⟩
theorem PSs.w {t t' : TS} (h : PSs X sts t) (i : ∀ Dn sg H, t' Dn sg H → t Dn sg H) : PSs X sts t' := ⟨fun pins s sg H Dn I q => h.run pins s sg H Dn I (i _ _ _ q)⟩
end
end F3

/-! F3, part b: defs and calls of defs. -/
namespace F3
open PySem PySem.Spec PyProof.Rows L2

/-- as FnOk, where no repr is under way -/
structure FnG (P : Program) (w : World) (K : PySem.W.Frag) (mg : Str → Option Value) (base : Heap) (k : Nat) (f : Addr) (fd : FuncData) (ps : List Str) (sp : Sp) : Prop where
  len : ∀ vs H Q E, sp vs H Q E → vs.length = ps.length
  run : ∀ (A : Around) (outer : List PySem.Env) (s : Shared) (H : Hp) (args : Args) (us : List Value) (vs : List V) (Q : VK) (E : XK), A.guards = some [] → Room k A → Env0 P w K mg base A outer s H → BindsTo s fd args (ps.zip us) → Vals vs us → sp vs H Q E →
    codeAny (model P w) A (.call (.ref f) args) (CR (L2.CX P w) outer P w H s Q E) s
/-- a body may call by j more frames, and nothing is being shown -/
structure Rm (j : Nat) (X : Cx) : Prop where
  rm : Room j X.A
  gd : X.A.guards = some []
theorem Rm.mono {i j : Nat} {X : Cx} (r : Rm j X) (h : i ≤ j) : Rm i X := ⟨r.rm.mono h, r.gd⟩

section
variable {P : Program} {w : World} {K : PySem.W.Frag} {mg : Str → Option Value} {base : Heap} {cl : String → Addr}
/-- a def by its body -/
theorem FunD.okG {x qual : Str} {params : Arguments} {body : List Stmt} {scope : Scope} {dvs : List V} {kws : List (Str × V)} {f : Addr} {fd : FuncData} {N ps : List Str} {k : Nat} {sp : Sp}
    (F : FunD K x qual params body scope dvs kws f fd) (S : FnScope N ps scope) (len : ∀ vs H Q E, sp vs H Q E → vs.length = ps.length)
    (hb : ∀ (cdv : Value) (A : Around) (outer : List PySem.Env) (s : Shared) (H : Hp) (vs : List V) (Q : VK) (E : XK), Rm k (cxOf (L2.CX P w) P w K mg base N qual scope f cdv A outer s H E) → sp vs H Q E →
      ∃ t, PSs (cxOf (L2.CX P w) P w K mg base N qual scope f cdv A outer s H E) body t ∧ t { nx := fun _ H' => Q .non H', rt := Q } (L2.start N vs) H) : FnG P w K mg base (k + 1) f fd ps sp := by
  obtain ⟨oc, od, dV, kV, doc, pm, an, cdv, ct, osl, rfl, lk, hcd, _, _⟩ := F.ex
  refine ⟨len, fun A outer s H args us vs Q E hg hr e0 hbi r hsp => ?_⟩
  have hl := len _ _ _ _ hsp
  have KX : K.In s.heap := e0.mod.kin.keeps fun b o e => (e0.bs b o e).1
  have lim : s.heap.NoLimit := e0.mod.nolimit.keeps fun b o e => (e0.bs b o e).1
  refine codeAny_call_function hr.depth (KX _ _ lk) rfl S.co S.gen rfl (PySem.W.codeRec_of KX hcd) (hbi _ _ _ _ ?_)
  refine wpAny_newFunctionEnv_cells S.kind (fun y hy => ?_) fun env he s1 x => ?_
  · obtain ⟨n, v⟩ := y
    rcases S.par n (List.of_mem_zip hy).1 with q | q
    · exact .inl q
    · exact .inr ⟨q, PySem.W.cellsFrom_some _ _ _ (.inl q)⟩
  subst he
  refine ⟨lim.keeps x.toInCall.keep, codeAny_func ?_⟩
  let X : Cx := cxOf (L2.CX P w) P w K mg base N qual scope f cdv A outer s H E
  have I : L2.Inv X [] (L2.start N vs) H s1 := inv_start S hr.hd e0 hl r x
  obtain ⟨t, ht, hq⟩ := hb cdv A outer s H vs Q E ⟨hr.deeper _, hg⟩ hsp
  refine wpAny_mono (ht.run [] s1 (L2.start N vs) H _ I hq) (fun fl s' hs => ?_) fun e s' hs => hs
  cases fl with
  | ret u =>
    obtain ⟨v, sg, H', J, rv, q⟩ := hs
    exact ⟨v, H', J.os, J.bare, J.base, J.hok, rv, q⟩
  | next =>
    obtain ⟨sg, H', J, q⟩ := hs
    exact ⟨.non, H', J.os, J.bare, J.base, J.hok, rfl, q⟩
  | brk => obtain ⟨_, _, _, q⟩ := hs; exact q.elim
  | cont => obtain ⟨_, _, _, q⟩ := hs; exact q.elim

/-! ### what a def is worth -/
/-- n values in, as m tells -/
def spF (K : PySem.W.Frag) (cl : String → Addr) (n : Nat) (m : List D → Store → Res D) : Sp := fun vs H Q E => ∃ (as : As) (st : Store) (ds : List D), ds.length = n ∧ Rel K cl as H st ∧ ShL K cl as H vs ds ∧ Wt K cl (fun c d _ H' => E c d H') [] as H Q (m ds st)
/-- a body as a def of n parameters and m further names -/
def fn (m : Nat) (f : Sm) : List D → Store → Res D := fun ds st => match f (ds.map some ++ List.replicate m none) st with
  | .rt d st' => .ok d st'
  | .nx _ st' => .ok .non st'
  | .ex c fs _ st' => .exn c fs st'
  | _ => .stuck
theorem env_start {as : As} {H : Hp} {vs : List V} {ds : List D} {N : List Str} {m : Nat} (h : ShL K cl as H vs ds) (e : N.length - vs.length = m) : EnvR K cl as H (L2.start N vs) (ds.map some ++ List.replicate m none) := by
  refine ⟨?_, fun i d hd => ?_⟩
  · unfold L2.start
    rw [List.length_append, List.length_append, List.length_map, List.length_map, List.length_replicate, List.length_replicate, h.length, ← e, h.length]
  · unfold L2.start
    by_cases hi : i < ds.length
    · rw [List.getElem?_append_left (by rw [List.length_map]; exact hi), List.getElem?_map] at hd
      rw [List.getElem?_append_left (by rw [List.length_map, h.length]; exact hi), List.getElem?_map]
      cases q : ds[i]? with
      | none => rw [q] at hd; cases hd
      | some d' =>
        rw [q] at hd
        cases hd
        obtain ⟨v, h1, h2⟩ := h.get q
        exact ⟨v, by rw [h1]; rfl, h2⟩
    · rw [List.getElem?_append_right (by rw [List.length_map]; omega), List.getElem?_replicate] at hd
      split at hd <;> cases hd
/-- the body's code is the def's -/
theorem FunD.okF {x qual : Str} {params : Arguments} {body : List Stmt} {scope : Scope} {dvs : List V} {kws : List (Str × V)} {f : Addr} {fd : FuncData} {N ps : List Str} {k m : Nat} {b : Sm}
    (F : FunD K x qual params body scope dvs kws f fd) (S : FnScope N ps scope) (hm : N.length - ps.length = m)
    (hb : ∀ (cdv : Value) (A : Around) (outer : List PySem.Env) (s : Shared) (H : Hp) (E : XK), Rm k (cxOf (L2.CX P w) P w K mg base N qual scope f cdv A outer s H E) →
      FSs (cxOf (L2.CX P w) P w K mg base N qual scope f cdv A outer s H E) cl (fun c d _ H' => E c d H') body b) : FnG P w K mg base (k + 1) f fd ps (spF K cl ps.length (fn m b)) := by
  refine FunD.okG F S (fun vs H Q E h => ?_) fun cdv A outer s H vs Q E hr hsp => ?_
  · obtain ⟨as, st, ds, hl, _, hs, _⟩ := h
    rw [hs.length, hl]
  · refine ⟨_, hb cdv A outer s H E hr, ?_⟩
    obtain ⟨as, st, ds, hl, r, hs, hq⟩ := hsp
    refine ⟨as, st, ds.map some ++ List.replicate m none, r, env_start hs (by rw [hs.length, hl]; exact hm), ?_⟩
    unfold fn at hq
    cases e : b (ds.map some ++ List.replicate m none) st with
    | nx env' st' =>
      rw [e] at hq
      exact fun as' H' sg' l r' _ => hq as' H' .non l r' .non
    | rt d st' =>
      rw [e] at hq
      exact hq
    | bk env' st' => rw [e] at hq; exact hq.elim
    | ct env' st' => rw [e] at hq; exact hq.elim
    | ex c fs env' st' =>
      rw [e] at hq
      exact fun as' H' sg' cls d l r' _ x => hq as' H' cls d l r' x
    | stuck => rw [e] at hq; exact hq.elim
end

/-! ### arguments -/
structure FA (X : Cx) (cl : String → Addr) (W : WX) (n : Nat) (es : List Expr) (f : Exs) : Prop where
  pa : PA X es (tFs X.K cl W f)
  len : ∀ env st ds st', f env st = .ok ds st' → ds.length = n
structure FK (X : Cx) (cl : String → Addr) (W : WX) (n : Nat) (ks : List Keyword) (f : Exs) : Prop where
  pk : PK X ks (tFs X.K cl W f)
  len : ∀ env st ds st', f env st = .ok ds st' → ds.length = n
def aNil : Exs := fun _ st => .ok [] st
def aCons (f : Ex) (g : Exs) : Exs := fun env st => (f env st).bind fun d s1 => (g env s1).bind fun ds s2 => .ok (d :: ds) s2

section
variable {X : Cx} {cl : String → Addr} {W : WX} {e o : Expr} {es : List Expr} {f : Ex} {g : Exs} {n : Nat}
theorem tfs_nil : ∀ sg H Q, tFs X.K cl W aNil sg H Q → tNil sg H Q := fun sg H Q ⟨as, st, env, r, _, q⟩ => q as H [] Le.refl r .nil
theorem tfs_cons : ∀ sg H Q, tFs X.K cl W (aCons f g) sg H Q → tCons (tF X.K cl W f) (tFs X.K cl W g) sg H Q := fun sg H Q ⟨as, st, env, r, er, q⟩ =>
  ⟨as, st, env, r, er, Wts.bind q fun d s1 as1 H1 v _ l1 r1 x1 q1 => ⟨as1, s1, env, r1, er.up l1, Wts.binds q1 fun ds s2 as2 H2 vs _ l2 r2 x2 q2 => q2 as2 H2 (v :: vs) Le.refl r2 (.cons (x1.up l2) x2)⟩⟩
theorem PAs.w {t t' : TA} (h : PA X es t) (i : ∀ sg H Q, t' sg H Q → t sg H Q) : PA X es t' := ⟨fun pos pins s sg H Q I q => h.run pos pins s sg H Q I (i _ _ _ q)⟩
theorem PKs.w {es : List Keyword} {t t' : TA} (h : PK X es t) (i : ∀ sg H Q, t' sg H Q → t sg H Q) : PK X es t' := ⟨fun pos pins s sg H Q I q => h.run pos pins s sg H Q I (i _ _ _ q)⟩
theorem bind_ok {A B : Type} {r : Res A} {k : A → Store → Res B} {b : B} {s : Store} (h : r.bind k = .ok b s) : ∃ a s1, r = .ok a s1 ∧ k a s1 = .ok b s := by
  cases r with
  | ok a s1 => exact ⟨a, s1, rfl, h⟩
  | exn c fs s1 => cases h
  | stuck => cases h
theorem aNil_len : ∀ env st ds st', aNil env st = .ok ds st' → ds.length = 0 := fun env st ds st' h => by cases h; rfl
theorem aCons_len (hg : ∀ env st ds st', g env st = .ok ds st' → ds.length = n) : ∀ env st ds st', aCons f g env st = .ok ds st' → ds.length = n + 1 := fun env st ds st' h => by
  obtain ⟨a, s1, _, h⟩ := bind_ok h
  obtain ⟨b, s2, h2, h⟩ := bind_ok h
  cases h
  exact congrArg Nat.succ (hg _ _ _ _ h2)
theorem fa_nil : FA X cl W 0 [] aNil := ⟨PAs.w pa_nil tfs_nil, aNil_len⟩
theorem fa_cons (ha : FE X cl W e f) (hr : FA X cl W n es g) (hs : starEach (e :: es) X.env = (false, eval e X.env) :: starEach es X.env := by rfl) : FA X cl W (n + 1) (e :: es) (aCons f g) :=
  ⟨PAs.w (pa_cons ha hr.pa hs) tfs_cons, aCons_len hr.len⟩
theorem fk_nil : FK X cl W 0 [] aNil := ⟨PKs.w pk_nil tfs_nil, aNil_len⟩
theorem fk_cons {nm : Option Str} {kpos : Pos} {kws : List Keyword} (ha : FE X cl W e f) (hr : FK X cl W n kws g) : FK X cl W (n + 1) (⟨nm, e, kpos⟩ :: kws) (aCons f g) :=
  ⟨PKs.w (pk_cons ha hr.pk) tfs_cons, aCons_len hr.len⟩
end

/-! ### how arguments come to parameters -/
structure KB (K : PySem.W.Frag) (cl : String → Addr) (fd : FuncData) (ps : List Str) (n : Nat) (ks : List Str) (gD : List D → List D → List D) : Prop where
  to : ∀ (s : Shared) (us ws : List Value), K.In s.heap → us.length = n → ws.length = ks.length → ∃ xs : List Value, BindsTo s fd ⟨us, ks.zip ws⟩ (ps.zip xs) ∧
    ∀ (as : As) (H : Hp) (st : Store) (vs zs : List V) (ds es : List D), Rel K cl as H st → Vals vs us → Vals zs ws → ShL K cl as H vs ds → ShL K cl as H zs es → ∃ ys, Vals ys xs ∧ ShL K cl as H ys (gD ds es) ∧ (gD ds es).length = ps.length

section
variable {X : Cx} {cl : String → Addr} {W : WX} {k n nk : Nat} {f C : Addr} {fd : FuncData} {ps ks : List Str} {gD : List D → List D → List D} {m : List D → Store → Res D} {x : Str} {p pos apos : Pos} {e o : Expr} {es : List Expr} {kws : List Keyword} {fa fk : Exs} {fo : Ex}
/-- the callee runs, from code on data -/
theorem run_F {pins : List (Addr × Obj)} {sg : L2.St} {H : Hp} {s : Shared} {Q : VK} {us ws : List Value} {vs zs : List V} {as : As} {st : Store} {ds es : List D}
    (F : FnG X.prog X.w X.K X.mg X.base k f fd ps (spF X.K cl ps.length m)) (hr : Rm k X) (hb : KB X.K cl fd ps n ks gD) (tk : Takes X W) (I : L2.Inv X pins sg H s) (r : Vals vs us) (rz : Vals zs ws)
    (hn : us.length = n) (hk : ws.length = ks.length) (rl : Rel X.K cl as H st) (s1 : ShL X.K cl as H vs ds) (s2 : ShL X.K cl as H zs es)
    (h : Wt X.K cl W sg as H Q (m (gD ds es) st)) : wpAny (model X.prog X.w) X.A (call (.ref f) us (ks.zip ws)) (EP X pins sg Q) X.xe s := by
  obtain ⟨xs, hbi, hsh⟩ := hb.to s us ws I.kIn hn hk
  obtain ⟨ys, ry, sy, ly⟩ := hsh as H st vs zs ds es rl r rz s1 s2
  refine wpAny_call (codeAny_mono (F.run X.A X.stack s H ⟨us, ks.zip ws⟩ xs ys Q (fun cls d H' => W cls d sg H') hr.gd hr.rm I.env0 hbi ry ⟨as, st, gD ds es, ly, rl, sy, ?_⟩) fun r' s' hq => ?_)
  · revert h
    cases m (gD ds es) st <;> exact fun h => h
  · cases r' with
    | error e => exact tk e s' (XE.of_call I (fun _ _ _ z => z) hq)
    | ok fl =>
      cases fl with
      | ret u => exact I.after hq
      | next => exact False.elim hq
      | brk => exact False.elim hq
      | cont => exact False.elim hq
/-- a call by its arguments' code -/
def eCall (m : List D → Store → Res D) (gD : List D → List D → List D) (fa fk : Exs) : Ex := fun env st => (fa env st).bind fun ds s1 => (fk env s1).bind fun es s2 => m (gD ds es) s2
/-- what is handed on -/
def AfterArgs (X : Cx) (cl : String → Addr) (W : WX) (sg : L2.St) (Q : VK) (n nk : Nat) (m : List D → List D → Store → Res D) (vs zs : List V) (H : Hp) : Prop :=
  vs.length = n ∧ zs.length = nk ∧ ∃ as st ds es, Rel X.K cl as H st ∧ ShL X.K cl as H vs ds ∧ ShL X.K cl as H zs es ∧ Wt X.K cl W sg as H Q (m ds es st)
theorem call_args {ks' : List Keyword} {es' : List Expr} {m2 : List D → List D → Store → Res D} {sg : L2.St} {H : Hp} {Q : VK} (ha : FA X cl W n es' fa) (hk : FK X cl W nk ks' fk)
    (h : tF X.K cl W (fun env st => (fa env st).bind fun ds s1 => (fk env s1).bind fun es s2 => m2 ds es s2) sg H Q) :
    tFs X.K cl W fa sg H fun vs H1 => tFs X.K cl W fk sg H1 fun zs H2 => AfterArgs X cl W sg Q n nk m2 vs zs H2 := by
  obtain ⟨as, st, env, r, er, q⟩ := h
  exact ⟨as, st, env, r, er, Wt.binds q fun ds s1 as1 H1 vs e1 l1 r1 x1 q1 => ⟨as1, s1, env, r1, er.up l1, Wt.binds q1 fun es s2 as2 H2 zs e2 l2 r2 x2 q2 =>
    ⟨by rw [x1.length]; exact ha.len _ _ _ _ e1, by rw [x2.length]; exact hk.len _ _ _ _ e2, as2, s2, ds, es, r2, x1.up l2, x2, q2⟩⟩⟩
/-- f(e, .., k = v, ..) -/
theorem fe_callK (F : FnG X.prog X.w X.K X.mg X.base k f fd ps (spF X.K cl ps.length m)) (hr : Rm k X) (tk : Takes X W) (hg : Gl X x) (hm : X.mg x = some (.ref f)) (hk : PySem.W.keepIn X.K (.ref f) = true) (hb : KB X.K cl fd ps n ks gD)
    (ha : FA X cl W n (e :: es) fa) (hkw : FK X cl W ks.length kws fk) (hall : (backToKw pos (keywordEach kws X.env)).all (·.1.isSome) = true := by rfl) (hks : (backToKw pos (keywordEach kws X.env)).filterMap (·.1) = ks := by rfl)
    (hdb : (x == ("__debug__" : Str)) = false := by decide) (he : starEach (e :: es) X.env = (false, eval e X.env) :: starEach es X.env := by rfl)
    (hpl : ((backTo pos (starEach (e :: es) X.env)).any (·.1) || (backToKw pos (keywordEach kws X.env)).any (·.1.isNone)) = false := by rfl) :
    FE X cl W (.Call (.Name x p) (e :: es) kws pos) (eCall m gD fa fk) := by
  refine ⟨fun pins s sg H Q I h => ?_⟩
  refine wpAny_Call_Name_kw (ld_glob I hg hm ?_ hdb)
  refine PySem.W.callWith_KW (h₀ := X.base) I.ok.mod.kin hk hall (thn (ha.pa.run pos pins s sg H _ I (call_args (m2 := fun ds es st => m (gD ds es) st) ha hkw h)) fun us s1 ⟨vs, H1, I1, r1, q1⟩ => ?_) hpl he
  refine thn (hkw.pk.run pos pins s1 sg H1 _ I1 q1) fun ws s2 ⟨zs, H2, I2, rz, l1, l2, as, st, ds, es', rl, h1, h2, q⟩ => ⟨I2.kIn, ?_⟩
  rw [hks]
  exact run_F F hr hb tk I2 r1 rz (r1.length.symm.trans l1) (rz.length.symm.trans l2) rl h1 h2 q
/-- f(k = v, ..) -/
theorem fe_callK0 (F : FnG X.prog X.w X.K X.mg X.base k f fd ps (spF X.K cl ps.length m)) (hr : Rm k X) (tk : Takes X W) (hg : Gl X x) (hm : X.mg x = some (.ref f)) (hk : PySem.W.keepIn X.K (.ref f) = true) (hb : KB X.K cl fd ps 0 ks gD)
    (hkw : FK X cl W ks.length kws fk) (hall : (backToKw pos (keywordEach kws X.env)).all (·.1.isSome) = true := by rfl) (hks : (backToKw pos (keywordEach kws X.env)).filterMap (·.1) = ks := by rfl)
    (hdb : (x == ("__debug__" : Str)) = false := by decide)
    (hpl : ((backTo pos (starEach [] X.env)).any (·.1) || (backToKw pos (keywordEach kws X.env)).any (·.1.isNone)) = false := by rfl) :
    FE X cl W (.Call (.Name x p) [] kws pos) (eCall m gD aNil fk) := by
  refine ⟨fun pins s sg H Q I h => ?_⟩
  refine wpAny_Call_Name_kw (ld_glob I hg hm ?_ hdb)
  have h' := tfs_nil _ _ _ (call_args (m2 := fun ds es st => m (gD ds es) st) fa_nil hkw h)
  refine PySem.W.callWith_KW0 (h₀ := X.base) I.ok.mod.kin hk hall (thn (hkw.pk.run pos pins s sg H _ I h') fun ws s2 ⟨zs, H2, I2, rz, l1, l2, as, st, ds, es', rl, h1, h2, q⟩ => ⟨I2.kIn, ?_⟩) hpl
  rw [hks]
  exact run_F (us := []) F hr hb tk I2 .nil rz rfl (rz.length.symm.trans l2) rl h1 h2 q
/-- f(e, ..) -/
theorem fe_call (F : FnG X.prog X.w X.K X.mg X.base k f fd ps (spF X.K cl ps.length m)) (hr : Rm k X) (tk : Takes X W) (hg : Gl X x) (hm : X.mg x = some (.ref f)) (hk : PySem.W.keepIn X.K (.ref f) = true) (hb : KB X.K cl fd ps n [] gD)
    (ha : FA X cl W n (e :: es) fa) (hdb : (x == ("__debug__" : Str)) = false := by decide) (he : starEach (e :: es) X.env = (false, eval e X.env) :: starEach es X.env := by rfl) (hpl : (backTo pos (starEach es X.env)).any (·.1) = false := by rfl) :
    FE X cl W (.Call (.Name x p) (e :: es) [] pos) (eCall m gD fa aNil) := by
  refine ⟨fun pins s sg H Q I h => ?_⟩
  refine wpAny_Call_Name_kw (ld_glob I hg hm ?_ hdb)
  refine PySem.W.callWith_K (h₀ := X.base) I.ok.mod.kin hk (thn (ha.pa.run pos pins s sg H _ I (call_args (m2 := fun ds es st => m (gD ds es) st) ha fk_nil h)) fun us s1 ⟨vs, H1, I1, r1, q1⟩ => ⟨I1.kIn, ?_⟩) he hpl
  obtain ⟨l1, l2, as, st, ds, es', rl, h1, h2, q⟩ := tfs_nil _ _ _ q1
  exact run_F (zs := []) (ws := []) (ks := []) F hr hb tk I1 r1 .nil (r1.length.symm.trans l1) rfl rl h1 h2 q
/-- f() -/
theorem fe_call0 (F : FnG X.prog X.w X.K X.mg X.base k f fd ps (spF X.K cl ps.length m)) (hr : Rm k X) (tk : Takes X W) (hg : Gl X x) (hm : X.mg x = some (.ref f)) (hk : PySem.W.keepIn X.K (.ref f) = true) (hb : KB X.K cl fd ps 0 [] gD)
    (hdb : (x == ("__debug__" : Str)) = false := by decide) : FE X cl W (.Call (.Name x p) [] [] pos) (eCall m gD aNil aNil) := by
  refine ⟨fun pins s sg H Q I h => ?_⟩
  refine wpAny_Call_Name_kw (ld_glob I hg hm ?_ hdb)
  obtain ⟨as0, st0, env0, r0, er0, q0⟩ := h
  exact PySem.W.callWith_K0 I.kIn hk (run_F (vs := []) (us := []) (ds := []) (zs := []) (ws := []) (es := []) (ks := []) F hr hb tk I .nil .nil rfl rfl r0 .nil .nil q0)
end
end F3

/-! F3, part c: the code of expressions and statements, and that it tells what the text does. -/
namespace F3
open PySem PySem.Spec PyProof.Rows L2

/-! ### code -/
abbrev O1 := D → Store → Option (D × Store)
abbrev O2 := D → D → Store → Option (D × Store)
abbrev On := List D → Store → Option (D × Store)
abbrev Om := D → List D → Store → Option (D × Store)
def ofO : Option (D × Store) → Res D
  | some p => .ok p.1 p.2
  | none => .stuck
def eC (d : D) : Ex := fun _ st => .ok d st
def eVar (i : Nat) : Ex := fun env st => match env[i]? with
  | some (some d) => .ok d st
  | _ => .stuck
def eUn (o : O1) (f : Ex) : Ex := fun env st => (f env st).bind fun x s => ofO (o x s)
def eBin (o : O2) (f g : Ex) : Ex := fun env st => (f env st).bind fun x s1 => (g env s1).bind fun y s2 => ofO (o x y s2)
def onB (k1 k2 : Store → Res D) : D → Store → Res D := fun d s => match d with
  | .bl true => k1 s
  | .bl false => k2 s
  | _ => .stuck
def eChain (o o' : O2) (f g h : Ex) : Ex := fun env st => (f env st).bind fun x s1 => (g env s1).bind fun y s2 => (ofO (o x y s2)).bind fun b s3 => onB (fun s => (h env s).bind fun z s4 => ofO (o' y z s4)) (fun s => .ok (.bl false) s) b s3
def eIf (c a b : Ex) : Ex := fun env st => (c env st).bind (onB (a env) (b env))
def eAnd (a b : Ex) : Ex := fun env st => (a env st).bind (onB (b env) fun s => .ok (.bl false) s)
def eOr (a b : Ex) : Ex := fun env st => (a env st).bind (onB (fun s => .ok (.bl true) s) (b env))
def eNot (a : Ex) : Ex := fun env st => (a env st).bind (onB (fun s => .ok (.bl false) s) fun s => .ok (.bl true) s)
def eLst (fa : Exs) : Ex := fun env st => (fa env st).bind fun ds s => if ds.length ≤ 100000 then .ok (.lst ds) s else .stuck
def eTup (fa : Exs) : Ex := fun env st => (fa env st).bind fun ds s => if ds.length ≤ 100000 then .ok (.tup ds) s else .stuck
/-- a list that is to change: a new cell -/
def eCel (fa : Exs) : Ex := fun env st => (fa env st).bind fun ds s => if ds.length ≤ 100000 then .ok (.ref s.length) (s ++ [.lst ds]) else .stuck
def eFn (o : On) (fa : Exs) : Ex := fun env st => (fa env st).bind fun ds s => ofO (o ds s)
def eMt (o : Om) (f : Ex) (fa : Exs) : Ex := fun env st => (f env st).bind fun x s => (fa env s).bind fun ds s2 => ofO (o x ds s2)
abbrev Tgt := D → Env → Store → Option (Env × Store)
def tNm (i : Nat) : Tgt := fun d env st => some (env.set i (some d), st)
def sNext : Sm := fun env st => .nx env st
def sSeq (a b : Sm) : Sm := fun env st => match a env st with
  | .nx e s => b e s
  | .rt d s => .rt d s
  | .bk e s => .bk e s
  | .ct e s => .ct e s
  | .ex c fs e s => .ex c fs e s
  | .stuck => .stuck
def ofR (r : Res D) (env : Env) (k : D → Store → Flow) : Flow := match r with
  | .ok d s => k d s
  | .exn c fs s => .ex c fs env s
  | .stuck => .stuck
def sExpr (f : Ex) : Sm := fun env st => ofR (f env st) env fun _ s => .nx env s
def sRet (f : Ex) : Sm := fun env st => ofR (f env st) env fun d s => .rt d s
def sRetN : Sm := fun _ st => .rt .non st
def sAsg (f : Ex) (g : Tgt) : Sm := fun env st => ofR (f env st) env fun d s => match g d env s with
  | some p => .nx p.1 p.2
  | none => .stuck
def sSet (i : Nat) (f : Ex) : Sm := fun env st => ofR (f env st) env fun d s => .nx (env.set i (some d)) s
def sPar (i j : Nat) (f g : Ex) : Sm := fun env st => ofR (f env st) env fun d s => ofR (g env s) env fun d2 s2 => .nx ((env.set i (some d)).set j (some d2)) s2
def sIf (c : Ex) (a b : Sm) : Sm := fun env st => ofR (c env st) env fun d s => match d with
  | .bl true => a env s
  | .bl false => b env s
  | _ => .stuck
def sBk : Sm := fun env st => .bk env st
def sCt : Sm := fun env st => .ct env st
def sNo : Sm := fun _ _ => .stuck
def wIter (c : Ex) (b : Sm) : Nat → Sm
  | 0 => fun _ _ => .stuck
  | n + 1 => fun env st => ofR (c env st) env fun d s => match d with
    | .bl true => (match b env s with
      | .nx e s2 => wIter c b n e s2
      | .ct e s2 => wIter c b n e s2
      | .bk e s2 => .nx e s2
      | .rt d s2 => .rt d s2
      | .ex c fs e s2 => .ex c fs e s2
      | .stuck => .stuck)
    | .bl false => .nx env s
    | _ => .stuck
open Classical in
/-- the loop, as far as it ends -/
noncomputable def sWhile (c : Ex) (b : Sm) : Sm := fun env st => if h : ∃ n, wIter c b n env st ≠ .stuck then wIter c b (choose h) env st else .stuck
def forL (g : Tgt) (b : Sm) : List D → Sm
  | [] => fun env st => .nx env st
  | d :: r => fun env st => match g d env st with
    | none => .stuck
    | some p => (match b p.1 p.2 with
      | .nx e s2 => forL g b r e s2
      | .ct e s2 => forL g b r e s2
      | .bk e s2 => .nx e s2
      | .rt d s2 => .rt d s2
      | .ex c fs e s2 => .ex c fs e s2
      | .stuck => .stuck)
/-- what is walked: a list that stays, or a cell that must stay as it is as long as it is walked -/
abbrev Wlk := Option Nat × List D
abbrev Its := Env → Store → Res Wlk
def Gd (r : Wlk) (st : Store) : Prop := match r.1 with
  | none => True
  | some k => st[k]? = some (.lst r.2)
open Classical in
noncomputable def forG (s : Wlk) (g : Tgt) (b : Sm) : List D → Sm
  | [] => fun env st => if Gd s st then .nx env st else .stuck
  | d :: r => fun env st => if Gd s st then (match g d env st with
    | none => .stuck
    | some p => (match b p.1 p.2 with
      | .nx e s2 => forG s g b r e s2
      | .ct e s2 => forG s g b r e s2
      | .bk e s2 => .nx e s2
      | .rt d s2 => .rt d s2
      | .ex c fs e s2 => .ex c fs e s2
      | .stuck => .stuck)) else .stuck
noncomputable def sFor (it : Its) (g : Tgt) (b : Sm) : Sm := fun env st => match it env st with
  | .ok r s => forG r g b r.2 env s
  | .exn c fs s => .ex c fs env s
  | .stuck => .stuck
theorem forG_none {ds0 : List D} {g : Tgt} {b : Sm} : ∀ (ds : List D) (env : Env) (st : Store), forG (none, ds0) g b ds env st = forL g b ds env st
  | [], env, st => if_pos trivial
  | d :: r, env, st => by
    unfold forG forL
    rw [if_pos (show Gd (none, ds0) st from trivial)]
    cases g d env st with
    | none => rfl
    | some p =>
      dsimp only
      cases b p.1 p.2 <;> first | rfl | exact forG_none r _ _
def wipeE (env : Env) : List Nat → Env
  | [] => env
  | v :: vs => (wipeE env vs).set v none
def Res.bindS {A B : Type} (r : Res A) (k : A → Store → Res B) : Res B := match r with
  | .ok a st => k a st
  | .exn _ _ _ => .stuck
  | .stuck => .stuck
open Classical in
/-- one comprehension: what is kept so far, then the rest -/
noncomputable def lcL (r : Wlk) (g : Tgt) (t e : Ex) (vs : List Nat) (env : Env) : List D → List D → Store → Res (List D)
  | [], acc, st => if Gd r st then .ok acc st else .stuck
  | d :: ds, acc, st => if Gd r st then (match g d (wipeE env vs) st with
    | none => .stuck
    | some p => (t p.1 p.2).bindS fun b s => match b with
      | .bl true => (e p.1 s).bindS fun y s2 => if acc.length < 100000 then lcL r g t e vs env ds (acc ++ [y]) s2 else .stuck
      | .bl false => lcL r g t e vs env ds acc s
      | _ => .stuck) else .stuck
noncomputable def eLc (it : Its) (g : Tgt) (t e : Ex) (vs : List Nat) : Ex := fun env st => (it env st).bind fun r s => (lcL r g t e vs env r.2 [] s).bind fun xs s2 => .ok (.lst xs) s2
def eYes : Ex := eC (.bl true)
/-- what is walked: a list or a cell, a tuple, numbers -/
def lstI (d : D) (s : Store) : Res Wlk := match d with
  | .lst ds => .ok (none, ds) s
  | .ref k => match s[k]? with
    | some (.lst ds) => .ok (some k, ds) s
    | _ => .stuck
  | _ => .stuck
def tupI (d : D) (s : Store) : Res Wlk := match d with
  | .tup ds => .ok (none, ds) s
  | _ => .stuck
def iLst (f : Ex) : Its := fun env st => (f env st).bind lstI
def iTupl (f : Ex) : Its := fun env st => (f env st).bind tupI
/-- with their numbers -/
def enumD (ds : List D) : List D := ds.mapIdx fun i d => .tup [.int i, d]
def enuI (d : D) (s : Store) : Res Wlk := match d with
  | .lst ds => .ok (none, enumD ds) s
  | _ => .stuck
def iEnu (fa : Exs) : Its := fun env st => (fa env st).bind fun ds s => match ds with
  | [d] => enuI d s
  | _ => .stuck
def intsD (lo : Int) (n : Nat) : List D := (List.range n).map fun (i : Nat) => D.int (lo + (i : Int))
def rng1 (ds : List D) (s : Store) : Res Wlk := match ds with
  | [.int j] => if -(2 ^ 62) ≤ j ∧ j < 2 ^ 62 then .ok (none, intsD 0 j.toNat) s else .stuck
  | _ => .stuck
def rng2 (ds : List D) (s : Store) : Res Wlk := match ds with
  | [.int i, .int j] => if -(2 ^ 62) ≤ i ∧ i < 2 ^ 62 ∧ -(2 ^ 62) ≤ j ∧ j < 2 ^ 62 then .ok (none, intsD i (j - i).toNat) s else .stuck
  | _ => .stuck
def iRange1 (fa : Exs) : Its := fun env st => (fa env st).bind rng1
def iRange2 (fa : Exs) : Its := fun env st => (fa env st).bind rng2

theorem wIter_mono (c : Ex) (b : Sm) : ∀ (n : Nat) (env : Env) (st : Store), wIter c b n env st ≠ .stuck → wIter c b (n + 1) env st = wIter c b n env st
  | 0, _, _, h => absurd rfl h
  | n + 1, env, st, h => by
    unfold wIter at h ⊢
    unfold ofR at h ⊢
    cases e : c env st with
    | stuck => rfl
    | exn cc fs s => rfl
    | ok d s =>
      rw [e] at h
      cases d with
      | bl v =>
        cases v with
        | false => rfl
        | true =>
          dsimp only at h ⊢
          cases e2 : b env s with
          | nx e s2 => rw [e2] at h; exact wIter_mono c b n e s2 h
          | ct e s2 => rw [e2] at h; exact wIter_mono c b n e s2 h
          | _ => rfl
      | _ => rfl
theorem wIter_le (c : Ex) (b : Sm) {n m : Nat} (hm : n ≤ m) (env : Env) (st : Store) (h : wIter c b n env st ≠ .stuck) : wIter c b m env st = wIter c b n env st := by
  induction m with
  | zero => obtain rfl : n = 0 := by omega
            rfl
  | succ m ih =>
    by_cases e : n = m + 1
    · rw [e]
    · have := ih (by omega)
      rw [wIter_mono c b m env st (by rw [this]; exact h), this]
/-- the loop's end, however many turns were allowed -/
theorem sWhile_of {c : Ex} {b : Sm} {n : Nat} {env : Env} {st : Store} {r : Flow} (h : wIter c b n env st = r) (hr : r ≠ .stuck) : sWhile c b env st = r := by
  have hx : ∃ n, wIter c b n env st ≠ .stuck := ⟨n, by rw [h]; exact hr⟩
  unfold sWhile
  rw [dif_pos hx]
  have h1 := Classical.choose_spec hx
  have h2 : wIter c b n env st ≠ .stuck := by rw [h]; exact hr
  rcases Nat.le_total n (Classical.choose hx) with l | l
  · rw [wIter_le c b l env st h2, h]
  · rw [← wIter_le c b l env st h1, h]
theorem sWhile_ex {c : Ex} {b : Sm} {env : Env} {st : Store} {r : Flow} (h : sWhile c b env st = r) (hr : r ≠ .stuck) : ∃ n, wIter c b n env st = r := by
  unfold sWhile at h
  split at h
  · exact ⟨_, h⟩
  · exact absurd h.symm hr

/-! ### operators by values -/
section
variable (K : PySem.W.Frag) (cl : String → Addr)
def Aft (as : As) (H : Hp) (d : D) (st' : Store) (Q : VK) : Prop := ∀ as' H' z, Le as H as' H' → Rel K cl as' H' st' → Sh K cl as' H' z d → Q z H'
def Ok1 (r : V → Hp → VK → Prop) (o : O1) : Prop := ∀ as H st x v d st' Q, Rel K cl as H st → o x st = some (d, st') → Sh K cl as H v x → Aft K cl as H d st' Q → r v H Q
def Ok2 (r : R2) (o : O2) : Prop := ∀ as H st x y v w d st' Q, Rel K cl as H st → o x y st = some (d, st') → Sh K cl as H v x → Sh K cl as H w y → Aft K cl as H d st' Q → r v w H Q
def Okn (r : List V → Hp → VK → Prop) (o : On) : Prop := ∀ as H st xs vs d st' Q, Rel K cl as H st → o xs st = some (d, st') → ShL K cl as H vs xs → Aft K cl as H d st' Q → r vs H Q
def Okm (r : V → List V → Hp → VK → Prop) (o : Om) : Prop := ∀ as H st x xs v vs d st' Q, Rel K cl as H st → o x xs st = some (d, st') → Sh K cl as H v x → ShL K cl as H vs xs → Aft K cl as H d st' Q → r v vs H Q
end
section
variable {X : Cx} {cl : String → Addr} {W : WX}
/-- nothing made, nothing changed -/
theorem Aft.pure {K : PySem.W.Frag} {as : As} {H : Hp} {st : Store} {d : D} {Q : VK} {z : V} (h : Aft K cl as H d st Q) (r : Rel K cl as H st) (s : Sh K cl as H z d) : Q z H := h as H z Le.refl r s
theorem ofO_aft {K : PySem.W.Frag} {sg : L2.St} {as : As} {H : Hp} {Q : VK} {o : Option (D × Store)} (h : Wt K cl W sg as H Q (ofO o)) : ∃ d st, o = some (d, st) ∧ Aft K cl as H d st Q := by
  cases o with
  | none => exact h.elim
  | some p => exact ⟨p.1, p.2, rfl, h⟩
variable {a b c : Expr} {f g h : Ex} {pos : Pos}
theorem imp_un {r : V → Hp → VK → Prop} {o : O1} (hr : Ok1 X.K cl r o) : ∀ sg H Q, tF X.K cl W (eUn o f) sg H Q → tUn r (tF X.K cl W f) sg H Q := fun sg H Q ⟨as, st, env, r0, er, q⟩ =>
  ⟨as, st, env, r0, er, Wt.bind q fun d s1 as1 H1 v _ l1 r1 x1 q1 => let ⟨_, _, e, af⟩ := ofO_aft q1; hr as1 H1 s1 d v _ _ _ r1 e x1 af⟩
theorem imp_bin {r : R2} {o : O2} (hr : Ok2 X.K cl r o) : ∀ sg H Q, tF X.K cl W (eBin o f g) sg H Q → tOp r (tF X.K cl W f) (tF X.K cl W g) sg H Q := fun sg H Q ⟨as, st, env, r0, er, q⟩ =>
  ⟨as, st, env, r0, er, Wt.bind q fun d s1 as1 H1 v _ l1 r1 x1 q1 => ⟨as1, s1, env, r1, er.up l1, Wt.bind q1 fun d2 s2 as2 H2 w _ l2 r2 x2 q2 =>
    let ⟨_, _, e, af⟩ := ofO_aft q2; hr as2 H2 s2 d d2 v w _ _ _ r2 e (x1.up l2) x2 af⟩⟩
theorem fe_un {op : UnaryOp} {r : V → Hp → VK → Prop} {o : O1} (ho : UnR X (unaryOp op) r) (hr : Ok1 X.K cl r o) (ha : FE X cl W a f) : FE X cl W (.UnaryOp op a pos) (eUn o f) := PE.w (pe_un ho ha) (imp_un hr)
theorem fe_bin {op : Operator} {r : R2} {o : O2} (ho : OpR X (binaryOp op) r) (hr : Ok2 X.K cl r o) (ha : FE X cl W a f) (hb : FE X cl W b g) : FE X cl W (.BinOp a op b pos) (eBin o f g) := PE.w (pe_op ho ha hb) (imp_bin hr)
theorem fe_cmp {op : CmpOp} {r : R2} {o : O2} (ho : OpR X (compareOp op) r) (hr : Ok2 X.K cl r o) (ha : FE X cl W a f) (hb : FE X cl W b g) (hm : behindInMarks op b = false) : FE X cl W (.Compare a [op] [b] pos) (eBin o f g) := PE.w (pe_cmpR ho ha hb hm) (imp_bin hr)
theorem fe_ix {r : R2} {o : O2} (ho : IxR X r) (hr : Ok2 X.K cl r o) (ha : FE X cl W a f) (hb : FE X cl W b g) (hs : PlainIx b) : FE X cl W (.Subscript a b pos) (eBin o f g) := PE.w (pe_ix ho ha hb hs) (imp_bin hr)
theorem tft_tf {sg : L2.St} {H : Hp} {Q : Bool → Hp → Prop} (q : tFt X.K cl W f sg H Q) : tF X.K cl W f sg H fun v H' => ∃ c, v = .bl c ∧ Q c H' :=
  let ⟨as, st, env, r0, er, q⟩ := q; ⟨as, st, env, r0, er, Wtt.wt q⟩
/-- a comparison as a test -/
theorem ft_cmp {op : CmpOp} {r : R2} {o : O2} (ho : OpR X (compareOp op) r) (hr : Ok2 X.K cl r o) (ha : FE X cl W a f) (hb : FE X cl W b g) (hm : behindInMarks op b = false) : FT X cl W (.Compare a [op] [b] pos) (eBin o f g) :=
  PT.w (pt_cmpR ho ha hb hm) fun sg H Q q => imp_bin hr sg H _ (tft_tf q)
theorem imp_chain {r r' : R2} {o o' : O2} (hr : Ok2 X.K cl r o) (hr' : Ok2 X.K cl r' o') : ∀ sg H Q, tF X.K cl W (eChain o o' f g h) sg H Q → tChain r r' (tF X.K cl W f) (tF X.K cl W g) (tF X.K cl W h) sg H Q := fun sg H Q ⟨as, st, env, r0, er, q⟩ =>
  ⟨as, st, env, r0, er, Wt.bind q fun d s1 as1 H1 v _ l1 r1 x1 q1 => ⟨as1, s1, env, r1, er.up l1, Wt.bind q1 fun d2 s2 as2 H2 w _ l2 r2 x2 q2 => by
    cases e : o d d2 s2 with
    | none => rw [e] at q2; exact q2.elim
    | some p =>
      obtain ⟨d3, s3⟩ := p
      rw [e] at q2
      refine hr as2 H2 s2 d d2 v w d3 s3 _ r2 e (x1.up l2) x2 fun as3 H3 z l3 r3 x3 => ?_
      have q3 : Wt X.K cl W sg as3 H3 Q (onB (fun s => (h env s).bind fun z s4 => ofO (o' d2 z s4)) (fun s => .ok (.bl false) s) d3 s3) := Wt.up l3 q2
      cases d3 with
      | bl k =>
        cases x3
        refine ⟨k, rfl, ?_⟩
        cases k with
        | false => exact q3 as3 H3 _ Le.refl r3 (.bl false)
        | true => exact ⟨as3, s3, env, r3, (er.up l1).up (l2.trans l3), Wt.bind q3 fun d4 s4 as4 H4 w4 _ l4 r4 x4 q4 => let ⟨_, _, e, af⟩ := ofO_aft q4; hr' as4 H4 s4 d2 d4 w w4 _ _ _ r4 e (x2.up (l3.trans l4)) x4 af⟩
      | _ => exact q3.elim⟩⟩
theorem fe_chain {op op' : CmpOp} {r r' : R2} {o o' : O2} (ho : OpR X (compareOp op) r) (hr : Ok2 X.K cl r o) (ho' : OpR X (compareOp op') r') (hr' : Ok2 X.K cl r' o') (ha : FE X cl W a f) (hb : FE X cl W b g) (hc : FE X cl W c h)
    (hm : lastMarks [op, op'] [b, c] = false := by with_unfolding_all rfl) : FE X cl W (.Compare a [op, op'] [b, c] pos) (eChain o o' f g h) := PE.w (pe_chain ho ho' ha hb hc hm) (imp_chain hr hr')
theorem ft_chain {op op' : CmpOp} {r r' : R2} {o o' : O2} (ho : OpR X (compareOp op) r) (hr : Ok2 X.K cl r o) (ho' : OpR X (compareOp op') r') (hr' : Ok2 X.K cl r' o') (ha : FE X cl W a f) (hb : FE X cl W b g) (hc : FE X cl W c h)
    (hm : lastMarks [op, op'] [b, c] = false := by with_unfolding_all rfl) : FT X cl W (.Compare a [op, op'] [b, c] pos) (eChain o o' f g h) := PT.w (pt_chain ho ho' ha hb hc hm) fun sg H Q q => imp_chain hr hr' sg H _ (tft_tf q)
/-- any expression that tells a truth -/
theorem ft_val {e : Expr} (h : FE X cl W e f) (he : ∀ whole, isTrue e X.env whole = (do let v ← whole; standAt e.pos; holding [v] (truthy v)) := by intro _; rfl) : FT X cl W e f := PT.w (pt_val h he) fun sg H Q q => tft_tf q

/-! ### plain expressions -/
theorem imp_c {d : D} {v : V} (hs : ∀ as H st, Rel X.K cl as H st → Sh X.K cl as H v d) : ∀ sg H Q, tF X.K cl W (eC d) sg H Q → tC v sg H Q := fun sg H Q ⟨as, st, env, r0, er, q⟩ => q as H v Le.refl r0 (hs _ _ _ r0)
theorem fe_int {i : Int} {j} : FE X cl W (.Constant (.int i) j pos) (eC (.int i)) := PE.w pe_int (imp_c fun _ _ _ _ => .int i)
theorem fe_bl {b : Bool} {j} : FE X cl W (.Constant (.bool b) j pos) (eC (.bl b)) := PE.w pe_bl (imp_c fun _ _ _ _ => .bl b)
theorem fe_non {j} : FE X cl W (.Constant .none j pos) (eC .non) := PE.w pe_non (imp_c fun _ _ _ _ => .non)
theorem fe_str {x : Str} {j} : FE X cl W (.Constant (.str x) j pos) (eC (.str x)) := PE.w pe_str (imp_c fun _ _ _ _ => .str x)
theorem fe_glob {x : Str} {d : D} {v : V} {u : Value} (hg : Gl X x) (hm : X.mg x = some u) (r : RelV v u) (hs : ∀ as H st, Rel X.K cl as H st → Sh X.K cl as H v d) (hd : (x == ("__debug__" : Str)) = false := by decide) : FE X cl W (.Name x pos) (eC d) := PE.w (pe_glob hg hm r hd) (imp_c hs)
theorem fe_var {x : Str} (i : Nat) (hN : X.N[i]? = some x := by rfl) (hv : Vis X.env.scope x := by first | exact Or.inl rfl | exact Or.inr (Or.inl rfl) | exact Or.inr (Or.inr rfl)) (hd : (x == ("__debug__" : Str)) = false := by decide)
    (hcd : (x == ("__classdict__" : Str)) = false := by decide) : FE X cl W (.Name x pos) (eVar i) := PE.w (pe_var hN hv hd hcd) fun sg H Q ⟨as, st, env, r0, er, q⟩ => by
  unfold eVar at q
  cases e : env[i]? with
  | none => rw [e] at q; exact q.elim
  | some o =>
    cases o with
    | none => rw [e] at q; exact q.elim
    | some d =>
      rw [e] at q
      obtain ⟨v, h1, h2⟩ := er.at_ i d e
      exact ⟨v, h1, q as H v Le.refl r0 h2⟩
theorem onB_not {k1 k2 : Store → Res D} : ∀ d s, (∀ b, d ≠ .bl b) → onB k1 k2 d s = .stuck := fun d s h => by
  cases d <;> first | rfl | (exact absurd rfl (h _))
theorem fe_ifExp (hc : FT X cl W c f) (ha : FE X cl W a g) (hb : FE X cl W b h) : FE X cl W (.IfExp c a b pos) (eIf f g h) := PE.w (pe_ifExp hc ha hb) fun sg H Q ⟨as, st, env, r0, er, q⟩ =>
  ⟨as, st, env, r0, er, Wt.bindB q onB_not fun b s1 as1 H1 _ l1 r1 q1 => by
    cases b with
    | true => exact ⟨as1, s1, env, r1, er.up l1, q1⟩
    | false => exact ⟨as1, s1, env, r1, er.up l1, q1⟩⟩
theorem fe_one {op : BoolOp} (ha : FE X cl W a f) : FE X cl W (.BoolOp op [a] pos) f := pe_one ha
theorem fe_and {rest : List Expr} (ha : FE X cl W a f) (hb : FE X cl W (.BoolOp .And (b :: rest) pos) g) : FE X cl W (.BoolOp .And (a :: b :: rest) pos) (eAnd f g) := PE.w (pe_and ha hb) fun sg H Q ⟨as, st, env, r0, er, q⟩ =>
  ⟨as, st, env, r0, er, Wt.bind q fun d s1 as1 H1 v _ l1 r1 x1 q1 => by
    cases d with
    | bl k =>
      cases x1
      refine ⟨k, rfl, ?_⟩
      cases k with
      | true => exact ⟨as1, s1, env, r1, er.up l1, q1⟩
      | false => exact q1 as1 H1 _ Le.refl r1 (.bl false)
    | _ => exact q1.elim⟩
theorem fe_or {rest : List Expr} (ha : FE X cl W a f) (hb : FE X cl W (.BoolOp .Or (b :: rest) pos) g) : FE X cl W (.BoolOp .Or (a :: b :: rest) pos) (eOr f g) := PE.w (pe_or ha hb) fun sg H Q ⟨as, st, env, r0, er, q⟩ =>
  ⟨as, st, env, r0, er, Wt.bind q fun d s1 as1 H1 v _ l1 r1 x1 q1 => by
    cases d with
    | bl k =>
      cases x1
      refine ⟨k, rfl, ?_⟩
      cases k with
      | false => exact ⟨as1, s1, env, r1, er.up l1, q1⟩
      | true => exact q1 as1 H1 _ Le.refl r1 (.bl true)
    | _ => exact q1.elim⟩
theorem fe_not (ha : FE X cl W a f) : FE X cl W (.UnaryOp .Not a pos) (eNot f) := PE.w (pe_not ha) fun sg H Q ⟨as, st, env, r0, er, q⟩ =>
  ⟨as, st, env, r0, er, Wt.bind q fun d s1 as1 H1 v _ l1 r1 x1 q1 => by
    cases d with
    | bl k =>
      cases x1
      refine ⟨k, rfl, ?_⟩
      cases k with
      | false => exact q1 as1 H1 _ Le.refl r1 (.bl true)
      | true => exact q1 as1 H1 _ Le.refl r1 (.bl false)
    | _ => exact q1.elim⟩
/-! ### tests -/
theorem fw_and1 (ha : FT X cl W a f) : FW X cl W (.BoolOp .And [a] pos) f := pw_and1 ha
theorem fw_or1 (ha : FT X cl W a f) : FW X cl W (.BoolOp .Or [a] pos) f := pw_or1 ha
theorem fw_and {rest : List Expr} (ha : FT X cl W a f) (hb : FW X cl W (.BoolOp .And (b :: rest) pos) g) : FW X cl W (.BoolOp .And (a :: b :: rest) pos) (eAnd f g) := PW.w (pw_and ha hb) fun sg H Q ⟨as, st, env, r0, er, q⟩ =>
  ⟨as, st, env, r0, er, Wtt.bindB q onB_not fun b s1 as1 H1 _ l1 r1 q1 => by
    cases b with
    | true => exact ⟨as1, s1, env, r1, er.up l1, q1⟩
    | false => exact q1 as1 H1 Le.refl r1⟩
theorem fw_or {rest : List Expr} (ha : FT X cl W a f) (hb : FW X cl W (.BoolOp .Or (b :: rest) pos) g) : FW X cl W (.BoolOp .Or (a :: b :: rest) pos) (eOr f g) := PW.w (pw_or ha hb) fun sg H Q ⟨as, st, env, r0, er, q⟩ =>
  ⟨as, st, env, r0, er, Wtt.bindB q onB_not fun b s1 as1 H1 _ l1 r1 q1 => by
    cases b with
    | true => exact q1 as1 H1 Le.refl r1
    | false => exact ⟨as1, s1, env, r1, er.up l1, q1⟩⟩
theorem ft_w {e : Expr} (h : FW X cl W e f) : FT X cl W e f := PW.pt h
theorem ft_not (ha : FT X cl W a f) : FT X cl W (.UnaryOp .Not a pos) (eNot f) := PT.w (pt_not ha) fun sg H Q ⟨as, st, env, r0, er, q⟩ =>
  ⟨as, st, env, r0, er, Wtt.bindB q onB_not fun b s1 as1 H1 _ l1 r1 q1 => by
    cases b with
    | true => exact q1 as1 H1 Le.refl r1
    | false => exact q1 as1 H1 Le.refl r1⟩
/-! ### displays -/
theorem line5 {n : Nat} (h : n ≤ 100000) : n ≤ sizeLine := Nat.le_trans h (by decide)
theorem fe_lst {n : Nat} {es : List Expr} {fa : Exs} (ha : FA X cl W n es fa) : FE X cl W (.List es pos) (eLst fa) := PE.w (pe_lst ha.pa) fun sg H Q ⟨as, st, env, r0, er, q⟩ =>
  ⟨as, st, env, r0, er, Wt.binds q fun ds s1 as1 H1 vs _ l1 r1 x1 q1 => by
    by_cases hl : ds.length ≤ 100000
    · simp only [if_pos hl] at q1
      refine ⟨by rw [x1.length]; exact line5 hl, fun p hp => ?_⟩
      have r2 := r1.new (o := .lst vs) hp
      exact q1 as1 _ _ (Le.new r1 hp) r2 (.lst (.inl ⟨r1.fresh hp, .inl upd_same⟩) (x1.up (Le.new r1 hp)))
    · simp only [if_neg hl] at q1
      exact q1.elim⟩
theorem fe_tup {n : Nat} {es : List Expr} {fa : Exs} {x1} (ha : FA X cl W n es fa) : FE X cl W (.Tuple es x1 pos) (eTup fa) := PE.w (pe_tup ha.pa) fun sg H Q ⟨as, st, env, r0, er, q⟩ =>
  ⟨as, st, env, r0, er, Wt.binds q fun ds s1 as1 H1 vs _ l1 r1 x1 q1 => by
    by_cases hl : ds.length ≤ 100000
    · simp only [if_pos hl] at q1
      refine ⟨by rw [x1.length]; exact line5 hl, fun p hp => ?_⟩
      have r2 := r1.new (o := .tup vs) hp
      exact q1 as1 _ _ (Le.new r1 hp) r2 (.tup (.inl ⟨r1.fresh hp, .inl upd_same⟩) (x1.up (Le.new r1 hp)))
    · simp only [if_neg hl] at q1
      exact q1.elim⟩
/-- a new cell is laid -/
theorem Rel.cell_new {K : PySem.W.Frag} {as : As} {H : Hp} {st : Store} {p : Addr} {o : HO} {c : Cell} (r : Rel K cl as H st) (hp : H p = none) (hc : ∀ as', Mv as H as' (upd H p o) → CellAt K cl as' (upd H p o) p c) :
    Le as H ⟨as.c ++ [p], as.r⟩ (upd H p o) ∧ Rel K cl ⟨as.c ++ [p], as.r⟩ (upd H p o) (st ++ [c]) := by
  have hn := r.fresh hp
  have hnc : p ∉ as.c := fun z => hn (.inl z)
  have l : Mv as H ⟨as.c ++ [p], as.r⟩ (upd H p o) := ⟨fun i a e => by
    show (as.c ++ [p])[i]? = some a
    rw [List.getElem?_append_left (List.getElem?_eq_some_iff.mp e).1]; exact e, fun a u n e => by
    have ne := ne_of_none e hp
    refine ⟨by rw [upd_ne ne]; exact e, fun m => ?_⟩
    rcases m with m | m
    · rcases List.mem_append.mp m with m | m
      · exact n (.inl m)
      · exact ne (List.mem_singleton.mp m)
    · exact n (.inr m)⟩
  refine ⟨⟨l, rfl, fun a m => upd_ne fun e => hn (.inr (e ▸ m))⟩, ?_, ?_, fun i a c' e1 e2 => ?_, fun a m => ⟨fun z => ?_, ?_⟩⟩
  · show (as.c ++ [p]).length = _
    rw [List.length_append, List.length_append, r.len]; rfl
  · show (as.c ++ [p]).Nodup
    rw [List.nodup_append]
    exact ⟨r.nd, by simp, fun a ha b hb => by rw [List.mem_singleton.mp hb]; rintro rfl; exact hnc ha⟩
  · have e1 : (as.c ++ [p])[i]? = some a := e1
    by_cases hi : i < as.c.length
    · rw [List.getElem?_append_left hi] at e1
      rw [List.getElem?_append_left (by rw [← r.len]; exact hi)] at e2
      exact (r.cell i a c' e1 e2).mono l fun u eu => by rw [upd_ne (ne_of_none eu hp)]; exact eu
    · have hl : i = as.c.length := by
        have := (List.getElem?_eq_some_iff.mp e1).1
        rw [List.length_append] at this
        simp at this
        omega
      subst hl
      rw [List.getElem?_append_right (Nat.le_refl _)] at e1
      rw [r.len, List.getElem?_append_right (Nat.le_refl _)] at e2
      simp at e1 e2
      subst e1 e2
      exact hc _ l
  · rcases List.mem_append.mp z with z | z
    · exact (r.rs a m).1 z
    · exact hn (.inr (List.mem_singleton.mp z ▸ m))
  · obtain ⟨u, e⟩ := (r.rs a m).2
    exact ⟨u, by rw [upd_ne (ne_of_none e hp)]; exact e⟩
theorem fe_cel {n : Nat} {es : List Expr} {fa : Exs} (ha : FA X cl W n es fa) : FE X cl W (.List es pos) (eCel fa) := PE.w (pe_lst ha.pa) fun sg H Q ⟨as, st, env, r0, er, q⟩ =>
  ⟨as, st, env, r0, er, Wt.binds q fun ds s1 as1 H1 vs _ l1 r1 x1 q1 => by
    by_cases hl : ds.length ≤ 100000
    · simp only [if_pos hl] at q1
      refine ⟨by rw [x1.length]; exact line5 hl, fun p hp => ?_⟩
      obtain ⟨l2, r2⟩ := r1.cell_new (c := .lst ds) hp fun as' l => .lst upd_same (x1.upM l)
      exact q1 _ _ _ l2 r2 (.ref (by rw [← r1.len]; simp))
    · simp only [if_neg hl] at q1
      exact q1.elim⟩
/-! ### built-ins -/
theorem imp_fn {r : List V → Hp → VK → Prop} {o : On} {n : Nat} {es : List Expr} {fa : Exs} (hr : Okn X.K cl r o) : ∀ sg H Q, tF X.K cl W (eFn o fa) sg H Q → tCB r (tFs X.K cl W fa) sg H Q := fun sg H Q ⟨as, st, env, r0, er, q⟩ =>
  ⟨as, st, env, r0, er, Wt.binds q fun d s1 as1 H1 v _ l1 r1 x1 q1 => let ⟨_, _, e, af⟩ := ofO_aft q1; hr as1 H1 s1 d v _ _ _ r1 e x1 af⟩
theorem fe_callB {id : String} {r : List V → Hp → VK → Prop} {o : On} {n : Nat} {x : Str} {e : Expr} {es : List Expr} {fa : Exs} {p : Pos} (hc : CallR X (.builtin id) r) (hr : Okn X.K cl r o) (hg : Gl X x) (hm : X.mg x = none) (hv : bootBuiltins x = some (.builtin id)) (ha : FA X cl W n (e :: es) fa)
    (hn : x ≠ "__name__" := by decide) (hdb : (x == ("__debug__" : Str)) = false := by decide) (he : starEach (e :: es) X.env = (false, eval e X.env) :: starEach es X.env := by rfl) (hpl : (backTo pos (starEach es X.env)).any (·.1) = false := by rfl) : FE X cl W (.Call (.Name x p) (e :: es) [] pos) (eFn o fa) :=
  PE.w (pe_callB hc hg hm hv ha.pa hn hdb he hpl) (imp_fn (n := n) (es := e :: es) hr)
theorem fe_callTy {T : String} {r : List V → Hp → VK → Prop} {o : On} {n : Nat} {x : Str} {e : Expr} {es : List Expr} {fa : Exs} {p : Pos} (hc : CallR X (.type T) r) (hr : Okn X.K cl r o) (hg : Gl X x) (hm : X.mg x = none) (hv : bootBuiltins x = some (.type T)) (ha : FA X cl W n (e :: es) fa)
    (hn : x ≠ "__name__" := by decide) (hdb : (x == ("__debug__" : Str)) = false := by decide) (he : starEach (e :: es) X.env = (false, eval e X.env) :: starEach es X.env := by rfl) (hpl : (backTo pos (starEach es X.env)).any (·.1) = false := by rfl) : FE X cl W (.Call (.Name x p) (e :: es) [] pos) (eFn o fa) :=
  PE.w (pe_callTy hc hg hm hv ha.pa hn hdb he hpl) (imp_fn (n := n) (es := e :: es) hr)
end
end F3

/-! F3, part d: statements, targets, loops, comprehensions. -/
namespace F3
open PySem PySem.Spec PyProof.Rows L2

section
variable {X : Cx} {cl : String → Addr} {W : WX} {a b c e : Expr} {f g h : Ex} {pos : Pos}
theorem fs_nil : FSs X cl W [] sNext := PSs.w pss_nil fun Dn sg H ⟨as, st, env, r0, er, q⟩ => q as H sg Le.refl r0 er
/-- the ends ahead of what follows -/
theorem wf_seq {K : PySem.W.Frag} {as : As} {H : Hp} {Dn : Ends} {r : Flow} {u : Sm} (h : Wf K cl W as H Dn (match r with
    | .nx e s => u e s
    | .rt d s => .rt d s
    | .bk e s => .bk e s
    | .ct e s => .ct e s
    | .ex c fs e s => .ex c fs e s
    | .stuck => .stuck)) : Wf K cl W as H { Dn with nx := tS K cl W u Dn } r := by
  cases r with
  | nx e s => exact fun as' H' sg' l r x => ⟨as', s, e, r, x, Wf.up l h⟩
  | _ => exact h
theorem fs_cons {st : Stmt} {rest : List Stmt} {u v : Sm} (h1 : FS X cl W st u) (h2 : FSs X cl W rest v) : FSs X cl W (st :: rest) (sSeq u v) := PSs.w (pss_cons h1 h2) fun Dn sg H ⟨as, s, env, r0, er, q⟩ =>
  ⟨as, s, env, r0, er, wf_seq q⟩
theorem fs_one {st : Stmt} {u : Sm} (h1 : FS X cl W st u) : FSs X cl W [st] u := pss_one h1
/-- an expression's end is a statement's -/
theorem Wf.ofR {K : PySem.W.Frag} {sg : L2.St} {as : As} {H : Hp} {Dn : Ends} {r : Res D} {env : Env} {k : D → Store → Flow} {Q : VK} (er : EnvR K cl as H sg env) (h : Wf K cl W as H Dn (ofR r env k))
    (hk : ∀ d s as1 H1 v, r = .ok d s → Le as H as1 H1 → Rel K cl as1 H1 s → EnvR K cl as1 H1 sg env → Sh K cl as1 H1 v d → Wf K cl W as1 H1 Dn (k d s) → Q v H1) : Wt K cl W sg as H Q r := by
  cases r with
  | ok d s => exact fun as1 H1 v l r1 x => hk d s as1 H1 v rfl l r1 (er.up l) x (Wf.up l h)
  | exn c fs s => exact fun as' H' cls d l r1 x => h as' H' sg cls d l r1 (er.up l) x
  | stuck => exact h
theorem fs_expr (he : FE X cl W e f) (hs : swapsWith e none pos.line X.env = pure false := by rfl) : FS X cl W (.Expr e pos) (sExpr f) := PS.w (ps_expr he hs) fun Dn sg H ⟨as, st, env, r0, er, q⟩ =>
  ⟨as, st, env, r0, er, Wf.ofR er q fun d s as1 H1 v _ l r1 er1 x q1 => q1 as1 H1 sg Le.refl r1 er1⟩
theorem fs_doc {x j pos'} : FS X cl W (.Expr (.Constant (.str x) j pos) pos') sNext := PS.w ps_doc fun Dn sg H ⟨as, st, env, r0, er, q⟩ => q as H sg Le.refl r0 er
theorem fs_pass : FS X cl W (.Pass pos) sNext := PS.w ps_pass fun Dn sg H ⟨as, st, env, r0, er, q⟩ => q as H sg Le.refl r0 er
theorem fs_ret (he : FE X cl W e f) : FS X cl W (.Return (some e) pos) (sRet f) := PS.w (ps_ret he) fun Dn sg H ⟨as, st, env, r0, er, q⟩ =>
  ⟨as, st, env, r0, er, Wf.ofR er q fun d s as1 H1 v _ l r1 er1 x q1 => q1 as1 H1 v Le.refl r1 x⟩
theorem fs_retN : FS X cl W (.Return none pos) sRetN := PS.w ps_retN fun Dn sg H ⟨as, st, env, r0, er, q⟩ => q as H .non Le.refl r0 .non
theorem fs_bk : FS X cl W (.Break pos) sBk := PS.w ps_break fun Dn sg H ⟨as, st, env, r0, er, q⟩ => q as H sg Le.refl r0 er
theorem fs_ct : FS X cl W (.Continue pos) sCt := PS.w ps_continue fun Dn sg H ⟨as, st, env, r0, er, q⟩ => q as H sg Le.refl r0 er
theorem fs_no {st : Stmt} : FS X cl W st sNo := PS.w ps_never fun Dn sg H ⟨as, st, env, r0, er, q⟩ => q.elim
theorem fss_no {st : List Stmt} : FSs X cl W st sNo := PSs.w pss_never fun Dn sg H ⟨as, st, env, r0, er, q⟩ => q.elim
/-- a slot is set -/
theorem EnvR.set {K : PySem.W.Frag} {as : As} {H : Hp} {sg : L2.St} {env : Env} {v : V} {d : D} (er : EnvR K cl as H sg env) (i : Nat) (x : Sh K cl as H v d) : EnvR K cl as H (sg.set i (some v)) (env.set i (some d)) :=
  ⟨by rw [List.length_set, List.length_set]; exact er.len, fun j d' e => by
    by_cases hj : i = j
    · subst hj
      by_cases hi : i < env.length
      · rw [List.getElem?_set_self hi] at e
        cases e
        exact ⟨v, by rw [List.getElem?_set_self (by rw [er.len]; exact hi)], x⟩
      · rw [List.getElem?_eq_none (by rw [List.length_set]; omega)] at e; cases e
    · rw [List.getElem?_set_ne hj] at e ⊢
      exact er.at_ j d' e⟩
theorem EnvR.unset {K : PySem.W.Frag} {as : As} {H : Hp} {sg : L2.St} {env : Env} (er : EnvR K cl as H sg env) (i : Nat) (o : Option V) : EnvR K cl as H (sg.set i o) (env.set i none) :=
  ⟨by rw [List.length_set, List.length_set]; exact er.len, fun j d' e => by
    by_cases hj : i = j
    · subst hj
      by_cases hi : i < env.length
      · rw [List.getElem?_set_self hi] at e; cases e
      · rw [List.getElem?_eq_none (by rw [List.length_set]; omega)] at e; cases e
    · rw [List.getElem?_set_ne hj] at e ⊢
      exact er.at_ j d' e⟩
theorem fs_set {i : Nat} {x : Str} {pos' : Pos} (hN : X.N.Nodup) (hi : X.N[i]? = some x) (hx : Loc X.env.scope x) (he : FE X cl W e f) (hs : swapsWith e (some (.Name x pos')) pos.line X.env = pure false := by rfl) (hf : X.fn x = true ∨ X.env.scope.names.lookup x = some .local := by first | exact .inl rfl | exact .inr rfl | assumption) :
    FS X cl W (.Assign [.Name x pos'] e pos) (sSet i f) := PS.w (ps_set hN hi hx he hs hf) fun Dn sg H ⟨as, st, env, r0, er, q⟩ =>
  ⟨as, st, env, r0, er, Wf.ofR er q fun d s as1 H1 v _ l r1 er1 x q1 => q1 as1 H1 _ Le.refl r1 (er1.set i x)⟩
theorem fs_par {i j : Nat} {x y : Str} {a b : Expr} {px py pt : Pos} {kt k2 pt2} (hc : X.calm = true) (hN : X.N.Nodup) (hi : X.N[i]? = some x) (hj : X.N[j]? = some y) (hij : i ≠ j)
    (hx : Loc X.env.scope x) (hy : Loc X.env.scope y) (ha : FE X cl W a f) (hb : FE X cl W b g)
    (mk : ∀ {ta : TA}, PA X [a, b] ta → PS X (.Assign [.Tuple [.Name x px, .Name y py] kt pt] (.Tuple [a, b] k2 pt2) pos) (tPar i j ta)) (hs : starEach [a, b] X.env = (false, eval a X.env) :: starEach [b] X.env := by rfl) (hs2 : starEach [b] X.env = (false, eval b X.env) :: starEach [] X.env := by rfl) :
    FS X cl W (.Assign [.Tuple [.Name x px, .Name y py] kt pt] (.Tuple [a, b] k2 pt2) pos) (sPar i j f g) := PS.w (mk (pa_cons ha (pa_cons hb pa_nil hs2) hs)) fun Dn sg H ⟨as, st, env, r0, er, q⟩ =>
  ⟨as, st, env, r0, er, Wf.ofR er q fun d s as1 H1 v _ l r1 er1 x q1 => ⟨as1, s, env, r1, er1, Wf.ofR er1 q1 fun d2 s2 as2 H2 w _ l2 r2 er2 x2 q2 => ⟨v, w, rfl, q2 as2 H2 _ Le.refl r2 ((er2.set i (x.up l2)).set j x2)⟩⟩⟩
theorem fs_if {u v : Sm} {tb eb : List Stmt} (hc : FT X cl W c f) (ha : FSs X cl W tb u) (hb : FSs X cl W eb v) : FS X cl W (.If c tb eb pos) (sIf f u v) := PS.w (ps_if hc ha hb) fun Dn sg H ⟨as, st, env, r0, er, q⟩ => by
  refine ⟨as, st, env, r0, er, ?_⟩
  unfold sIf at q
  cases e : f env st with
  | stuck => rw [e] at q; exact q.elim
  | exn c fs s => rw [e] at q; exact fun as' H' cls d l r1 x => q as' H' sg cls d l r1 (er.up l) x
  | ok d s =>
    rw [e] at q
    cases d with
    | bl k =>
      intro as1 H1 l1 r1
      cases k with
      | true => exact ⟨as1, s, env, r1, er.up l1, Wf.up l1 q⟩
      | false => exact ⟨as1, s, env, r1, er.up l1, Wf.up l1 q⟩
    | _ => exact q.elim

/-! ### targets -/
def tG (K : PySem.W.Frag) (cl : String → Addr) (g : Tgt) : TG := fun v sg H Q => ∃ (as : As) (st : Store) (env : Env) (d : D), Rel K cl as H st ∧ EnvR K cl as H sg env ∧ Sh K cl as H v d ∧ match g d env st with
  | some p => ∀ as' H' sg', Le as H as' H' → Rel K cl as' H' p.2 → EnvR K cl as' H' sg' p.1 → Q sg' H'
  | none => False
abbrev FG (X : Cx) (cl : String → Addr) (t : Expr) (g : Tgt) : Prop := PG X t (tG X.K cl g)
theorem PG.w {t : Expr} {u u' : TG} (h : PG X t u) (i : ∀ v sg H Q, u' v sg H Q → u v sg H Q) : PG X t u' := ⟨fun pins s sg H v w Q I r q => h.run pins s sg H v w Q I r (i _ _ _ _ q)⟩
theorem fg_name {i : Nat} {x : Str} (hN : X.N.Nodup) (hi : X.N[i]? = some x) (hx : Loc X.env.scope x) (hf : X.fn x = true ∨ X.env.scope.names.lookup x = some .local := by first | exact .inl rfl | exact .inr rfl | assumption) : FG X cl (.Name x pos) (tNm i) :=
  PG.w (pg_name hN hi hx hf) fun v sg H Q ⟨as, st, env, d, r0, er, x, q⟩ => q as H _ Le.refl r0 (er.set i x)
/-- several targets, one behind another -/
abbrev Tgts := List D → Env → Store → Option (Env × Store)
def tNil' : Tgts := fun ds env st => match ds with
  | [] => some (env, st)
  | _ => none
def tCons' (t : Tgt) (u : Tgts) : Tgts := fun ds env st => match ds with
  | d :: r => (t d env st).bind fun p => u r p.1 p.2
  | [] => none
/-- a, b = a tuple -/
def tTu (n : Nat) (u : Tgts) : Tgt := fun d env st => match d with
  | .tup ds => if ds.length = n then u ds env st else none
  | _ => none
def tGs (K : PySem.W.Frag) (cl : String → Addr) (g : Tgts) : TGs := fun vs sg H Q => ∃ (as : As) (st : Store) (env : Env) (ds : List D), Rel K cl as H st ∧ EnvR K cl as H sg env ∧ ShL K cl as H vs ds ∧ match g ds env st with
  | some p => ∀ as' H' sg', Le as H as' H' → Rel K cl as' H' p.2 → EnvR K cl as' H' sg' p.1 → Q sg' H'
  | none => False
abbrev FGs (X : Cx) (cl : String → Addr) (t : List Expr) (g : Tgts) : Prop := PGs X t (tGs X.K cl g)
theorem PGs.w {t : List Expr} {u u' : TGs} (h : PGs X t u) (i : ∀ v sg H Q, u' v sg H Q → u v sg H Q) : PGs X t u' := ⟨fun pins s sg H v w Q I r q => h.run pins s sg H v w Q I r (i _ _ _ _ q)⟩
theorem fgs_nil : FGs X cl [] tNil' := PGs.w pgs_nil fun vs sg H Q ⟨as, st, env, ds, r0, er, x, q⟩ => by
  cases x with
  | nil => exact ⟨rfl, q as H _ Le.refl r0 er⟩
  | cons a b => exact q.elim
theorem fgs_cons {t : Expr} {ts : List Expr} {u : Tgt} {v : Tgts} (h1 : FG X cl t u) (h2 : FGs X cl ts v) (mk : ∀ {a : TG} {b : TGs}, PG X t a → PGs X ts b → PGs X (t :: ts) (gCons a b)) : FGs X cl (t :: ts) (tCons' u v) := PGs.w (mk h1 h2) fun vs sg H Q ⟨as, st, env, ds, r0, er, x, q⟩ => by
  cases x with
  | nil => exact q.elim
  | @cons w ws d ds x1 x2 =>
    refine ⟨w, ws, rfl, as, st, env, d, r0, er, x1, ?_⟩
    simp only [tCons'] at q
    cases e : u d env st with
    | none => rw [e] at q; exact q.elim
    | some p =>
      rw [e] at q
      intro as1 H1 sg1 l1 r1 er1
      refine ⟨as1, p.2, p.1, ds, r1, er1, x2.up l1, ?_⟩
      have q : match v ds p.1 p.2 with
        | some p => ∀ as' H' sg', Le as H as' H' → Rel X.K cl as' H' p.2 → EnvR X.K cl as' H' sg' p.1 → Q sg' H'
        | none => False := q
      revert q
      cases v ds p.1 p.2 with
      | none => exact fun q => q
      | some p2 => exact fun q as' H' sg' l r er => q as' H' sg' (l1.trans l) r er
theorem fg_tup {es : List Expr} {u : Tgts} {n k : Nat} {p : Pos} (mk : ∀ {t : TGs}, PGs X es t → PG X (.Tuple es k p) (gTup X.K n t)) (h : FGs X cl es u) : FG X cl (.Tuple es k p) (tTu n u) := PG.w (mk h) fun v sg H Q ⟨as, st, env, d, r0, er, x, q⟩ => by
  cases x with
  | @tup a xs ds h1 r1 =>
    simp only [tTu] at q
    by_cases hl : ds.length = n
    · rw [if_pos hl] at q
      exact ⟨a, xs, rfl, h1.sq, by rw [r1.length]; exact hl, as, st, env, ds, r0, er, r1, q⟩
    · rw [if_neg hl] at q
      exact q.elim
  | _ => exact q.elim
theorem fs_asg {tg : Expr} {u : Tgt} (mk : ∀ {te : TE} {g : TG}, PE X e te → PG X tg g → PS X (.Assign [tg] e pos) (tAsg te g)) (he : FE X cl W e f) (hg : FG X cl tg u) : FS X cl W (.Assign [tg] e pos) (sAsg f u) := PS.w (mk he hg) fun Dn sg H ⟨as, st, env, r0, er, q⟩ =>
  ⟨as, st, env, r0, er, Wf.ofR er q fun d s as1 H1 v _ l r1 er1 x q1 => ⟨as1, s, env, d, r1, er1, x, by
    cases e : u d env s with
    | none => rw [e] at q1; exact q1.elim
    | some p => rw [e] at q1; exact q1⟩⟩

/-! ### while -/
theorem fs_while {body : List Stmt} {v : Sm} (hp : PassesOwn (model X.prog X.w) X.A X.env X.xe) (hc : FT X cl W c f) (hb : FSs X cl W body v) : FS X cl W (.While c body [] pos) (sWhile f v) := PS.w (ps_while hp hc hb) fun Dn sg H ⟨as, st, env, r0, er, q⟩ => by
  have ne : sWhile f v env st ≠ .stuck := by intro z; rw [z] at q; exact q.elim
  obtain ⟨n, hn⟩ := sWhile_ex rfl ne
  rw [← hn] at q
  refine ⟨fun m sg H => ∃ (as : As) (st : Store) (env : Env), Rel X.K cl as H st ∧ EnvR X.K cl as H sg env ∧ Wf X.K cl W as H Dn (wIter f v m env st), ⟨n, as, st, env, r0, er, q⟩, ?_⟩
  rintro m sg1 H1 ⟨as1, st1, env1, r1, er1, q1⟩
  cases m with
  | zero => exact q1.elim
  | succ m =>
    refine ⟨as1, st1, env1, r1, er1, ?_⟩
    unfold wIter at q1
    cases e : f env1 st1 with
    | stuck => rw [e] at q1; exact q1.elim
    | exn cc fs s => rw [e] at q1; exact fun as' H' cls d l r x => q1 as' H' sg1 cls d l r (er1.up l) x
    | ok d s =>
      rw [e] at q1
      cases d with
      | bl k =>
        intro as2 H2 l2 r2
        have er2 := er1.up l2
        cases k with
        | false => exact q1 as2 H2 sg1 l2 r2 er2
        | true =>
          refine ⟨fun sg H => ∃ (as : As) (st : Store) (env : Env), Rel X.K cl as H st ∧ EnvR X.K cl as H sg env ∧ Wf X.K cl W as H Dn (wIter f v m env st), fun sg' H' z => ⟨m, Nat.lt_succ_self m, z⟩, as2, s, env1, r2, er2, ?_⟩
          have q2 := Wf.up l2 q1
          dsimp only [ofR] at q2
          cases e2 : v env1 s with
          | nx e s2 => rw [e2] at q2; exact fun as' H' sg' l r x => ⟨as', s2, e, r, x, Wf.up l q2⟩
          | ct e s2 => rw [e2] at q2; exact fun as' H' sg' l r x => ⟨as', s2, e, r, x, Wf.up l q2⟩
          | bk e s2 => rw [e2] at q2; exact q2
          | rt d s2 => rw [e2] at q2; exact q2
          | ex c fs e s2 => rw [e2] at q2; exact q2
          | stuck => rw [e2] at q2; exact q2
      | _ => exact q1.elim

/-! ### what is walked -/
/-- J yields the items ds, as long as what stands there stands -/
def ItOk (K : PySem.W.Frag) (cl : String → Addr) (J : It) (as : As) (H : Hp) (r : Wlk) (ds : List D) : Prop :=
  ∀ (as2 : As) (H2 : Hp) (st2 : Store) (i : Nat), Mv as H as2 H2 → Rel K cl as2 H2 st2 → Gd r st2 → (∀ d, ds[i]? = some d → J.go i H2 ∧ ∀ x H3, J.yld i H2 x H3 → Le as2 H2 as2 H3 ∧ Rel K cl as2 H3 st2 ∧ Sh K cl as2 H3 x d) ∧ (ds.length ≤ i → J.stop i H2)
def tI (K : PySem.W.Frag) (cl : String → Addr) (W : WX) (f : Its) : TI := fun sg H R => ∃ (as : As) (st : Store) (env : Env), Rel K cl as H st ∧ EnvR K cl as H sg env ∧ match f env st with
  | .ok r st' => ∀ as' H' J, Le as H as' H' → Rel K cl as' H' st' → ItOk K cl J as' H' r r.2 → R J H'
  | .exn c fs st' => ∀ as' H' cls d, Le as H as' H' → Rel K cl as' H' st' → ExcR K cl as' H' cls d c fs → W cls d sg H'
  | .stuck => False
abbrev FI (X : Cx) (cl : String → Addr) (W : WX) (tg iter : Expr) (f : Its) : Prop := PI X tg iter (tI X.K cl W f)
theorem PI.w {tg iter : Expr} {u u' : TI} (h : PI X tg iter u) (i : ∀ sg H R, u' sg H R → u sg H R) : PI X tg iter u' := ⟨fun pins s sg H R I q => h.run pins s sg H R I (i _ _ _ q)⟩
theorem fs_for {tg iter : Expr} {body : List Stmt} {it : Its} {u : Tgt} {v : Sm} (hp : PassesOwn (model X.prog X.w) X.A X.env X.xe) (hc : X.calm = true) (hi : FI X cl W tg iter it) (hg : FG X cl tg u) (hb : FSs X cl W body v)
    (mk : ∀ {wi : TI} {g : TG} {tb : TS}, PI X tg iter wi → PG X tg g → PSs X body tb → PS X (.For tg iter body [] pos) (tFor wi g tb)) : FS X cl W (.For tg iter body [] pos) (sFor it u v) := PS.w (mk hi hg hb) fun Dn sg H ⟨as, st, env, r0, er, q⟩ => by
  refine ⟨as, st, env, r0, er, ?_⟩
  unfold sFor at q
  cases e : it env st with
  | stuck => rw [e] at q; exact q.elim
  | exn c fs s => rw [e] at q; exact fun as' H' cls d l r x => q as' H' sg cls d l r (er.up l) x
  | ok sr s =>
    rw [e] at q
    obtain ⟨gd, ds⟩ := sr
    dsimp only at q
    intro as1 H1 J l1 r1 J1
    dsimp only at J1
    refine ⟨fun i m sg H => m + i = ds.length ∧ ∃ (as : As) (st : Store) (env : Env), Le as1 H1 as H ∧ Rel X.K cl as H st ∧ EnvR X.K cl as H sg env ∧ Wf X.K cl W as H Dn (forG (gd, ds) u v (ds.drop i) env st), ⟨ds.length, rfl, as1, s, env, Le.refl, r1, er.up l1, Wf.up l1 q⟩, ?_⟩
    rintro i m sg2 H2 ⟨hm, as2, st2, env2, l2, r2, er2, q2⟩
    cases m with
    | zero =>
      rw [List.drop_eq_nil_of_le (by omega)] at q2
      unfold forG at q2
      by_cases hg : Gd (gd, ds) st2
      · rw [if_pos hg] at q2
        exact .inl ⟨(J1 as2 H2 st2 i l2.toMv r2 hg).2 (by omega), q2 as2 H2 sg2 Le.refl r2 er2⟩
      · rw [if_neg hg] at q2
        exact q2.elim
    | succ m =>
      have hi : i < ds.length := by omega
      have hg : Gd (gd, ds) st2 := by
        by_cases hg : Gd (gd, ds) st2
        · exact hg
        · rw [List.drop_eq_getElem_cons hi] at q2
          unfold forG at q2
          rw [if_neg hg] at q2
          exact q2.elim
      obtain ⟨go, stp⟩ := J1 as2 H2 st2 i l2.toMv r2 hg
      obtain ⟨g1, g2⟩ := go ds[i] (List.getElem?_eq_getElem hi)
      refine .inr ⟨g1, fun sg H => m + (i + 1) = ds.length ∧ ∃ (as : As) (st : Store) (env : Env), Le as1 H1 as H ∧ Rel X.K cl as H st ∧ EnvR X.K cl as H sg env ∧ Wf X.K cl W as H Dn (forG (gd, ds) u v (ds.drop (i + 1)) env st), fun sg' H' z => ⟨m, Nat.lt_succ_self m, z⟩, fun x H3 hy => ?_⟩
      obtain ⟨l3, r3, x3⟩ := g2 x H3 hy
      have q3 := Wf.up l3 q2
      rw [List.drop_eq_getElem_cons hi] at q3
      unfold forG at q3
      rw [if_pos hg] at q3
      refine ⟨as2, st2, env2, ds[i], r3, er2.up l3, x3, ?_⟩
      cases e3 : u ds[i] env2 st2 with
      | none => rw [e3] at q3; exact q3.elim
      | some p =>
        rw [e3] at q3
        intro as4 H4 sg4 l4 r4 er4
        refine ⟨as4, p.2, p.1, r4, er4, ?_⟩
        have q4 := Wf.up l4 q3
        have l14 : Le as1 H1 as4 H4 := (l2.trans l3).trans l4
        dsimp only at q4
        cases e5 : v p.1 p.2 with
        | nx e s2 => rw [e5] at q4; exact fun as' H' sg' l r x => ⟨by omega, as', s2, e, l14.trans l, r, x, Wf.up l q4⟩
        | ct e s2 => rw [e5] at q4; exact fun as' H' sg' l r x => ⟨by omega, as', s2, e, l14.trans l, r, x, Wf.up l q4⟩
        | bk e s2 => rw [e5] at q4; exact q4
        | rt d s2 => rw [e5] at q4; exact q4
        | ex c fs e s2 => rw [e5] at q4; exact q4
        | stuck => rw [e5] at q4; exact q4
/-- a list that stays -/
theorem itl_ok {K : PySem.W.Frag} {as : As} {H : Hp} {p : Addr} {xs : List V} {ds : List D} {r : Wlk} (h : FzL K as H p xs) (x : ShL K cl as H xs ds) : ItOk K cl (Itl K p) as H r ds := by
  intro as2 H2 st2 i l r _
  have h2 := (l.fzL h).sq
  have x2 := x.upM l
  refine ⟨fun d hd => ?_, fun hi => ⟨xs, h2, by rw [x2.length]; exact hi⟩⟩
  obtain ⟨v, e1, e2⟩ := x2.get hd
  refine ⟨⟨xs, v, h2, e1⟩, fun y H3 ⟨e, z⟩ => ?_⟩
  subst e
  have := z xs h2
  rw [e1] at this
  cases this
  exact ⟨Le.refl, r, e2⟩
/-- a cell, as long as it stands so -/
theorem itl_cell {K : PySem.W.Frag} {as : As} {H : Hp} {p : Addr} {ds : List D} {k : Nat} (h : as.c[k]? = some p) : ItOk K cl (Itl K p) as H (some k, ds) ds := by
  intro as2 H2 st2 i l r g
  cases r.cell k p (.lst ds) (l.pre k p h) g with
  | @lst xs ds h0 x2 =>
    have h2 : SqL K H2 p xs := .inl (.inl h0)
    refine ⟨fun d hd => ?_, fun hi => ⟨xs, h2, by rw [x2.length]; exact hi⟩⟩
    obtain ⟨v, e1, e2⟩ := x2.get hd
    refine ⟨⟨xs, v, h2, e1⟩, fun y H3 ⟨e, z⟩ => ?_⟩
    subst e
    have := z xs h2
    rw [e1] at this
    cases this
    exact ⟨Le.refl, r, e2⟩
theorem itt_ok {K : PySem.W.Frag} {as : As} {H : Hp} {p : Addr} {xs : List V} {ds : List D} {r : Wlk} (h : FzT K as H p xs) (x : ShL K cl as H xs ds) : ItOk K cl (Itt K p) as H r ds := by
  intro as2 H2 st2 i l r _
  have h2 := (l.fzT h).sq
  have x2 := x.upM l
  refine ⟨fun d hd => ?_, fun hi => ⟨xs, h2, by rw [x2.length]; exact hi⟩⟩
  obtain ⟨v, e1, e2⟩ := x2.get hd
  refine ⟨⟨xs, v, h2, e1⟩, fun y H3 ⟨e, z⟩ => ?_⟩
  subst e
  have := z xs h2
  rw [e1] at this
  cases this
  exact ⟨Le.refl, r, e2⟩
theorem itr_ok {K : PySem.W.Frag} {as : As} {H : Hp} {lo : Int} {n : Nat} {r : Wlk} : ItOk K cl (Itr lo n) as H r (intsD lo n) := by
  intro as2 H2 st2 i l r _
  refine ⟨fun d hd => ?_, fun hi => by simp only [intsD, List.length_map, List.length_range] at hi; exact hi⟩
  have hi : i < n := by
    have := (List.getElem?_eq_some_iff.mp hd).1
    simpa [intsD] using this
  simp only [intsD] at hd
  rw [List.getElem?_map, List.getElem?_range hi] at hd
  cases hd
  refine ⟨hi, fun y H3 ⟨e, z⟩ => ?_⟩
  subst e
  subst z
  exact ⟨Le.refl, r, .int _⟩
theorem enumD_get {ds : List D} {i : Nat} {d : D} (h : (enumD ds)[i]? = some d) : ∃ e, ds[i]? = some e ∧ d = .tup [.int i, e] := by
  unfold enumD at h
  rw [List.getElem?_mapIdx] at h
  cases e : ds[i]? with
  | none => rw [e] at h; cases h
  | some x => rw [e] at h; exact ⟨x, rfl, (Option.some.inj h).symm⟩
theorem enumD_len (ds : List D) : (enumD ds).length = ds.length := by
  unfold enumD
  rw [List.length_mapIdx]
theorem ite_ok {K : PySem.W.Frag} {as : As} {H : Hp} {p : Addr} {xs : List V} {ds : List D} {r : Wlk} (h : FzL K as H p xs) (x : ShL K cl as H xs ds) : ItOk K cl (Ite K p) as H r (enumD ds) := by
  intro as2 H2 st2 i l r _
  have h2 := (l.fzL h).sq
  have x2 := x.upM l
  refine ⟨fun d hd => ?_, fun hi => ⟨xs, h2, by rw [x2.length]; rw [enumD_len] at hi; exact hi⟩⟩
  obtain ⟨e, he, rfl⟩ := enumD_get hd
  obtain ⟨v, e1, e2⟩ := x2.get he
  refine ⟨⟨xs, v, h2, e1⟩, fun y H3 ⟨T, w, hy, hT, e, z⟩ => ?_⟩
  subst e hy
  have := z xs h2
  rw [e1] at this
  cases this
  have lm : Le as2 H2 as2 (upd H2 T (.tup [.int (i : Nat), v])) := Le.new r hT
  exact ⟨lm, r.new hT, .tup (.inl ⟨r.fresh hT, .inl upd_same⟩) (.cons (.int _) (.cons (e2.up lm) .nil))⟩
theorem fi_lst {tg l : Expr} (hl : FE X cl W l f) : FI X cl W tg l (iLst f) := PI.w (pi_list hl) fun sg H R ⟨as, st, env, r0, er, q⟩ => by
  refine ⟨as, st, env, r0, er, ?_⟩
  unfold iLst at q
  cases e : f env st with
  | stuck => rw [e] at q; exact q.elim
  | exn c fs s => rw [e] at q; exact q
  | ok d s =>
    rw [e] at q
    intro as1 H1 v l1 r1 x
    cases x with
    | lst h1 x1 => exact ⟨_, rfl, ⟨_, h1.sq⟩, q as1 H1 _ l1 r1 (itl_ok h1 x1)⟩
    | @ref k a h1 =>
      simp only [Res.bind, lstI] at q
      cases ec : s[k]? with
      | none => rw [ec] at q; exact q.elim
      | some c =>
        rw [ec] at q
        cases c with
        | lst ds =>
          have hc := r1.cell k a (.lst ds) h1 ec
          cases hc with
          | lst h0 x0 => exact ⟨_, rfl, ⟨_, .inl (.inl h0)⟩, q as1 H1 _ l1 r1 (itl_cell h1)⟩
        | _ => exact q.elim
    | _ => exact q.elim
theorem fi_tup {tg l : Expr} (hl : FE X cl W l f) : FI X cl W tg l (iTupl f) := PI.w (pi_tup hl) fun sg H R ⟨as, st, env, r0, er, q⟩ => by
  refine ⟨as, st, env, r0, er, ?_⟩
  unfold iTupl at q
  cases e : f env st with
  | stuck => rw [e] at q; exact q.elim
  | exn c fs s => rw [e] at q; exact q
  | ok d s =>
    rw [e] at q
    intro as1 H1 v l1 r1 x
    cases x with
    | tup h1 x1 => exact ⟨_, rfl, ⟨_, h1.sq⟩, q as1 H1 _ l1 r1 (itt_ok h1 x1)⟩
    | _ => exact q.elim
theorem fi_enu {elts : List Expr} {kk : Nat} {tpos : Pos} {a : Expr} {fa : Exs} {p : Pos} (hg : Gl X "enumerate") (hm : X.mg "enumerate" = none) (ha : FA X cl W 1 [a] fa) (hs : starEach [a] X.env = [(false, eval a X.env)] := by rfl) : FI X cl W (.Tuple elts kk tpos) (.Call (.Name "enumerate" p) [a] [] pos) (iEnu fa) := PI.w (pi_enum hg hm ha.pa hs) fun sg H R ⟨as, st, env, r0, er, q⟩ => by
  refine ⟨as, st, env, r0, er, ?_⟩
  unfold iEnu at q
  cases e : fa env st with
  | stuck => rw [e] at q; exact q.elim
  | exn c fs s => rw [e] at q; exact q
  | ok ds s =>
    rw [e] at q
    intro as1 H1 vs l1 r1 x
    cases x with
    | nil => exact q.elim
    | cons x1 x2 =>
      cases x2 with
      | cons _ _ => cases x1 <;> exact q.elim
      | nil =>
        cases x1 with
        | lst h1 x1 => exact ⟨_, _, rfl, h1.sq, q as1 H1 _ l1 r1 (ite_ok h1 x1)⟩
        | _ => exact q.elim
theorem fi_range1 {tg a : Expr} {fa : Exs} {p : Pos} (hg : Gl X "range") (hm : X.mg "range" = none) (ha : FA X cl W 1 [a] fa) (hs : starEach [a] X.env = [(false, eval a X.env)] := by rfl) : FI X cl W tg (.Call (.Name "range" p) [a] [] pos) (iRange1 fa) := PI.w (pi_range1 hg hm ha.pa hs) fun sg H R ⟨as, st, env, r0, er, q⟩ => by
  refine ⟨as, st, env, r0, er, ?_⟩
  unfold iRange1 at q
  cases e : fa env st with
  | stuck => rw [e] at q; exact q.elim
  | exn c fs s => rw [e] at q; exact q
  | ok ds s =>
    rw [e] at q
    intro as1 H1 vs l1 r1 x
    cases x with
    | nil => exact q.elim
    | cons x1 x2 =>
      cases x2 with
      | cons _ _ => cases x1 <;> exact q.elim
      | nil =>
        cases x1 with
        | int j =>
          simp only [Res.bind, rng1] at q
          by_cases hj : -(2 ^ 62) ≤ j ∧ j < 2 ^ 62
          · rw [if_pos hj] at q
            exact ⟨j, rfl, hj.1, hj.2, q as1 H1 _ l1 r1 itr_ok⟩
          · rw [if_neg hj] at q; exact q.elim
        | _ => exact q.elim
theorem fi_range2 {tg a b : Expr} {fa : Exs} {p : Pos} (hg : Gl X "range") (hm : X.mg "range" = none) (ha : FA X cl W 2 [a, b] fa) (hs : starEach [a, b] X.env = [(false, eval a X.env), (false, eval b X.env)] := by rfl) (hs2 : starEach [b] X.env = [(false, eval b X.env)] := by rfl) : FI X cl W tg (.Call (.Name "range" p) [a, b] [] pos) (iRange2 fa) := PI.w (pi_range2 hg hm ha.pa hs hs2) fun sg H R ⟨as, st, env, r0, er, q⟩ => by
  refine ⟨as, st, env, r0, er, ?_⟩
  unfold iRange2 at q
  cases e : fa env st with
  | stuck => rw [e] at q; exact q.elim
  | exn c fs s => rw [e] at q; exact q
  | ok ds s =>
    rw [e] at q
    intro as1 H1 vs l1 r1 x
    cases x with
    | nil => exact q.elim
    | cons x1 x2 =>
      cases x2 with
      | nil => cases x1 <;> exact q.elim
      | cons x2 x3 =>
        cases x3 with
        | cons _ _ => cases x1 <;> first | exact q.elim | (cases x2 <;> exact q.elim)
        | nil =>
          cases x1 with
          | int i =>
            cases x2 with
            | int j =>
              simp only [Res.bind, rng2] at q
              by_cases hj : -(2 ^ 62) ≤ i ∧ i < 2 ^ 62 ∧ -(2 ^ 62) ≤ j ∧ j < 2 ^ 62
              · rw [if_pos hj] at q
                exact ⟨i, j, rfl, hj, q as1 H1 _ l1 r1 itr_ok⟩
              · rw [if_neg hj] at q; exact q.elim
            | _ => exact q.elim
          | _ => exact q.elim
end
end F3

/-! F3, part e: comprehensions; methods of built-in types; slices; the operators on data. -/
namespace F3
open PySem PySem.Spec PyProof.Rows L2

section
variable {X : Cx} {cl : String → Addr} {W : WX} {a b c e : Expr} {f g h : Ex} {pos : Pos}
abbrev W0 : WX := fun _ _ _ _ => False
/-- the list that is being filled is changed -/
theorem Mv.aside {as : As} {H : Hp} {p : Addr} {o : HO} (hp : p ∈ as.r) : Mv as H as (upd H p o) :=
  ⟨fun _ _ h => h, fun a u n e => ⟨by rw [upd_ne (fun z : a = p => n (.inr (by rw [z]; exact hp)))]; exact e, n⟩⟩
theorem Rel.aside {K : PySem.W.Frag} {as : As} {H : Hp} {st : Store} {p : Addr} {o : HO} (r : Rel K cl as H st) (hp : p ∈ as.r) : Rel K cl as (upd H p o) st := by
  obtain ⟨hc, u, hu⟩ := r.rs p hp
  refine ⟨r.len, r.nd, fun i a c e1 e2 => ?_, fun a m => ⟨(r.rs a m).1, ?_⟩⟩
  · have ha : a ≠ p := fun z => hc (z ▸ List.mem_of_getElem? e1)
    exact (r.cell i a c e1 e2).mono (Mv.aside hp) fun o' eo => by rw [upd_ne ha]; exact eo
  · by_cases z : a = p
    · rw [z]; exact ⟨_, upd_same⟩
    · obtain ⟨v, ev⟩ := (r.rs a m).2
      exact ⟨v, by rw [upd_ne z]; exact ev⟩
/-- a place is put aside -/
theorem Mv.put {as : As} {H : Hp} {p : Addr} {o : HO} (hp : H p = none) : Mv as H ⟨as.c, p :: as.r⟩ (upd H p o) :=
  ⟨fun _ _ h => h, fun a u n e => by
    have ne := ne_of_none e hp
    refine ⟨by rw [upd_ne ne]; exact e, fun m => ?_⟩
    rcases m with m | m
    · exact n (.inl m)
    · rcases List.mem_cons.mp m with m | m
      · exact ne m
      · exact n (.inr m)⟩
theorem Rel.put {K : PySem.W.Frag} {as : As} {H : Hp} {st : Store} {p : Addr} {o : HO} (r : Rel K cl as H st) (hp : H p = none) : Rel K cl ⟨as.c, p :: as.r⟩ (upd H p o) st := by
  refine ⟨r.len, r.nd, fun i a c e1 e2 => ?_, fun a m => ?_⟩
  · exact (r.cell i a c e1 e2).mono (Mv.put hp) fun o' eo => by rw [upd_ne (ne_of_none eo hp)]; exact eo
  · rcases List.mem_cons.mp m with m | m
    · rw [m]; exact ⟨fun z => r.fresh hp (.inl z), _, upd_same⟩
    · obtain ⟨u, eu⟩ := (r.rs a m).2
      exact ⟨(r.rs a m).1, u, by rw [upd_ne (ne_of_none eu hp)]; exact eu⟩
/-- it is an object like others again -/
theorem Mv.back {c r1 : List Addr} {p : Addr} {H : Hp} : Mv ⟨c, p :: r1⟩ H ⟨c, r1⟩ H :=
  ⟨fun _ _ h => h, fun a o n e => ⟨e, fun m => n (m.elim .inl fun m => .inr (List.mem_cons.mpr (.inr m)))⟩⟩
theorem Rel.back {K : PySem.W.Frag} {c r1 : List Addr} {p : Addr} {H : Hp} {st : Store} (r : Rel K cl ⟨c, p :: r1⟩ H st) : Rel K cl ⟨c, r1⟩ H st :=
  ⟨r.len, r.nd, fun i a c' e1 e2 => (r.cell i a c' e1 e2).mono Mv.back fun _ e => e, fun a m => r.rs a (List.mem_cons.mpr (.inr m))⟩
/-- a target that stores in the names vs alone -/
def TgW (K : PySem.W.Frag) (cl : String → Addr) (g : TG) (u : Tgt) (vs : List Nat) : Prop := ∀ (v : V) (sg : L2.St) (H : Hp) (Q : L2.St → Hp → Prop) (as : As) (st : Store) (env : Env) (d : D), Rel K cl as H st → EnvR K cl as H sg env → Sh K cl as H v d →
  (match u d env st with
    | some p => ∀ sg', EnvR K cl as H sg' p.1 → p.2 = st → wipe sg' vs = wipe sg vs → Q sg' H
    | none => False) → g v sg H Q
theorem wipe_set {sg : L2.St} {i : Nat} {o : Option V} : ∀ {vs : List Nat}, i ∈ vs → wipe (sg.set i o) vs = wipe sg vs
  | v :: vs, h => by
    unfold wipe
    by_cases hv : i ∈ vs
    · rw [wipe_set hv]
    · have e : i = v := by
        rcases List.mem_cons.mp h with h | h
        · exact h
        · exact absurd h hv
      subst e
      have : ∀ (ws : List Nat), i ∉ ws → (wipe (sg.set i o) ws).set i none = (wipe sg ws).set i none := by
        intro ws
        induction ws with
        | nil => intro _; unfold wipe; rw [List.set_set]
        | cons w ws ih =>
          intro hw
          unfold wipe
          have h1 : w ≠ i := fun z => hw (z ▸ List.mem_cons_self)
          rw [List.set_comm _ _ h1, List.set_comm _ _ h1, ih fun z => hw (List.mem_cons_of_mem _ z)]
      exact this vs hv
theorem wipe_idem (sg : L2.St) (vs : List Nat) : wipe (wipe sg vs) vs = wipe sg vs := by
  have : ∀ (ws us : List Nat), (∀ w ∈ ws, w ∈ us) → wipe (wipe sg ws) us = wipe sg us := by
    intro ws
    induction ws with
    | nil => intro us _; rfl
    | cons w ws ih =>
      intro us hs
      show wipe ((wipe sg ws).set w none) us = _
      rw [wipe_set (hs w List.mem_cons_self)]
      exact ih us fun x hx => hs x (List.mem_cons_of_mem _ hx)
  exact this vs vs fun _ h => h
theorem EnvR.wipe {K : PySem.W.Frag} {as : As} {H : Hp} {sg : L2.St} {env : Env} (er : EnvR K cl as H sg env) : ∀ vs : List Nat, EnvR K cl as H (L2.wipe sg vs) (wipeE env vs)
  | [] => er
  | v :: vs => (EnvR.wipe er vs).unset v none
theorem tgw_name {K : PySem.W.Frag} {i : Nat} {vs : List Nat} (h : i ∈ vs) : TgW K cl (gName i) (tNm i) vs := fun v sg H Q as st env d r er x q => q _ (er.set i x) rfl (wipe_set h)
/-- several names -/
def TgWs (K : PySem.W.Frag) (cl : String → Addr) (g : TGs) (u : Tgts) (vs : List Nat) : Prop := ∀ (v : List V) (sg : L2.St) (H : Hp) (Q : L2.St → Hp → Prop) (as : As) (st : Store) (env : Env) (d : List D), Rel K cl as H st → EnvR K cl as H sg env → ShL K cl as H v d →
  (match u d env st with
    | some p => ∀ sg', EnvR K cl as H sg' p.1 → p.2 = st → wipe sg' vs = wipe sg vs → Q sg' H
    | none => False) → g v sg H Q
theorem tgws_nil {K : PySem.W.Frag} {vs : List Nat} : TgWs K cl gNil tNil' vs := fun v sg H Q as st env d r er x q => by
  cases x with
  | nil => exact ⟨rfl, q sg er rfl rfl⟩
  | cons a b => exact q.elim
theorem tgws_cons {K : PySem.W.Frag} {vs : List Nat} {g : TG} {u : Tgt} {gs : TGs} {us : Tgts} (h1 : TgW K cl g u vs) (h2 : TgWs K cl gs us vs) : TgWs K cl (gCons g gs) (tCons' u us) vs := fun v sg H Q as st env d r er x q => by
  cases x with
  | nil => exact q.elim
  | @cons w ws d ds x1 x2 =>
    refine ⟨w, ws, rfl, h1 w sg H _ as st env d r er x1 ?_⟩
    simp only [tCons'] at q
    cases e : u d env st with
    | none => rw [e] at q; exact q.elim
    | some p =>
      rw [e] at q
      intro sg1 er1 es ew
      refine h2 ws sg1 H _ as st p.1 ds r er1 x2 ?_
      have q : match us ds p.1 p.2 with
        | some p => ∀ sg', EnvR K cl as H sg' p.1 → p.2 = st → wipe sg' vs = wipe sg vs → Q sg' H
        | none => False := q
      rw [es] at q
      revert q
      cases us ds p.1 st with
      | none => exact fun q => q
      | some p2 => exact fun q sg' er' es' ew' => q sg' er' es' (ew'.trans ew)
theorem tgw_tup {K : PySem.W.Frag} {vs : List Nat} {gs : TGs} {us : Tgts} {n : Nat} (h : TgWs K cl gs us vs) : TgW K cl (gTup K n gs) (tTu n us) vs := fun v sg H Q as st env d r er x q => by
  cases x with
  | @tup a xs ds h1 r1 =>
    simp only [tTu] at q
    by_cases hl : ds.length = n
    · rw [if_pos hl] at q
      exact ⟨a, xs, rfl, h1.sq, by rw [r1.length]; exact hl, h xs sg H Q as st env ds r er r1 q⟩
    · rw [if_neg hl] at q
      exact q.elim
  | _ => exact q.elim

theorem bindS_ok {A : Type} {r : Res A} {k : A → Store → Res (List D)} (h : r.bindS k ≠ .stuck) : ∃ x s, r = .ok x s := by
  cases r with
  | ok x s => exact ⟨x, s, rfl⟩
  | exn c fs s => exact absurd rfl h
  | stuck => exact absurd rfl h
theorem lcL_gd {r : Wlk} {u : Tgt} {t e : Ex} {vs : List Nat} {env : Env} {ds acc : List D} {st : Store} (h : lcL r u t e vs env ds acc st ≠ .stuck) : Gd r st := by
  by_cases hg : Gd r st
  · exact hg
  · cases ds with
    | nil =>
      unfold lcL at h
      rw [if_neg hg] at h
      exact absurd rfl h
    | cons d ds =>
      unfold lcL at h
      rw [if_neg hg] at h
      exact absurd rfl h
theorem imp_lc {it : Its} {u : Tgt} {t e : Ex} {vs : List Nat} {gt : TG} (hg : TgW X.K cl gt u vs) : ∀ sg H Q, tF X.K cl W (eLc it u t e vs) sg H Q → tLc (tI X.K cl W it) gt (tFt X.K cl W0 t) (tF X.K cl W0 e) vs sg H Q := fun sg H Q ⟨as, st, env, r0, er, q⟩ => by
  refine ⟨as, st, env, r0, er, ?_⟩
  unfold eLc at q
  cases e0 : it env st with
  | stuck => rw [e0] at q; exact q.elim
  | exn c fs s => rw [e0] at q; exact q
  | ok sr s =>
    rw [e0] at q
    obtain ⟨gd, ds⟩ := sr
    simp only [Res.bind] at q
    intro as1 H1 J l1 r1 J1 Dl hD
    dsimp only at J1
    have ne : lcL (gd, ds) u t e vs env ds [] s ≠ .stuck := by intro z; rw [z] at q; exact q.elim
    have q := Wt.up l1 q
    have er1 := er.up l1
    generalize hL : lcL (gd, ds) u t e vs env ds [] s = L0 at ne q
    refine ⟨fun i m H => m + i = ds.length ∧ ∃ (as : As) (st : Store) (acc : List D) (xs : List V), as.r = Dl :: as1.r ∧ Mv as1 H1 as H ∧ (∀ a ∈ as1.r, H a = H1 a) ∧ Rel X.K cl as H st ∧ H Dl = some (.lst xs) ∧ ShL X.K cl as H xs acc ∧ L0 = lcL (gd, ds) u t e vs env (ds.drop i) acc st, ⟨ds.length, rfl, ?_⟩, ?_⟩
    · have hres : ∀ a ∈ as1.r, (upd H1 Dl (.lst [])) a = H1 a := fun a m => upd_ne fun z => by
        obtain ⟨o, eo⟩ := (r1.rs a m).2
        rw [z, hD] at eo; cases eo
      exact ⟨⟨as1.c, Dl :: as1.r⟩, s, [], [], rfl, Mv.put hD, hres, r1.put hD, upd_same, .nil, hL.symm⟩
    · rintro i m H2 ⟨hm, as2, s2, acc, xs, hr, mv, hk, r2, hd, hx, hq⟩
      have hgd : Gd (gd, ds) s2 := lcL_gd (by rw [← hq]; exact ne)
      obtain ⟨go, stp⟩ := J1 as2 H2 s2 i mv r2 hgd
      cases m with
      | zero =>
        refine .inl ⟨stp (by omega), ?_⟩
        rw [List.drop_eq_nil_of_le (by omega)] at hq
        unfold lcL at hq
        rw [if_pos hgd] at hq
        rw [hq] at q
        have e2 : as2 = ⟨as2.c, Dl :: as1.r⟩ := by rw [← hr]
        rw [e2] at r2 hx mv
        have mv2 : Mv as1 H1 ⟨as2.c, as1.r⟩ H2 := ⟨fun i a h => mv.pre i a h, fun a o n eo => ⟨(mv.keep a o n eo).1, fun z => (mv.keep a o n eo).2 (z.elim .inl fun z => .inr (List.mem_cons.mpr (.inr z)))⟩⟩
        refine q ⟨as2.c, as1.r⟩ H2 (.ref Dl) ⟨mv2, rfl, hk⟩ r2.back (.lst (.inl ⟨fun z => ?_, .inl hd⟩) (hx.upM Mv.back))
        rcases z with z | z
        · exact (r2.rs Dl (List.mem_cons.mpr (.inl rfl))).1 z
        · obtain ⟨o, eo⟩ := (r1.rs Dl z).2
          rw [hD] at eo; cases eo
      | succ m =>
        have hi : i < ds.length := by omega
        obtain ⟨g1, g2⟩ := go ds[i] (List.getElem?_eq_getElem hi)
        refine .inr ⟨g1, fun H => m + (i + 1) = ds.length ∧ ∃ (as : As) (st : Store) (acc : List D) (xs : List V), as.r = Dl :: as1.r ∧ Mv as1 H1 as H ∧ (∀ a ∈ as1.r, H a = H1 a) ∧ Rel X.K cl as H st ∧ H Dl = some (.lst xs) ∧ ShL X.K cl as H xs acc ∧ L0 = lcL (gd, ds) u t e vs env (ds.drop (i + 1)) acc st, fun H' z => ⟨m, Nat.lt_succ_self m, z⟩, fun x H3 hy => ?_⟩
        obtain ⟨l3, r3, x3⟩ := g2 x H3 hy
        have mD : Dl ∈ as2.r := by rw [hr]; exact List.mem_cons.mpr (.inl rfl)
        have hst := hq
        rw [List.drop_eq_getElem_cons hi] at hq
        rw [hq] at ne
        unfold lcL at hq ne
        rw [if_pos hgd] at hq ne
        refine hg x _ H3 _ as2 s2 (wipeE env vs) ds[i] r3 (((er1.upM mv).up l3).wipe vs) x3 ?_
        cases e3 : u ds[i] (wipeE env vs) s2 with
        | none => rw [e3] at ne; exact absurd rfl ne
        | some p =>
          rw [e3] at hq ne
          dsimp only at hq ne ⊢
          intro sg' er' ep ew
          refine ⟨by rw [ew, wipe_idem], as2, p.2, p.1, by rw [ep]; exact r3, er', ?_⟩
          obtain ⟨b, s4, e4⟩ := bindS_ok ne
          rw [e4] at hq ne ⊢
          simp only [Res.bindS] at hq ne
          cases b with
          | bl k =>
            intro as4 H4 l4 r4
            have mD4 : Dl ∈ as4.r := by rw [l4.res]; exact mD
            have hd4 : H4 Dl = some (.lst xs) := by rw [l4.resk Dl (by exact mD), l3.resk Dl mD]; exact hd
            have mv4 : Mv as1 H1 as4 H4 := (mv.trans l3.toMv).trans l4.toMv
            have hr4 : as4.r = Dl :: as1.r := by rw [l4.res]; exact hr
            have hk4 : ∀ a ∈ as1.r, H4 a = H1 a := fun a z => by
              have z2 : a ∈ as2.r := by rw [hr]; exact List.mem_cons.mpr (.inr z)
              rw [l4.resk a z2, l3.resk a z2]; exact hk a z
            cases k with
            | false =>
              rw [if_neg Bool.false_ne_true]
              exact ⟨by omega, as4, s4, acc, xs, hr4, mv4, hk4, r4, hd4, (hx.up l3).up l4, hq⟩
            | true =>
              rw [if_pos rfl]
              dsimp only at hq ne
              refine ⟨as4, s4, p.1, r4, er'.up l4, ?_⟩
              obtain ⟨y, s5, e5⟩ := bindS_ok ne
              rw [e5] at hq ne ⊢
              simp only [Res.bindS] at hq ne
              by_cases hl : acc.length < 100000
              · rw [if_pos hl] at hq
                intro as5 H5 v l5 r5 x5
                have mD5 : Dl ∈ as5.r := by rw [l5.res]; exact mD4
                have hd5 : H5 Dl = some (.lst xs) := by rw [l5.resk Dl mD4]; exact hd4
                refine ⟨xs, hd5, by rw [hx.length]; exact Nat.lt_of_lt_of_le hl (by decide), by omega, as5, s5, acc ++ [y], xs ++ [v], by rw [l5.res]; exact hr4, (mv4.trans l5.toMv).trans (Mv.aside mD5), fun a z => ?_, r5.aside mD5, upd_same, ?_, hq⟩
                · have z4 : a ∈ as4.r := by rw [hr4]; exact List.mem_cons.mpr (.inr z)
                  have hne : a ≠ Dl := fun w => by
                    obtain ⟨o, eo⟩ := (r1.rs a z).2
                    rw [w, hD] at eo; cases eo
                  rw [upd_ne hne, l5.resk a z4]; exact hk4 a z
                · exact ShL.append ((((hx.up l3).up l4).up l5).upM (Mv.aside mD5)) (.cons (x5.upM (Mv.aside mD5)) .nil)
              · rw [if_neg hl] at ne; exact absurd rfl ne
          | _ => exact absurd rfl ne
/-- [elt for target in iter if ..] -/
theorem fe_lc {elt tg iter : Expr} {ifs : List Expr} {scope : Scope} {own : List (Str × Nat)} {it : Its} {u : Tgt} {t e : Ex} {gt : TG} (hc : X.calm = true) (hN : X.N.Nodup) (hi : FI X cl W tg iter it) (ok : BlkOk X.N X.env.scope scope own) (hw : TgW X.K cl gt u (own.map (·.2)))
    (hg : ∀ (s : Shared) (H : Hp) (C : Addr) (cs : List (Str × Addr)) (fp : List Addr), PG (X.blk s H scope (compEnvC scope cs C X.env) fp) tg gt) (ht : ∀ (s : Shared) (H : Hp) (C : Addr) (cs : List (Str × Addr)) (fp : List Addr), PTs (X.blk s H scope (compEnvC scope cs C X.env) fp) ifs (tFt X.K cl W0 t))
    (he : ∀ (s : Shared) (H : Hp) (C : Addr) (cs : List (Str × Addr)) (fp : List Addr), FE (X.blk s H scope (compEnvC scope cs C X.env) fp) cl W0 elt e) (hs : ∀ x, foldedSetIterable iter X.env x = pure x := by intro _; rfl) :
    FE X cl W (.ListComp elt [⟨tg, iter, ifs, 0⟩] scope pos) (eLc it u t e (own.map (·.2))) := PE.w (pe_lc hc hN hi ok hg ht he hs) (imp_lc hw)
/-- name = [..] on one line, the name a local -/
theorem fs_setLc {i : Nat} {y : Str} {py spos : Pos} {elt tg iter : Expr} {ifs : List Expr} {scope : Scope} {own : List (Str × Nat)} {it : Its} {u : Tgt} {t e : Ex} {gt : TG} (hc : X.calm = true) (hN : X.N.Nodup) (hy : X.N[i]? = some y) (hyl : X.env.scope.names.lookup y = some .local)
    (hsw : swapsWith (.ListComp elt [⟨tg, iter, ifs, 0⟩] scope pos) (some (.Name y py)) spos.line X.env = pure true) (hi : FI X cl W tg iter it) (ok : BlkOk X.N X.env.scope scope own) (hw : TgW X.K cl gt u (own.map (·.2)))
    (hg : ∀ (s : Shared) (H : Hp) (C : Addr) (cs : List (Str × Addr)) (fp : List Addr), PG (X.blk s H scope (compEnvC scope cs C X.env) fp) tg gt) (ht : ∀ (s : Shared) (H : Hp) (C : Addr) (cs : List (Str × Addr)) (fp : List Addr), PTs (X.blk s H scope (compEnvC scope cs C X.env) fp) ifs (tFt X.K cl W0 t))
    (he : ∀ (s : Shared) (H : Hp) (C : Addr) (cs : List (Str × Addr)) (fp : List Addr), FE (X.blk s H scope (compEnvC scope cs C X.env) fp) cl W0 elt e) (hs : ∀ x, foldedSetIterable iter X.env x = pure x := by intro _; rfl) :
    FS X cl W (.Assign [.Name y py] (.ListComp elt [⟨tg, iter, ifs, 0⟩] scope pos) spos) (sSet i (eLc it u t e (own.map (·.2)))) := PS.w (ps_setLc hc hN hy hyl hsw hi ok hg ht he hs) fun Dn sg H ⟨as, st, env, r0, er, q⟩ =>
  imp_lc hw sg H _ ⟨as, st, env, r0, er, Wf.ofR er q fun d s as1 H1 v _ l r1 er1 x q1 => q1 as1 H1 _ Le.refl r1 (er1.set i x)⟩
theorem fts_nil : PTs X [] (tFt X.K cl W eYes) := ⟨fun pins s sg H Q I ⟨as, st, env, r0, er, q⟩ => pts_nil.run pins s sg H Q I (q as H Le.refl r0)⟩
theorem fts_one {t : Ex} (h : FT X cl W c t) : PTs X [c] (tFt X.K cl W t) := pts_one h

end
end F3

/-! F3, part f: operators on data. -/
namespace F3
open PySem PySem.Spec PyProof.Rows L2

/-! ### on data -/
def listD (st : Store) : D → Option (List D)
  | .lst ds => some ds
  | .ref i => match st[i]? with
    | some (.lst ds) => some ds
    | _ => none
  | _ => none
def addD : O2 := fun x y st => match x, y with
  | .int i, .int j => some (.int (i + j), st)
  | .str a, .str b => if a.length + b.length ≤ 100000 then some (.str (a ++ b), st) else none
  | .tup xs, .tup ys => if xs.length + ys.length ≤ 100000 then some (.tup (xs ++ ys), st) else none
  | x, y => match listD st x, listD st y with
    | some xs, some ys => if xs.length + ys.length ≤ 100000 then some (.lst (xs ++ ys), st) else none
    | _, _ => none
def subD : O2 := fun x y st => match x, y with
  | .int i, .int j => some (.int (i - j), st)
  | _, _ => none
/-- small by any, or not too great together -/
def mulOk (i j : Int) : Prop := (-(2 ^ 64) < i ∧ i < 2 ^ 64) ∨ (-(2 ^ 64) < j ∧ j < 2 ^ 64) ∨ i.natAbs.log2 + j.natAbs.log2 < 1000000
instance (i j : Int) : Decidable (mulOk i j) := by unfold mulOk; infer_instance
def mulD : O2 := fun x y st => match x, y with
  | .int i, .int j => if mulOk i j then some (.int (i * j), st) else none
  | _, _ => none
/-- list times int -/
def repD : O2 := fun x y st => match listD st x, y with
  | some xs, .int j => if 0 ≤ j ∧ j ≤ 1000 ∧ xs.length ≤ 100 then some (.lst (List.replicate j.toNat xs).flatten, st) else none
  | _, _ => none
def modD : O2 := fun x y st => match x, y with
  | .int i, .int j => if 0 < j then some (.int (i % j), st) else none
  | _, _ => none
def fdivD : O2 := fun x y st => match x, y with
  | .int i, .int j => if 0 < j ∧ j.natAbs.log2 < 9000 then some (.int (i / j), st) else none
  | _, _ => none
def powD : O2 := fun x y st => match x, y with
  | .int i, .int j => if 0 ≤ j ∧ j ≤ 1000000 ∧ i.natAbs < 2 ^ 64 then some (.int (i ^ j.toNat), st) else none
  | _, _ => none
def negD : O1 := fun x st => match x with
  | .int i => some (.int (-i), st)
  | _ => none
def ltD : O2 := fun x y st => match x, y with
  | .int i, .int j => some (.bl (decide (i < j)), st)
  | _, _ => none
def leD : O2 := fun x y st => match x, y with
  | .int i, .int j => some (.bl (decide (i ≤ j)), st)
  | _, _ => none
def gtD : O2 := fun x y st => match x, y with
  | .int i, .int j => some (.bl (decide (j < i)), st)
  | _, _ => none
def geD : O2 := fun x y st => match x, y with
  | .int i, .int j => some (.bl (decide (j ≤ i)), st)
  | _, _ => none
mutual
def pyD0 : D → Option PyData
  | .non => some .none
  | .bl b => some (.bool b)
  | .int i => some (.int i)
  | .str x => some (.str x)
  | .lst ds => (pyL0 ds).map .list
  | .tup ds => (pyL0 ds).map .tuple
  | _ => none
def pyL0 : List D → Option (List PyData)
  | [] => some []
  | d :: ds => (pyD0 d).bind fun p => (pyL0 ds).map (p :: ·)
end
mutual
/-- data as the library has it; a cell of plain data within -/
def pyD (st : Store) : D → Option PyData
  | .non => some .none
  | .bl b => some (.bool b)
  | .int i => some (.int i)
  | .str x => some (.str x)
  | .lst ds => (pyL st ds).map .list
  | .tup ds => (pyL st ds).map .tuple
  | .ref i => match st[i]? with
    | some (.lst ds) => (pyL0 ds).map .list
    | _ => none
  | _ => none
def pyL (st : Store) : List D → Option (List PyData)
  | [] => some []
  | d :: ds => (pyD st d).bind fun p => (pyL st ds).map (p :: ·)
end
/-- == of anything plain, at any depth -/
def eqB (x y : D) (st : Store) : Option Bool := match x, y with
  | .int i, .int j => some (decide (i = j))
  | .str a, .str b => some (decide (a = b))
  | .bl a, .bl b => some (decide (a = b))
  | x, y => (pyD st x).bind fun p => (pyD st y).bind fun q => if SeqAt.shaped p = true ∧ SeqAt.shaped q = true then some (PyData.eqv p q) else none
def eqD : O2 := fun x y st => (eqB x y st).map fun b => (.bl b, st)
def neD : O2 := fun x y st => (eqB x y st).map fun b => (.bl (!b), st)
def isND : O2 := fun x y st => match y with
  | .non => some (.bl (match x with | .non => true | _ => false), st)
  | _ => none
def notND : O2 := fun x y st => match y with
  | .non => some (.bl (match x with | .non => false | _ => true), st)
  | _ => none
/-- the place of an index, as Python counts -/
def ixAt {A : Type} (xs : List A) (i : Int) : Option A := if 0 ≤ i then xs[i.toNat]? else if -(xs.length : Int) ≤ i then xs[(i + xs.length).toNat]? else none
def ixD : O2 := fun x y st => match x, y with
  | .tup ds, .int i => (ixAt ds i).map fun d => (d, st)
  | .str z, .int i => if z.length ≤ 100000 then (ixAt z.cps.toList i).map fun c => (.str ⟨#[c]⟩, st) else none
  | x, .int i => (listD st x).bind fun ds => (ixAt ds i).map fun d => (d, st)
  | _, _ => none

section
variable {X : Cx} {cl : String → Addr} {W : WX} {K : PySem.W.Frag} {as : As} {H : Hp} {st : Store}
theorem listD_sq {x : D} {v : V} {ds : List D} (r : Rel K cl as H st) (h : listD st x = some ds) (s : Sh K cl as H v x) : ∃ p xs, v = .ref p ∧ SqL K H p xs ∧ ShL K cl as H xs ds := by
  cases s with
  | lst h1 r1 => cases h; exact ⟨_, _, rfl, h1.sq, r1⟩
  | @ref i a e =>
    simp only [listD] at h
    cases e2 : st[i]? with
    | none => rw [e2] at h; cases h
    | some c =>
      rw [e2] at h
      cases c with
      | lst es =>
        cases h
        have c := r.cell i a _ e e2
        cases c with
        | lst h1 h2 => exact ⟨a, _, rfl, .inl (.inl h1), h2⟩
      | _ => cases h
  | _ => cases h
/-- list + list, whatever is read as one -/
def rCatX (K : PySem.W.Frag) : R2 := fun x y H Q => ∃ l b xs zs, x = .ref l ∧ y = .ref b ∧ SqL K H l xs ∧ SqL K H b zs ∧ xs.length + zs.length ≤ sizeLine ∧ ∀ p, H p = none → Q (.ref p) (upd H p (.lst (xs ++ zs)))
theorem op_catX : OpR X (binaryOp .Add) (rCatX X.K) := by
  intro pins s sg H x y v u Q I rx ry ⟨l, b, xs, zs, ex, ey, hl, hb, hz, q⟩
  subst ex
  subst ey
  cases rx
  cases ry
  obtain ⟨i1, r1, ⟨o1, n1, e1, c1, d1, dat1⟩, z1⟩ := I.list hl
  obtain ⟨i2, r2, ⟨o2, n2, e2, c2, d2, dat2⟩, z2⟩ := I.list hb
  have l1 := r1.length
  have l2 := r2.length
  obtain ⟨cls1, dd1, data1, sl1⟩ := o1
  obtain ⟨cls2, dd2, data2, sl2⟩ := o2
  simp only at c1 d1 dat1 c2 d2 dat2
  subst c1 d1 dat1 c2 d2 dat2
  have ea : i1.toArray ++ i2.toArray = (i1 ++ i2).toArray := by simp
  have fin : EP X pins sg Q (.ref s.heap.objs.size) { s with heap := s.heap.push { cls := .type "list", data := .seq (i1.toArray ++ i2.toArray) } } := by
    rw [ea]
    exact ⟨.ref _, _, I.laid (t' := s.toks) (o := .lst (xs ++ zs)) (fun b ob q => Heap.get?_push_of_some _ q) (Nat.le_refl _) ⟨by rw [List.length_append]; omega, _, 0, r1.append r2, Heap.get?_push_size _ rfl⟩, rfl, q _ (I.hok.fresh (Nat.le_refl _))⟩
  exact concat_meets ⟨_, e1, rfl⟩ ⟨_, e2, rfl⟩ noFill_list_add seq_list_add PySem.F.slot_list_add PySem.F.entry_list_add (PySem.F.args_list_add_2 _ _)
    (list_addW l b i1.toArray i2.toArray n1 n2 none none sl1 sl2 (by rw [List.size_toArray, List.size_toArray]; omega)) ⟨e1, e2, fin⟩
/-- a fresh list, a fresh tuple behind an operator -/
theorem Aft.lst {Q : VK} {vs : List V} {ds : List D} (r : Rel K cl as H st) (x : ShL K cl as H vs ds) (af : Aft K cl as H (.lst ds) st Q) (p : Addr) (hp : H p = none) : Q (.ref p) (upd H p (.lst vs)) :=
  af as _ _ (Le.new r hp) (r.new hp) (.lst (.inl ⟨r.fresh hp, .inl upd_same⟩) (x.up (Le.new r hp)))
theorem Aft.tup {Q : VK} {vs : List V} {ds : List D} (r : Rel K cl as H st) (x : ShL K cl as H vs ds) (af : Aft K cl as H (.tup ds) st Q) (p : Addr) (hp : H p = none) : Q (.ref p) (upd H p (.tup vs)) :=
  af as _ _ (Le.new r hp) (r.new hp) (.tup (.inl ⟨r.fresh hp, .inl upd_same⟩) (x.up (Le.new r hp)))
def rAddX (K : PySem.W.Frag) : R2 := fun x y H Q => (rI0 fun i j => .int (i + j)) x y H Q ∨ (∃ i j, x = .str i ∧ y = .str j ∧ i.length + j.length ≤ sizeLine ∧ Q (.str (i ++ j)) H) ∨ rCatA K x y H Q ∨ rCatX K x y H Q
theorem op_addX : OpR X (binaryOp .Add) (rAddX X.K) := op_add.or (op_add_str.or (op_catA.or op_catX))
theorem ok_add : Ok2 K cl (rAddX K) addD := by
  intro as H st x y v w d st' Q r e s1 s2 af
  have gen : ∀ (a b : D), Sh K cl as H v a → Sh K cl as H w b → (match listD st a, listD st b with
    | some xs, some ys => if xs.length + ys.length ≤ 100000 then some (D.lst (xs ++ ys), st) else none
    | _, _ => none) = some (d, st') → rAddX K v w H Q := by
    intro a b s1 s2 e
    cases e1 : listD st a with
    | none => rw [e1] at e; cases e
    | some xs =>
      cases e2 : listD st b with
      | none => rw [e1, e2] at e; cases e
      | some ys =>
        rw [e1, e2] at e
        dsimp only at e
        by_cases hl : xs.length + ys.length ≤ 100000
        · rw [if_pos hl] at e
          cases e
          obtain ⟨p, us, ev, h1, x1⟩ := listD_sq r e1 s1
          obtain ⟨q, ws, ew, h2, x2⟩ := listD_sq r e2 s2
          exact .inr (.inr (.inr ⟨p, q, us, ws, ev, ew, h1, h2, by rw [x1.length, x2.length]; exact line5 hl, Aft.lst r (x1.append x2) af⟩))
        · rw [if_neg hl] at e; cases e
  cases x with
  | int i =>
    cases y with
    | int j => cases s1; cases s2; cases e; exact .inl ⟨i, j, rfl, rfl, af.pure r (.int _)⟩
    | _ => exact gen _ _ s1 s2 e
  | str a =>
    cases y with
    | str b =>
      cases s1; cases s2
      simp only [addD] at e
      by_cases hl : a.length + b.length ≤ 100000
      · rw [if_pos hl] at e
        cases e
        exact .inr (.inl ⟨a, b, rfl, rfl, line5 hl, af.pure r (.str _)⟩)
      · rw [if_neg hl] at e; cases e
    | _ => exact gen _ _ s1 s2 e
  | tup xs =>
    cases y with
    | tup ys =>
      simp only [addD] at e
      by_cases hl : xs.length + ys.length ≤ 100000
      · rw [if_pos hl] at e
        cases e
        cases s1 with
        | @tup p us _ h1 x1 =>
          cases s2 with
          | @tup q ws _ h2 x2 =>
            refine .inr (.inr (.inl ⟨p, q, us, ws, rfl, rfl, h1.sq, h2.sq, by rw [x1.length, x2.length]; exact line5 hl, fun e => ?_, fun _ e => ?_, fun _ _ => Aft.tup r (x1.append x2) af⟩))
            · subst e
              cases x1
              exact af.pure r (.tup h2 x2)
            · subst e
              cases x2
              rw [List.append_nil] at af
              exact af.pure r (.tup h1 x1)
      · rw [if_neg hl] at e; cases e
    | _ => exact gen _ _ s1 s2 e
  | _ => exact gen _ _ s1 s2 e
/-- two ints alone -/
theorem ok_int2 {C : Int → Int → Prop} {g : Int → Int → V} {o : O2} (h : ∀ x y st d st', o x y st = some (d, st') → ∃ i j, x = .int i ∧ y = .int j ∧ C i j ∧ st' = st ∧ ∀ as H, Sh K cl as H (g i j) d) : Ok2 K cl (rI C g) o := by
  intro as H st x y v w d st' Q r e s1 s2 af
  obtain ⟨i, j, rfl, rfl, hc, rfl, hs⟩ := h x y st d st' e
  cases s1
  cases s2
  exact ⟨i, j, rfl, rfl, hc, af.pure r (hs _ _)⟩
theorem ok_int20 {g : Int → Int → V} {o : O2} (h : ∀ x y st d st', o x y st = some (d, st') → ∃ i j, x = .int i ∧ y = .int j ∧ st' = st ∧ ∀ as H, Sh K cl as H (g i j) d) : Ok2 K cl (rI0 g) o := by
  intro as H st x y v w d st' Q r e s1 s2 af
  obtain ⟨i, j, rfl, rfl, rfl, hs⟩ := h x y st d st' e
  cases s1
  cases s2
  exact ⟨i, j, rfl, rfl, af.pure r (hs _ _)⟩
theorem ok_sub : Ok2 K cl (rI0 fun i j => .int (i - j)) subD := ok_int20 fun x y st d st' e => by
  unfold subD at e
  split at e
  · cases e; exact ⟨_, _, rfl, rfl, rfl, fun _ _ => .int _⟩
  · cases e
theorem ok_lt : Ok2 K cl (rI0 fun i j => .bl (decide (i < j))) ltD := ok_int20 fun x y st d st' e => by
  unfold ltD at e
  split at e
  · cases e; exact ⟨_, _, rfl, rfl, rfl, fun _ _ => .bl _⟩
  · cases e
theorem ok_le : Ok2 K cl (rI0 fun i j => .bl (decide (i ≤ j))) leD := ok_int20 fun x y st d st' e => by
  unfold leD at e
  split at e
  · cases e; exact ⟨_, _, rfl, rfl, rfl, fun _ _ => .bl _⟩
  · cases e
theorem ok_gt : Ok2 K cl (rI0 fun i j => .bl (decide (j < i))) gtD := ok_int20 fun x y st d st' e => by
  unfold gtD at e
  split at e
  · cases e; exact ⟨_, _, rfl, rfl, rfl, fun _ _ => .bl _⟩
  · cases e
theorem ok_ge : Ok2 K cl (rI0 fun i j => .bl (decide (j ≤ i))) geD := ok_int20 fun x y st d st' e => by
  unfold geD at e
  split at e
  · cases e; exact ⟨_, _, rfl, rfl, rfl, fun _ _ => .bl _⟩
  · cases e
theorem ok_mod : Ok2 K cl (rI (fun _ j => 0 < j) fun i j => .int (i % j)) modD := ok_int2 fun x y st d st' e => by
  unfold modD at e
  split at e
  · split at e
    · cases e; exact ⟨_, _, rfl, rfl, by assumption, rfl, fun _ _ => .int _⟩
    · cases e
  · cases e
theorem ok_fdiv : Ok2 K cl (rI CDivW fun i j => .int (i / j)) fdivD := ok_int2 fun x y st d st' e => by
  unfold fdivD at e
  split at e
  · split at e
    · cases e; exact ⟨_, _, rfl, rfl, by assumption, rfl, fun _ _ => .int _⟩
    · cases e
  · cases e
theorem ok_pow : Ok2 K cl (rI CPow fun i j => .int (i ^ j.toNat)) powD := ok_int2 fun x y st d st' e => by
  unfold powD at e
  split at e
  · split at e
    · cases e; exact ⟨_, _, rfl, rfl, by assumption, rfl, fun _ _ => .int _⟩
    · cases e
  · cases e
def rMulX : R2 := fun x y H Q => (rI CMul fun i j => .int (i * j)) x y H Q ∨ (rI CMulW fun i j => .int (i * j)) x y H Q
theorem op_mulX : OpR X (binaryOp .Mult) rMulX := op_mul.or op_mulW
theorem ok_mul : Ok2 K cl rMulX mulD := by
  intro as H st x y v w d st' Q r e s1 s2 af
  unfold mulD at e
  split at e
  · split at e
    · cases e
      cases s1
      cases s2
      rename_i i j h
      rcases h with h | h | h
      · exact .inl ⟨_, _, rfl, rfl, .inl h, af.pure r (.int _)⟩
      · exact .inl ⟨_, _, rfl, rfl, .inr h, af.pure r (.int _)⟩
      · exact .inr ⟨_, _, rfl, rfl, h, af.pure r (.int _)⟩
    · cases e
  · cases e
theorem ok_neg : Ok1 K cl (rU fun i => .int (-i)) negD := by
  intro as H st x v d st' Q r e s1 af
  unfold negD at e
  split at e
  · cases e; cases s1; exact ⟨_, rfl, af.pure r (.int _)⟩
  · cases e
theorem sh_non {v : V} {x : D} (s : Sh K cl as H v x) : (v = .non ∧ x = .non) ∨ (v ≠ .non ∧ x ≠ .non) := by
  cases s <;> first | exact .inl ⟨rfl, rfl⟩ | exact .inr ⟨nofun, nofun⟩
theorem ok_isN : Ok2 K cl (fun x y H Q => y = .non ∧ Q (.bl (decide (x = .non))) H) isND := by
  intro as H st x y v w d st' Q r e s1 s2 af
  unfold isND at e
  split at e
  · cases e
    cases s2
    refine ⟨rfl, ?_⟩
    rcases sh_non s1 with ⟨rfl, rfl⟩ | ⟨h1, h2⟩
    · exact af.pure r (.bl true)
    · rw [decide_eq_false h1]
      cases x <;> first | exact absurd rfl h2 | exact af.pure r (.bl false)
  · cases e
theorem ok_notN : Ok2 K cl (fun x y H Q => y = .non ∧ Q (.bl (!decide (x = .non))) H) notND := by
  intro as H st x y v w d st' Q r e s1 s2 af
  unfold notND at e
  split at e
  · cases e
    cases s2
    refine ⟨rfl, ?_⟩
    rcases sh_non s1 with ⟨rfl, rfl⟩ | ⟨h1, h2⟩
    · exact af.pure r (.bl false)
    · rw [decide_eq_false h1]
      cases x <;> first | exact absurd rfl h2 | exact af.pure r (.bl true)
  · cases e
/-! ### == -/
mutual
theorem dp0 (r : Rel K cl as H st) : ∀ {d : D} {p : PyData} {v : V}, pyD0 d = some p → Sh K cl as H v d → Dp K H v p
  | .non, p, v, h, s => by simp only [pyD0] at h; cases h; cases s; exact .non
  | .bl b, p, v, h, s => by simp only [pyD0] at h; cases h; cases s; exact .bl b
  | .int b, p, v, h, s => by simp only [pyD0] at h; cases h; cases s; exact .int b
  | .str b, p, v, h, s => by simp only [pyD0] at h; cases h; cases s; exact .str b
  | .lst ds, p, v, h, s => by
    simp only [pyD0] at h
    cases e : pyL0 ds with
    | none => rw [e] at h; cases h
    | some ps =>
      rw [e] at h
      cases h
      cases s with
      | lst h1 r1 => exact .lst h1.sq (dpl0 r e r1)
  | .tup ds, p, v, h, s => by
    simp only [pyD0] at h
    cases e : pyL0 ds with
    | none => rw [e] at h; cases h
    | some ps =>
      rw [e] at h
      cases h
      cases s with
      | tup h1 r1 => exact .tup h1.sq (dpl0 r e r1)
  | .dct _, p, v, h, s => by simp only [pyD0] at h; cases h
  | .ref _, p, v, h, s => by simp only [pyD0] at h; cases h
  | .obj _ _, p, v, h, s => by simp only [pyD0] at h; cases h
  | .exc _ _, p, v, h, s => by simp only [pyD0] at h; cases h
theorem dpl0 (r : Rel K cl as H st) : ∀ {ds : List D} {ps : List PyData} {vs : List V}, pyL0 ds = some ps → ShL K cl as H vs ds → DpAll K H vs ps
  | [], ps, vs, h, s => by simp only [pyL0] at h; cases h; cases s; exact .nil
  | d :: ds, ps, vs, h, s => by
    simp only [pyL0] at h
    cases e1 : pyD0 d with
    | none => rw [e1] at h; cases h
    | some p =>
      cases e2 : pyL0 ds with
      | none => rw [e1, e2] at h; cases h
      | some qs =>
        rw [e1, e2] at h
        cases h
        cases s with
        | cons s1 s2 => exact .cons (dp0 r e1 s1) (dpl0 r e2 s2)
end
mutual
theorem dp_of (r : Rel K cl as H st) : ∀ {d : D} {p : PyData} {v : V}, pyD st d = some p → Sh K cl as H v d → Dp K H v p
  | .non, p, v, h, s => by simp only [pyD] at h; cases h; cases s; exact .non
  | .bl b, p, v, h, s => by simp only [pyD] at h; cases h; cases s; exact .bl b
  | .int b, p, v, h, s => by simp only [pyD] at h; cases h; cases s; exact .int b
  | .str b, p, v, h, s => by simp only [pyD] at h; cases h; cases s; exact .str b
  | .lst ds, p, v, h, s => by
    simp only [pyD] at h
    cases e : pyL st ds with
    | none => rw [e] at h; cases h
    | some ps =>
      rw [e] at h
      cases h
      cases s with
      | lst h1 r1 => exact .lst h1.sq (dpl_of r e r1)
  | .tup ds, p, v, h, s => by
    simp only [pyD] at h
    cases e : pyL st ds with
    | none => rw [e] at h; cases h
    | some ps =>
      rw [e] at h
      cases h
      cases s with
      | tup h1 r1 => exact .tup h1.sq (dpl_of r e r1)
  | .ref i, p, v, h, s => by
    simp only [pyD] at h
    cases e : st[i]? with
    | none => rw [e] at h; cases h
    | some c =>
      rw [e] at h
      cases c with
      | lst ds =>
        dsimp only at h
        cases e2 : pyL0 ds with
        | none => rw [e2] at h; cases h
        | some ps =>
          rw [e2] at h
          cases h
          cases s with
          | @ref _ a ea =>
            have c := r.cell i a _ ea e
            cases c with
            | lst h1 h2 => exact .lst (.inl (.inl h1)) (dpl0 r e2 h2)
      | _ => cases h
  | .dct _, p, v, h, s => by simp only [pyD] at h; cases h
  | .obj _ _, p, v, h, s => by simp only [pyD] at h; cases h
  | .exc _ _, p, v, h, s => by simp only [pyD] at h; cases h
theorem dpl_of (r : Rel K cl as H st) : ∀ {ds : List D} {ps : List PyData} {vs : List V}, pyL st ds = some ps → ShL K cl as H vs ds → DpAll K H vs ps
  | [], ps, vs, h, s => by simp only [pyL] at h; cases h; cases s; exact .nil
  | d :: ds, ps, vs, h, s => by
    simp only [pyL] at h
    cases e1 : pyD st d with
    | none => rw [e1] at h; cases h
    | some p =>
      cases e2 : pyL st ds with
      | none => rw [e1, e2] at h; cases h
      | some qs =>
        rw [e1, e2] at h
        cases h
        cases s with
        | cons s1 s2 => exact .cons (dp_of r e1 s1) (dpl_of r e2 s2)
end
def rEqX (K : PySem.W.Frag) : R2 := fun x y H Q => rEq x y H Q ∨ rEqD K x y H Q
def rNeX (K : PySem.W.Frag) : R2 := fun x y H Q => rNe x y H Q ∨ rNeD K x y H Q
theorem op_eqX (hu : X.A.units + 64 < cLine) : OpR X (compareOp .Eq) (rEqX X.K) := op_eq.or (op_eqD hu)
theorem op_neX (hu : X.A.units + 64 < cLine) : OpR X (compareOp .NotEq) (rNeX X.K) := op_ne.or (op_neD hu)
theorem eqB_cases {x y : D} {st : Store} {b : Bool} (h : eqB x y st = some b) : (∃ i j, x = .int i ∧ y = .int j ∧ b = decide (i = j)) ∨ (∃ i j, x = .str i ∧ y = .str j ∧ b = decide (i = j)) ∨ (∃ i j, x = .bl i ∧ y = .bl j ∧ b = decide (i = j)) ∨
    ∃ p q, pyD st x = some p ∧ pyD st y = some q ∧ SeqAt.shaped p = true ∧ SeqAt.shaped q = true ∧ b = PyData.eqv p q := by
  unfold eqB at h
  split at h
  · cases h; exact .inl ⟨_, _, rfl, rfl, rfl⟩
  · cases h; exact .inr (.inl ⟨_, _, rfl, rfl, rfl⟩)
  · cases h; exact .inr (.inr (.inl ⟨_, _, rfl, rfl, rfl⟩))
  · refine .inr (.inr (.inr ?_))
    cases e1 : pyD st x with
    | none => rw [e1] at h; cases h
    | some p =>
      cases e2 : pyD st y with
      | none => rw [e1, e2] at h; cases h
      | some q =>
        rw [e1, e2] at h
        simp only [Option.bind] at h
        split at h
        · rename_i hs
          cases h
          exact ⟨p, q, rfl, rfl, hs.1, hs.2, rfl⟩
        · cases h
theorem ok_eq : Ok2 K cl (rEqX K) eqD := by
  intro as H st x y v w d st' Q r e s1 s2 af
  unfold eqD at e
  cases eb : eqB x y st with
  | none => rw [eb] at e; cases e
  | some b =>
    rw [eb] at e
    cases e
    rcases eqB_cases eb with ⟨i, j, rfl, rfl, rfl⟩ | ⟨i, j, rfl, rfl, rfl⟩ | ⟨i, j, rfl, rfl, rfl⟩ | ⟨p, q, h1, h2, h3, h4, rfl⟩
    · cases s1; cases s2
      refine .inl ⟨rfl, ?_⟩
      have : decide (V.int i = V.int j) = decide (i = j) := by simp
      rw [this]
      exact af.pure r (.bl _)
    · cases s1; cases s2
      refine .inl ⟨rfl, ?_⟩
      have : decide (V.str i = V.str j) = decide (i = j) := by simp
      rw [this]
      exact af.pure r (.bl _)
    · cases s1; cases s2
      refine .inl ⟨rfl, ?_⟩
      have : decide (V.bl i = V.bl j) = decide (i = j) := by simp
      rw [this]
      exact af.pure r (.bl _)
    · exact .inr ⟨p, q, dp_of r h1 s1, dp_of r h2 s2, h3, h4, af.pure r (.bl _)⟩
theorem ok_ne : Ok2 K cl (rNeX K) neD := by
  intro as H st x y v w d st' Q r e s1 s2 af
  unfold neD at e
  cases eb : eqB x y st with
  | none => rw [eb] at e; cases e
  | some b =>
    rw [eb] at e
    cases e
    rcases eqB_cases eb with ⟨i, j, rfl, rfl, rfl⟩ | ⟨i, j, rfl, rfl, rfl⟩ | ⟨i, j, rfl, rfl, rfl⟩ | ⟨p, q, h1, h2, h3, h4, rfl⟩
    · cases s1; cases s2
      refine .inl ⟨rfl, ?_⟩
      have : decide (V.int i = V.int j) = decide (i = j) := by simp
      rw [this]
      exact af.pure r (.bl _)
    · cases s1; cases s2
      refine .inl ⟨rfl, ?_⟩
      have : decide (V.str i = V.str j) = decide (i = j) := by simp
      rw [this]
      exact af.pure r (.bl _)
    · cases s1; cases s2
      refine .inl ⟨rfl, ?_⟩
      have : decide (V.bl i = V.bl j) = decide (i = j) := by simp
      rw [this]
      exact af.pure r (.bl _)
    · exact .inr ⟨p, q, dp_of r h1 s1, dp_of r h2 s2, h3, h4, af.pure r (.bl _)⟩
/-! ### items -/
theorem ixAt_atI {A B : Type} {xs : List A} {ys : List B} (hl : ys.length = xs.length) {i : Int} {d : A} (h : ixAt xs i = some d) : ∃ j : Nat, xs[j]? = some d ∧ ∀ v, ys[j]? = some v → atI ys i = some v := by
  unfold ixAt at h
  unfold atI ixN
  split at h
  · rename_i h0
    refine ⟨i.toNat, h, fun v hv => ?_⟩
    have hi := (List.getElem?_eq_some_iff.mp h).1
    rw [if_pos h0, if_pos (by rw [hl]; omega)]
    exact hv
  · rename_i h0
    split at h
    · rename_i h1
      refine ⟨_, h, fun v hv => ?_⟩
      rw [if_neg h0, if_pos (by rw [hl]; exact h1), hl]
      exact hv
    · cases h
theorem ok_ix : Ok2 K cl (rIx K) ixD := by
  intro as H st x y v w d st' Q r e s1 s2 af
  cases y with
  | int i =>
    cases s2
    have gen : ∀ a : D, Sh K cl as H v a → ((listD st a).bind fun ds => (ixAt ds i).map fun d => (d, st)) = some (d, st') → rIx K v (.int i) H Q := by
      intro a s1 e
      cases e1 : listD st a with
      | none => rw [e1] at e; cases e
      | some ds =>
        rw [e1] at e
        simp only [Option.bind] at e
        cases e2 : ixAt ds i with
        | none => rw [e2] at e; cases e
        | some d' =>
          rw [e2] at e
          cases e
          obtain ⟨p, xs, rfl, h1, x1⟩ := listD_sq r e1 s1
          obtain ⟨j, h2, h3⟩ := ixAt_atI x1.length e2
          obtain ⟨z, h4, h5⟩ := x1.get h2
          exact .inl ⟨p, xs, i, z, rfl, rfl, h1, h3 z h4, af.pure r h5⟩
    cases x with
    | tup ds =>
      simp only [ixD] at e
      cases e2 : ixAt ds i with
      | none => rw [e2] at e; cases e
      | some d' =>
        rw [e2] at e
        cases e
        cases s1 with
        | @tup p xs _ h1 x1 =>
          obtain ⟨j, h2, h3⟩ := ixAt_atI x1.length e2
          obtain ⟨z, h4, h5⟩ := x1.get h2
          exact .inr (.inl ⟨p, xs, i, z, rfl, rfl, h1.sq, h3 z h4, af.pure r h5⟩)
    | str z =>
      simp only [ixD] at e
      by_cases hl : z.length ≤ 100000
      · rw [if_pos hl] at e
        cases e2 : ixAt z.cps.toList i with
        | none => rw [e2] at e; cases e
        | some c =>
          rw [e2] at e
          cases e
          cases s1
          obtain ⟨j, h2, h3⟩ := ixAt_atI (ys := z.cps.toList) rfl e2
          exact .inr (.inr ⟨z, i, c, rfl, rfl, line5 hl, h3 c h2, af.pure r (.str _)⟩)
      · rw [if_neg hl] at e; cases e
    | lst ds => exact gen _ s1 e
    | ref k => exact gen _ s1 e
    | _ => exact gen _ s1 e
  | _ => cases x <;> cases e
end
end F3

/-! F3, part g: built-in functions, slices, stores, texts. -/
namespace F3
open PySem PySem.Spec PyProof.Rows L2

/-! ### on data -/
def absD : On := fun xs st => match xs with
  | [.int i] => some (.int (if i < 0 then -i else i), st)
  | _ => none
def max2D : On := fun xs st => match xs with
  | [.int i, .int j] => some (.int (if j > i then j else i), st)
  | _ => none
def min2D : On := fun xs st => match xs with
  | [.int i, .int j] => some (.int (if j < i then j else i), st)
  | _ => none
def intD : On := fun xs st => match xs with
  | [.int i] => some (.int i, st)
  | [.bl b] => some (.int (if b then 1 else 0), st)
  | _ => none
def lenN (st : Store) : D → Option Nat
  | .str z => if z.length ≤ 100000 then some z.length else none
  | .tup ds => some ds.length
  | x => (listD st x).map List.length
def lenD : On := fun xs st => match xs with
  | [x] => (lenN st x).map fun n => (.int n, st)
  | _ => none
def strD : On := fun xs st => match xs with
  | [.int i] => if i.natAbs.log2 < 1920 then some (.str (toString i), st) else none
  | _ => none
/-- what repr can show -/
def showOk (p : PyData) : Bool := p.showable && !p.hasDict && decide (p.depth ≤ 60) && decide (p.shown.length ≤ sizeLine)
def reprD : On := fun xs st => match xs with
  | [x] => (pyD st x).bind fun p => if showOk p = true then some (.str p.shown, st) else none
  | _ => none
inductive Ty where
  | non | bl | int | str | tup | lst | dct
  deriving DecidableEq
def Ty.nm : Ty → String
  | .non => "NoneType" | .bl => "bool" | .int => "int" | .str => "str" | .tup => "tuple" | .lst => "list" | .dct => "dict"
def Ty.sub : Ty → Ty → Bool
  | .bl, .int => true
  | a, b => a == b
def tyD (st : Store) : D → Option Ty
  | .non => some .non | .bl _ => some .bl | .int _ => some .int | .str _ => some .str | .tup _ => some .tup | .lst _ => some .lst | .dct _ => some .dct
  | .ref i => match st[i]? with
    | some (.lst _) => some .lst
    | some (.dct _) => some .dct
    | some (.lck _) => some .dct
    | _ => none
  | _ => none
def isiD (T : Ty) : O1 := fun x st => (tyD st x).map fun t => (.bl (t.sub T), st)
/-- the part of a list -/
def cutD {A : Type} (xs : List A) (lo hi : Option Int) : List A := (xs.drop (HT.sIx xs.length 0 lo)).take (HT.sIx xs.length xs.length hi - HT.sIx xs.length 0 lo)
def slD : D → Option Int → Option Int → Store → Option D := fun x lo hi st => match x with
  | .str z => if z.length ≤ 100000 then some (.str (cutS z lo hi)) else none
  | x => (listD st x).map fun ds => .lst (cutD ds lo hi)
abbrev Exo := Env → Store → Res (Option Int)
def oNone : Exo := fun _ st => .ok none st
def oSome (f : Ex) : Exo := fun env st => (f env st).bind fun d s => match d with
  | .int i => .ok (some i) s
  | _ => .stuck
def eSl (f : Ex) (l h : Exo) : Ex := fun env st => (f env st).bind fun x s => (l env s).bind fun lo s2 => (h env s2).bind fun hi s3 => match slD x lo hi s3 with
  | some d => .ok d s3
  | none => .stuck
/-- f"..": a part, the whole -/
def eFmt (f : Ex) : Ex := fun env st => (f env st).bind fun d s => match d with
  | .str y => if y.length ≤ 100000 then .ok (.str y) s else .stuck
  | .int i => if i.natAbs.log2 < 1920 then .ok (.str (toString i)) s else .stuck
  | _ => .stuck
def eFmtR (f : Ex) : Ex := fun env st => (f env st).bind fun d s => match d with
  | .str y => if (reprText y).length ≤ 100000 then .ok (.str (reprText y)) s else .stuck
  | .int i => if i.natAbs.log2 < 1920 then .ok (.str (toString i)) s else .stuck
  | _ => .stuck
def joinL : List Ex → Str → Ex
  | [], acc, _, st => .ok (.str acc) st
  | p :: r, acc, env, st => (p env st).bind fun d s => match d with
    | .str y => if (acc ++ y).length ≤ 100000 then joinL r (acc ++ y) env s else .stuck
    | _ => .stuck
def eJoin (ps : List Ex) : Ex := joinL ps Str.empty
/-- a store by place -/
def stD : D → D → D → Store → Option Store := fun o i d st => match o, i with
  | .ref k, .int j => match st[k]? with
    | some (.lst ds) => if 0 ≤ j ∧ j.toNat < ds.length then some (st.set k (.lst (ds.set j.toNat d))) else none
    | _ => none
  | _, _ => none
def tSub (fo fi : Ex) : Tgt := fun d env st => match fo env st with
  | .ok x s1 => (match fi env s1 with
    | .ok y s2 => (stD x y d s2).map fun s3 => (env, s3)
    | _ => none)
  | _ => none
def appD : Om := fun x vs st => match x, vs with
  | .ref k, [d] => match st[k]? with
    | some (.lst ds) => if ds.length < 100000 then some (.non, st.set k (.lst (ds ++ [d]))) else none
    | _ => none
  | _, _ => none
/-- a built-in type's method is there: what it is called of comes first -/
def bmTy (st : Store) : D → Option Ty
  | .str _ => some .str
  | .lst _ => some .lst
  | .ref i => match st[i]? with
    | some (.lst _) => some .lst
    | some (.dct _) => some .dct
    | _ => none
  | _ => none
def eBm (T : Ty) (o : Om) (f : Ex) (fa : Exs) : Ex := fun env st => (f env st).bind fun x s => if bmTy s x = some T then (fa env s).bind fun ds s2 => ofO (o x ds s2) else .stuck

section
variable {X : Cx} {cl : String → Addr} {W : WX} {K : PySem.W.Frag} {as : As} {H : Hp} {st : Store}
theorem ok_abs : Okn K cl (fun xs H Q => ∃ i, xs = [.int i] ∧ Q (.int (if i < 0 then -i else i)) H) absD := by
  intro as H st xs vs d st' Q r e s af
  unfold absD at e
  split at e
  · cases e
    cases s with
    | cons s1 s2 => cases s2; cases s1; exact ⟨_, rfl, af.pure r (.int _)⟩
  · cases e
theorem ok_max2 : Okn K cl (fun xs H Q => ∃ i j, xs = [.int i, .int j] ∧ Q (.int (if j > i then j else i)) H) max2D := by
  intro as H st xs vs d st' Q r e s af
  unfold max2D at e
  split at e
  · cases e
    cases s with
    | cons s1 s2 => cases s2 with
      | cons s2 s3 => cases s3; cases s1; cases s2; exact ⟨_, _, rfl, af.pure r (.int _)⟩
  · cases e
theorem ok_min2 : Okn K cl (fun xs H Q => ∃ i j, xs = [.int i, .int j] ∧ Q (.int (if j < i then j else i)) H) min2D := by
  intro as H st xs vs d st' Q r e s af
  unfold min2D at e
  split at e
  · cases e
    cases s with
    | cons s1 s2 => cases s2 with
      | cons s2 s3 => cases s3; cases s1; cases s2; exact ⟨_, _, rfl, af.pure r (.int _)⟩
  · cases e
theorem ok_int : Okn K cl (fun xs H Q => (∃ i, xs = [.int i] ∧ Q (.int i) H) ∨ ∃ k, xs = [.bl k] ∧ Q (.int (if k then 1 else 0)) H) intD := by
  intro as H st xs vs d st' Q r e s af
  unfold intD at e
  split at e
  · cases e
    cases s with
    | cons s1 s2 => cases s2; cases s1; exact .inl ⟨_, rfl, af.pure r (.int _)⟩
  · cases e
    cases s with
    | cons s1 s2 => cases s2; cases s1; exact .inr ⟨_, rfl, af.pure r (.int _)⟩
  · cases e
theorem ok_len : Okn K cl (fun xs H Q => ∃ x n, xs = [x] ∧ LenV K x H n ∧ Q (.int n) H) lenD := by
  intro as H st xs vs d st' Q r e s af
  unfold lenD at e
  split at e
  · rename_i x
    cases s with
    | cons s1 s2 =>
      cases s2
      cases e1 : lenN st x with
      | none => rw [e1] at e; cases e
      | some n =>
        rw [e1] at e
        cases e
        refine ⟨_, n, rfl, ?_, af.pure r (.int _)⟩
        have gen : ∀ w, Sh K cl as H w x → (listD st x).map List.length = some n → LenV K w H n := fun w s1 h => by
          cases e2 : listD st x with
          | none => rw [e2] at h; cases h
          | some ds =>
            rw [e2] at h
            cases h
            obtain ⟨p, xs, rfl, h1, x1⟩ := listD_sq r e2 s1
            exact (Or.inl ⟨xs, h1, x1.length.symm⟩ : (∃ xs, SqL K H p xs ∧ ds.length = xs.length) ∨ ∃ xs, SqT K H p xs ∧ ds.length = xs.length)
        cases x with
        | str z =>
          cases s1
          simp only [lenN] at e1
          by_cases hl : z.length ≤ 100000
          · rw [if_pos hl] at e1; cases e1; exact ⟨line5 hl, rfl⟩
          · rw [if_neg hl] at e1; cases e1
        | tup ds =>
          cases e1
          cases s1 with
          | @tup p xs _ h1 x1 => exact (Or.inr ⟨xs, h1.sq, x1.length.symm⟩ : (∃ xs, SqL K H p xs ∧ ds.length = xs.length) ∨ ∃ xs, SqT K H p xs ∧ ds.length = xs.length)
        | _ => exact gen _ s1 e1
  · cases e
theorem ok_str : Okn K cl (fun xs H Q => ∃ i, xs = [.int i] ∧ i.natAbs.log2 < 1920 ∧ Q (.str (toString i)) H) strD := by
  intro as H st xs vs d st' Q r e s af
  unfold strD at e
  split at e
  · split at e
    · cases e
      cases s with
      | cons s1 s2 => cases s2; cases s1; exact ⟨_, rfl, by assumption, af.pure r (.str _)⟩
    · cases e
  · cases e
/-! ### repr -/
def rReprD (K : PySem.W.Frag) : List V → Hp → VK → Prop := fun xs H Q => ∃ x p, xs = [x] ∧ Dp K H x p ∧ showOk p = true ∧ Q (.str p.shown) H
theorem call_reprD (hg : X.A.guards = some []) (hu : X.A.units + 64 < cLine) : CallR X (.builtin "repr") (rReprD X.K) := by
  intro pins s sg H xs us Q I r h
  obtain ⟨x, p, rfl, hd, hs, q⟩ := h
  obtain ⟨u, rfl, rx⟩ := vals1 r
  unfold showOk at hs
  simp only [Bool.and_eq_true, decide_eq_true_eq, Bool.not_eq_true'] at hs
  obtain ⟨⟨⟨h1, h2⟩, h3⟩, h4⟩ := hs
  obtain ⟨as, rd⟩ := Dp.reads I p x u hd rx
  cases x with
  | ref a =>
    cases rx
    refine repr_of_reads' rd h1 (PyData.noDict_hsm h2) hg (by omega) (fun _ _ e => e) (fun h' t tk k => ?_) h4
    exact ⟨.str _, H, I.kept (t' := tk) k, ⟨_, rfl⟩, q⟩
  | non =>
    cases hd
    cases rx
    exact PySem.P.repr_of_none ⟨.str _, H, I.tok _, ⟨_, rfl⟩, q⟩
  | bl b =>
    cases hd
    cases rx
    exact PySem.P.repr_of_bool ⟨.str _, H, I.tok _, ⟨_, rfl⟩, q⟩
  | int i =>
    cases hd
    obtain ⟨t, rfl⟩ := rx
    exact PySem.P.repr_of_int (by simpa [PyData.showable] using h1) ⟨.str _, H, I.tok _, ⟨_, rfl⟩, q⟩
  | str y =>
    cases hd
    obtain ⟨t, rfl⟩ := rx
    exact PySem.P.repr_of_str ⟨.str _, H, I.tok _, ⟨_, rfl⟩, q⟩ h4
  | _ => cases hd
theorem ok_repr : Okn K cl (rReprD K) reprD := by
  intro as H st xs vs d st' Q r e s af
  unfold reprD at e
  split at e
  · rename_i x
    cases s with
    | cons s1 s2 =>
      cases s2
      cases e1 : pyD st x with
      | none => rw [e1] at e; cases e
      | some p =>
        rw [e1] at e
        simp only [Option.bind] at e
        split at e
        · cases e
          exact ⟨_, p, rfl, dp_of r e1 s1, by assumption, af.pure r (.str _)⟩
        · cases e
  · cases e
/-! ### isinstance of a built-in type -/
def Ty.is : Ty → Bool
  | .non => false
  | _ => true
theorem kit_tys : ∀ a b : Ty, b.is = true → kitB a.nm b.nm = some (a.sub b) := by
  intro a b h
  cases b <;> first | (exact absurd h (by decide)) | (cases a <;> decide +kernel)
theorem sh_ty {x : D} {v : V} {t : Ty} (r : Rel K cl as H st) (e : tyD st x = some t) (s : Sh K cl as H v x) : TyX K H v (.type t.nm) := by
  cases s with
  | non => cases e; exact .base .non
  | bl b => cases e; exact .base (.bl b)
  | int b => cases e; exact .base (.int b)
  | str b => cases e; exact .base (.str b)
  | lst h _ =>
    cases e
    rcases h.sq with (h | ⟨o, h⟩) | ⟨o, its, n, h1, h2, _⟩
    · exact .base (.lst h)
    · exact .base (.frz h)
    · exact .kList h1 h2
  | tup h _ =>
    cases e
    rcases h.sq with (h | ⟨o, h⟩) | ⟨o, its, n, h1, h2, _⟩
    · exact .base (.tup h)
    · exact .fTuple h
    · exact .kTuple h1 h2
  | dct n h _ _ => cases e; exact .base (.dK h)
  | obj n h _ _ => cases e
  | exc0 _ _ => cases e
  | exc1 _ _ _ _ _ _ => cases e
  | @ref i a ea =>
    simp only [tyD] at e
    cases e2 : st[i]? with
    | none => rw [e2] at e; cases e
    | some c =>
      rw [e2] at e
      have c' := r.cell i a _ ea e2
      cases c with
      | lst ds => cases e; cases c' with | lst h _ => exact .base (.lst h)
      | dct ds => cases e; cases c' with | dct h _ _ => exact .base (.dK h)
      | lck ds => cases e; cases c' with | lck h _ _ => exact .fDict h
      | ins c fs => cases e
theorem fe_isi {e : Expr} {f : Ex} {T : Ty} {p p2 pos : Pos} {x2 : Str} (hT : T.is = true) (hg : Gl X "isinstance") (hm : X.mg "isinstance" = none) (hg2 : Gl X x2) (hm2 : X.mg x2 = none) (hb : bootBuiltins x2 = some (.type T.nm)) (ha : FE X cl W e f) (hn2 : x2 ≠ "__name__" := by decide) (hd2 : (x2 == ("__debug__" : Str)) = false := by decide)
    (hv : bootBuiltins "isinstance" = some (.builtin "isinstance") := by decide +kernel) (he : starEach [e, .Name x2 p2] X.env = (false, eval e X.env) :: starEach [.Name x2 p2] X.env := by rfl) (he2 : starEach [.Name x2 p2] X.env = (false, eval (.Name x2 p2) X.env) :: starEach [] X.env := by rfl) (hpl : (backTo pos (starEach [.Name x2 p2] X.env)).any (·.1) = false := by rfl) :
    FE X cl W (.Call (.Name "isinstance" p) [e, .Name x2 p2] [] pos) (eUn (isiD T) f) :=
  PE.w (pe_callB call_isi hg hm hv (pa_cons ha (pa_cons (pe_bltn (v := .ty T.nm) hg2 hm2 hb rfl hn2 hd2) pa_nil he2) he) (by decide) (by decide) he hpl) fun sg H Q ⟨as, st, env, r0, er, q⟩ =>
    ⟨as, st, env, r0, er, Wt.bind q fun d s1 as1 H1 v _ l1 r1 x1 q1 => by
      cases e1 : tyD s1 d with
      | none => simp only [isiD, e1] at q1; exact q1.elim
      | some t =>
        simp only [isiD, e1] at q1
        exact ⟨v, .ty T.nm, .type t.nm, .type T.nm, t.sub T, rfl, .ty _, sh_ty r1 e1 x1, kit_ty (kit_tys t T hT), q1 as1 H1 _ Le.refl r1 (.bl _)⟩⟩
/-! ### slices -/
structure FO (X : Cx) (cl : String → Addr) (W : WX) (e : Option Expr) (f : Exo) : Prop where
  po : PO X e fun sg H Q => ∃ (as : As) (st : Store) (env : Env), Rel X.K cl as H st ∧ EnvR X.K cl as H sg env ∧ match f env st with
    | .ok o st' => ∀ as' H', Le as H as' H' → Rel X.K cl as' H' st' → Q o H'
    | .exn c fs st' => ∀ as' H' cls d, Le as H as' H' → Rel X.K cl as' H' st' → ExcR X.K cl as' H' cls d c fs → W cls d sg H'
    | .stuck => False
theorem fo_none : FO X cl W none oNone := ⟨⟨fun pins s sg H Q I ⟨as, st, env, r0, er, q⟩ => po_none.run pins s sg H Q I (q as H Le.refl r0)⟩⟩
theorem fo_some {e : Expr} {f : Ex} (he : FE X cl W e f) : FO X cl W (some e) (oSome f) := ⟨⟨fun pins s sg H Q I ⟨as, st, env, r0, er, q⟩ => (po_some he).run pins s sg H Q I ⟨as, st, env, r0, er, by
  unfold oSome at q
  cases e1 : f env st with
  | stuck => rw [e1] at q; exact q.elim
  | exn c fs s => rw [e1] at q; exact q
  | ok d s =>
    rw [e1] at q
    intro as' H' v l r x
    cases d with
    | int i => cases x; exact ⟨i, rfl, q as' H' l r⟩
    | _ => exact q.elim⟩⟩⟩
theorem cutD_sh {xs : List V} {ds : List D} {lo hi : Option Int} (h : ShL K cl as H xs ds) : ShL K cl as H (cutV xs lo hi) (cutD ds lo hi) := by
  unfold cutV cutD
  rw [h.length]
  exact (h.drop _).take _
theorem fe_sl {e : Expr} {f : Ex} {lo hi : Option Expr} {l h : Exo} {pos p2 : Pos} (he : FE X cl W e f) (hl : FO X cl W lo l) (hh : FO X cl W hi h) : FE X cl W (.Subscript e (.Slice lo hi none p2) pos) (eSl f l h) :=
  PE.w (pe_slice (sl_list.or sl_str) he hl.po hh.po) fun sg H Q ⟨as, st, env, r0, er, q⟩ =>
    ⟨as, st, env, r0, er, Wt.bind q fun d s1 as1 H1 v _ l1 r1 x1 q1 => ⟨as1, s1, env, r1, er.up l1, by
      cases e2 : l env s1 with
      | stuck => rw [e2] at q1; exact q1.elim
      | exn c fs s => rw [e2] at q1; exact q1
      | ok o1 s2 =>
        rw [e2] at q1
        intro as2 H2 l2 r2
        refine ⟨as2, s2, env, r2, (er.up l1).up l2, ?_⟩
        have q2 := Wt.up l2 q1
        simp only [Res.bind] at q2
        cases e3 : h env s2 with
        | stuck => rw [e3] at q2; exact q2.elim
        | exn c fs s => rw [e3] at q2; exact q2
        | ok o2 s3 =>
          rw [e3] at q2
          intro as3 H3 l3 r3
          have q3 := Wt.up l3 q2
          have x3 := (x1.up l2).up l3
          simp only at q3
          have gen : ∀ a : D, Sh X.K cl as3 H3 v a → Wt X.K cl W sg as3 H3 Q (match (listD s3 a).map fun ds => D.lst (cutD ds o1 o2) with
              | some d => .ok d s3
              | none => .stuck) → rSlL X.K v o1 o2 H3 Q := fun a x3 q3 => by
            cases e4 : listD s3 a with
            | none => rw [e4] at q3; exact q3.elim
            | some ds =>
              rw [e4] at q3
              obtain ⟨p, xs, rfl, h1, y1⟩ := listD_sq r3 e4 x3
              exact ⟨p, xs, rfl, h1, Aft.lst r3 (cutD_sh y1) q3⟩
          cases d with
          | str z =>
            cases x3
            simp only [slD] at q3
            by_cases hz : z.length ≤ 100000
            · rw [if_pos hz] at q3
              exact .inr ⟨z, rfl, line5 hz, q3 as3 H3 _ Le.refl r3 (.str _)⟩
            · rw [if_neg hz] at q3; exact q3.elim
          | _ => exact .inl (gen _ x3 q3)⟩⟩
/-! ### f-strings -/
theorem fe_fmt {e : Expr} {f : Ex} {pos : Pos} (he : FE X cl W e f) : FE X cl W (.FormattedValue e (-1) none pos) (eFmt f) := PE.w (pe_fmt he) fun sg H Q ⟨as, st, env, r0, er, q⟩ =>
  ⟨as, st, env, r0, er, Wt.bind q fun d s1 as1 H1 v _ l1 r1 x1 q1 => by
    cases d with
    | str y =>
      cases x1
      dsimp only at q1
      by_cases hz : y.length ≤ 100000
      · rw [if_pos hz] at q1; exact .inl ⟨y, rfl, line5 hz, q1 as1 H1 _ Le.refl r1 (.str _)⟩
      · rw [if_neg hz] at q1; exact q1.elim
    | int i =>
      cases x1
      dsimp only at q1
      by_cases hz : i.natAbs.log2 < 1920
      · rw [if_pos hz] at q1; exact .inr ⟨i, rfl, hz, q1 as1 H1 _ Le.refl r1 (.str _)⟩
      · rw [if_neg hz] at q1; exact q1.elim
    | _ => exact q1.elim⟩
theorem fe_fmtR {e : Expr} {f : Ex} {pos : Pos} (he : FE X cl W e f) : FE X cl W (.FormattedValue e 114 none pos) (eFmtR f) := PE.w (pe_fmtR he) fun sg H Q ⟨as, st, env, r0, er, q⟩ =>
  ⟨as, st, env, r0, er, Wt.bind q fun d s1 as1 H1 v _ l1 r1 x1 q1 => by
    cases d with
    | str y =>
      cases x1
      dsimp only at q1
      by_cases hz : (reprText y).length ≤ 100000
      · rw [if_pos hz] at q1; exact .inl ⟨y, rfl, line5 hz, q1 as1 H1 _ Le.refl r1 (.str _)⟩
      · rw [if_neg hz] at q1; exact q1.elim
    | int i =>
      cases x1
      dsimp only at q1
      by_cases hz : i.natAbs.log2 < 1920
      · rw [if_pos hz] at q1; exact .inr ⟨i, rfl, hz, q1 as1 H1 _ Le.refl r1 (.str _)⟩
      · rw [if_neg hz] at q1; exact q1.elim
    | _ => exact q1.elim⟩
/-- the parts -/
inductive FJ (X : Cx) (cl : String → Addr) (W : WX) : List Expr → List Ex → Prop
  | nil : FJ X cl W [] []
  | cons {e : Expr} {f : Ex} {es : List Expr} {fs : List Ex} (h : FE X cl W e f) (r : FJ X cl W es fs) : FJ X cl W (e :: es) (f :: fs)
theorem FJ.pj {es : List Expr} {fs : List Ex} (h : FJ X cl W es fs) : PJ X es (fs.map fun f => tF X.K cl W f) := by
  induction h with
  | nil => exact .nil
  | cons h _ ih => exact .cons h ih
theorem join_imp : ∀ (fs : List Ex) (acc : Str) (sg : L2.St) (H : Hp) (Q : VK), tF X.K cl W (joinL fs acc) sg H Q → tJs (fs.map fun f => tF X.K cl W f) acc sg H fun out H1 => Q (.str out) H1
  | [], acc, sg, H, Q, ⟨as, st, env, r0, er, q⟩ => q as H _ Le.refl r0 (.str _)
  | f :: fs, acc, sg, H, Q, ⟨as, st, env, r0, er, q⟩ => ⟨as, st, env, r0, er, Wt.bind q fun d s1 as1 H1 v _ l1 r1 x1 q1 => by
    cases d with
    | str y =>
      cases x1
      dsimp only at q1
      by_cases hz : (acc ++ y).length ≤ 100000
      · rw [if_pos hz] at q1
        exact ⟨y, rfl, line5 hz, join_imp fs (acc ++ y) sg H1 Q ⟨as1, s1, env, r1, er.up l1, q1⟩⟩
      · rw [if_neg hz] at q1; exact q1.elim
    | _ => exact q1.elim⟩
theorem fe_join {v1 v2 : Expr} {rest : List Expr} {f1 f2 : Ex} {fs : List Ex} {pos : Pos} (h : FJ X cl W (v1 :: v2 :: rest) (f1 :: f2 :: fs)) : FE X cl W (.JoinedStr (v1 :: v2 :: rest) pos) (eJoin (f1 :: f2 :: fs)) :=
  PE.w (pe_joined h.pj) fun sg H Q q => join_imp _ _ _ _ _ q
theorem fe_join1 {e : Expr} {f : Ex} {pos : Pos} (he : FE X cl W e f) : FE X cl W (.JoinedStr [e] pos) f := pe_joined1 he

/-! ### cells change -/
theorem getElem?_inj {A : Type} {l : List A} (h : l.Nodup) {i j : Nat} {a : A} (h1 : l[i]? = some a) (h2 : l[j]? = some a) : i = j := by
  obtain ⟨a1, e1⟩ := List.getElem?_eq_some_iff.mp h1
  obtain ⟨a2, e2⟩ := List.getElem?_eq_some_iff.mp h2
  exact (List.getElem_inj h).mp (e1.trans e2.symm)
theorem Mv.setc {k : Nat} {a : Addr} {o : HO} (e : as.c[k]? = some a) : Mv as H as (upd H a o) :=
  ⟨fun _ _ h => h, fun b u n eb => ⟨by rw [upd_ne (fun z : b = a => n (.inl (z ▸ List.mem_of_getElem? e)))]; exact eb, n⟩⟩
theorem Rel.setc {k : Nat} {a : Addr} {o : HO} {c : Cell} (r : Rel K cl as H st) (e : as.c[k]? = some a) (hc : CellAt K cl as (upd H a o) a c) : Le as H as (upd H a o) ∧ Rel K cl as (upd H a o) (st.set k c) := by
  have hm : a ∈ as.c := List.mem_of_getElem? e
  refine ⟨⟨Mv.setc e, rfl, fun b m => upd_ne fun z => (r.rs b m).1 (z ▸ hm)⟩, by rw [List.length_set]; exact r.len, r.nd, fun i b c' e1 e2 => ?_, fun b m => ⟨(r.rs b m).1, ?_⟩⟩
  · by_cases hi : k = i
    · subst hi
      rw [e] at e1
      cases e1
      have hk : k < st.length := by rw [← r.len]; exact (List.getElem?_eq_some_iff.mp e).1
      rw [List.getElem?_set_self hk] at e2
      cases e2
      exact hc
    · rw [List.getElem?_set_ne hi] at e2
      have hne : b ≠ a := fun z => hi (getElem?_inj r.nd e (z ▸ e1))
      exact (r.cell i b c' e1 e2).mono (Mv.setc e) fun u eu => by rw [upd_ne hne]; exact eu
  · obtain ⟨u, eu⟩ := (r.rs b m).2
    exact ⟨u, by rw [upd_ne (fun z : b = a => (r.rs b m).1 (by rw [z]; exact hm))]; exact eu⟩
/-- a list cell, to be changed -/
theorem Rel.lst {k : Nat} {ds : List D} {v : V} (r : Rel K cl as H st) (h : st[k]? = some (.lst ds)) (s : Sh K cl as H v (.ref k)) : ∃ a xs, v = .ref a ∧ as.c[k]? = some a ∧ H a = some (.lst xs) ∧ ShL K cl as H xs ds := by
  cases s with
  | @ref _ a e =>
    have c := r.cell k a _ e h
    cases c with
    | lst h1 h2 => exact ⟨a, _, rfl, e, h1, h2⟩
theorem Rel.setL {k : Nat} {a : Addr} {xs : List V} {ds : List D} (r : Rel K cl as H st) (e : as.c[k]? = some a) (x : ShL K cl as H xs ds) : Le as H as (upd H a (.lst xs)) ∧ Rel K cl as (upd H a (.lst xs)) (st.set k (.lst ds)) :=
  r.setc e (.lst upd_same (x.upM (Mv.setc e)))
theorem ShL.setI {xs : List V} {ds : List D} {v : V} {d : D} (s : Sh K cl as H v d) (x : ShL K cl as H xs ds) (i : Nat) : ShL K cl as H (xs.set i v) (ds.set i d) := ShL.set s i x
/-- xs[i] = v -/
theorem fg_sub {o i : Expr} {fo fi : Ex} {pos : Pos} (ho : FE X cl W0 o fo) (hi : FE X cl W0 i fi) (mk : ∀ {t u : TE}, PE X o t → PE X i u → PG X (.Subscript o i pos) (gSub t u rSetL)) : FG X cl (.Subscript o i pos) (tSub fo fi) := PG.w (mk ho hi) fun v sg H Q ⟨as, st, env, d, r0, er, x, q⟩ => by
  unfold tSub at q
  refine ⟨as, st, env, r0, er, ?_⟩
  cases e1 : fo env st with
  | stuck => rw [e1] at q; exact q.elim
  | exn c fs s => rw [e1] at q; exact q.elim
  | ok a s1 =>
    rw [e1] at q
    dsimp only at q
    intro as1 H1 va l1 r1 x1
    refine ⟨as1, s1, env, r1, er.up l1, ?_⟩
    cases e2 : fi env s1 with
    | stuck => rw [e2] at q; exact q.elim
    | exn c fs s => rw [e2] at q; exact q.elim
    | ok b s2 =>
      rw [e2] at q
      dsimp only at q
      intro as2 H2 vb l2 r2 x2
      have x0 := (x.up l1).up l2
      have x1 := x1.up l2
      cases e3 : stD a b d s2 with
      | none => rw [e3] at q; exact q.elim
      | some s3 =>
        rw [e3] at q
        dsimp only [Option.map] at q
        unfold stD at e3
        split at e3
        · rename_i k j _
          cases x2
          cases e4 : s2[k]? with
          | none => rw [e4] at e3; cases e3
          | some c =>
            rw [e4] at e3
            cases c with
            | lst ds =>
              dsimp only at e3
              split at e3
              · rename_i hj
                cases e3
                obtain ⟨p, xs, rfl, ec, hp, hx⟩ := r2.lst e4 x1
                obtain ⟨l3, r3⟩ := r2.setL ec (hx.setI x0 j.toNat)
                exact ⟨p, xs, j, j.toNat, rfl, rfl, hp, by unfold ixN; rw [if_pos hj.1, if_pos (by rw [hx.length]; omega)], q as2 _ _ ((l1.trans l2).trans l3) r3 (((er.up l1).up l2).up l3)⟩
              · cases e3
            | _ => cases e3
        · cases e3
/-! ### methods of built-in types -/
theorem ty_v {x : D} {v : V} {T : Ty} (r : Rel K cl as H st) (e : bmTy st x = some T) (s : Sh K cl as H v x) : tyV K T.nm v H := by
  cases s with
  | str b => cases e; exact rfl
  | lst h _ => cases e; exact Or.inl ⟨rfl, _, h.sq⟩
  | @ref i a ea =>
    simp only [bmTy] at e
    cases e2 : st[i]? with
    | none => rw [e2] at e; cases e
    | some c =>
      rw [e2] at e
      have c' := r.cell i a _ ea e2
      cases c with
      | lst ds => cases e; cases c' with | lst h _ => exact Or.inl ⟨rfl, _, Or.inl (Or.inl h)⟩
      | dct ds => cases e; cases c' with | dct h _ _ => exact Or.inr (Or.inr (Or.inl ⟨rfl, Or.inl ⟨_, h⟩⟩))
      | _ => cases e
  | _ => cases e
theorem imp_bm {T : Ty} {r : V → List V → Hp → VK → Prop} {o : Om} {n : Nat} {es : List Expr} {f : Ex} {fa : Exs} (hr : Okm X.K cl r o) : ∀ sg H Q, tF X.K cl W (eBm T o f fa) sg H Q → tBM X.K T.nm r (tF X.K cl W f) (tFs X.K cl W fa) sg H Q := fun sg H Q ⟨as, st, env, r0, er, q⟩ =>
  ⟨as, st, env, r0, er, Wt.bind q fun d s1 as1 H1 v _ l1 r1 x1 q1 => by
    by_cases hT : bmTy s1 d = some T
    · simp only [if_pos hT] at q1
      exact ⟨ty_v r1 hT x1, as1, s1, env, r1, er.up l1, Wt.binds q1 fun ds s2 as2 H2 vs _ l2 r2 x2 q2 => let ⟨_, _, e, af⟩ := ofO_aft q2; hr as2 H2 s2 d ds v vs _ _ _ r2 e (x1.up l2) x2 af⟩
    · simp only [if_neg hT] at q1; exact q1.elim⟩
theorem imp_bm0 {T : Ty} {r : V → List V → Hp → VK → Prop} {o : Om} {f : Ex} (hr : Okm X.K cl r o) : ∀ sg H Q, tF X.K cl W (eBm T o f aNil) sg H Q → tBM0 X.K T.nm r (tF X.K cl W f) sg H Q := fun sg H Q ⟨as, st, env, r0, er, q⟩ =>
  ⟨as, st, env, r0, er, Wt.bind q fun d s1 as1 H1 v _ l1 r1 x1 q1 => by
    by_cases hT : bmTy s1 d = some T
    · simp only [if_pos hT, aNil, Res.bind] at q1
      obtain ⟨_, _, e, af⟩ := ofO_aft q1
      exact ⟨ty_v r1 hT x1, hr as1 H1 s1 d [] v [] _ _ _ r1 e x1 .nil af⟩
    · simp only [if_neg hT] at q1; exact q1.elim⟩
theorem ok_app : Okm K cl rAppend appD := by
  intro as H st x xs v vs d st' Q r e s1 s2 af
  unfold appD at e
  split at e
  · rename_i k y
    cases e4 : st[k]? with
    | none => rw [e4] at e; cases e
    | some c =>
      rw [e4] at e
      cases c with
      | lst ds =>
        dsimp only at e
        split at e
        · rename_i hl
          cases e
          cases s2 with
          | cons y1 y2 =>
            cases y2
            obtain ⟨p, us, rfl, ec, hp, hx⟩ := r.lst e4 s1
            obtain ⟨l3, r3⟩ := r.setL ec (hx.append (.cons y1 .nil))
            exact ⟨p, us, _, rfl, rfl, hp, by rw [hx.length]; exact Nat.lt_of_lt_of_le hl (by decide), af as _ _ l3 r3 .non⟩
        · cases e
      | _ => cases e
  · cases e
end
end F3

/-! F3, part h: a law from its code. -/
namespace F3
open PySem PySem.Spec PyProof.Rows L2

/-- the law's def called by the claim: its code tells True -/
theorem law_F {P : Program} {w : World} {K : PySem.W.Frag} {mg mb : Str → Option Value} {k : Nat} {fa a : Addr} {fd : FuncData} {x : Str} {cl : String → Addr} {m : List D → Store → Res D} {s1 : Shared} {vs : List Value} {ns : List Int}
    (KX : K.In s1.heap) (hns : s1.heap.Ns mainGlobals mg) (hb : s1.heap.Ns builtinsNs mb) (hbb : ∀ y : Str, y ≠ "__name__" → mb y = bootBuiltins y) (hlim : s1.heap.NoLimit) (hg : s1.gens = #[])
    (ha : s1.heap.get? a = some { cls := .type "list", data := .seq vs.toArray }) (hi : IntsAre vs ns) (hl : ns.length ≤ sizeLine) (hr : Room k callerA)
    (F : ∀ base : Heap, K.In base → base.Ns mainGlobals mg → FnG P w K mg base k fa fd [x] (spF K cl 1 m)) (hbi : ∀ (s : Shared) (u : Value), BindsTo s fd ⟨[u], []⟩ [(x, u)])
    (hm : ∃ st', m [.lst (ns.map D.int)] [] = .ok (.bl true) st') :
    codeAny (model P w) callerA (.call (.ref fa) ⟨[.ref a], []⟩) (fun r s' => r = .ok (.ret (.bool true)) ∧ OldK s1.heap s'.heap ∧ s'.os = s1.os ∧ AllBare s'.gens) s1 := by
  have rv := vals_ints hi
  -- H tracks the script alone, as it is known, or nothing
  have go : ∀ H : Hp, (∀ b u, H b = some u → b = a ∧ K.lookup a = none ∧ u = .frz { cls := .type "list", data := .seq vs.toArray } (.lst (ns.map V.int))) → FzL K ⟨[], []⟩ H a (ns.map V.int) → 
      codeAny (model P w) callerA (.call (.ref fa) ⟨[.ref a], []⟩) (fun r s' => r = .ok (.ret (.bool true)) ∧ OldK s1.heap s'.heap ∧ s'.os = s1.os ∧ AllBare s'.gens) s1 := by
    intro H hH hS
    have free : ∀ b, b ≠ a → H b = none := fun b hb => by
      cases q : H b with
      | none => rfl
      | some u => exact absurd (hH b u q).1 hb
    have hok : HOk P w H s1.heap := fun b u e => by
      obtain ⟨rfl, _, rfl⟩ := hH b u e
      exact ⟨ha, by rw [List.length_map]; exact hl, vs, _, rv, ha⟩
    have ns_in : ∀ {b : Addr} {g : Str → Option Value}, s1.heap.Ns b g → (hidT s1.heap H).Ns b g := fun {b g} h => by
      obtain ⟨o, es, ep, e, d, r⟩ := h
      refine ⟨o, es, ep, hidT_get e (free b fun z => ?_), d, r⟩
      rw [z, ha] at e
      cases e
      cases (show Data.seq vs.toArray _ = Data.dict es ep from d)
    have k_in : K.In (hidT s1.heap H) := fun b o e => by
      refine hidT_get (KX b o e) ?_
      cases q : H b with
      | none => rfl
      | some u =>
        obtain ⟨rfl, z, _⟩ := hH b u q
        rw [z] at e; cases e
    have hM : Mod K mg (hidT s1.heap H) := ⟨k_in, ns_in hns, ⟨mb, ns_in hb, hbb⟩, let ⟨mc, h1, h2⟩ := hlim; ⟨mc, ns_in h1, h2⟩⟩
    have e0 : Env0 P w K mg (hidT s1.heap H) callerA [] s1 H := ⟨rfl, hM, fun _ _ e => of_hidT e, Nat.le_of_eq (hidT_size _ _), trivial, (fun _ z => nomatch z), hok, AllBare.of_eq hg⟩
    obtain ⟨st', e⟩ := hm
    have hsp : spF K cl 1 m [.ref a] H (fun v _ => v = .bl true) (fun _ _ _ => False) := by
      refine ⟨⟨[], []⟩, [], [.lst (ns.map D.int)], rfl, ⟨rfl, List.nodup_nil, (fun i b c e1 _ => by simp at e1), (fun _ z => nomatch z)⟩, .cons (.lst hS ?_) .nil, ?_⟩
      · clear hS rv hi ha hl e hok hH free
        induction ns with
        | nil => exact .nil
        | cons n ns ih => exact .cons (.int n) ih
      · rw [e]
        intro as' H' v _ _ x
        cases x
        rfl
    refine codeAny_mono ((F _ k_in (ns_in hns)).run callerA [] s1 H ⟨[.ref a], []⟩ [.ref a] [.ref a] _ _ rfl hr e0 (hbi s1 (.ref a)) (.cons rfl .nil) hsp) fun r s2 h => ?_
    cases r with
    | error e =>
      obtain ⟨_, _, _, _, _, _, _, _, _, _, _, _, z⟩ := h
      exact z.elim
    | ok fl =>
      cases fl with
      | ret u =>
        obtain ⟨v, H2, o2, bare2, un2, hok2, r2, q2⟩ := h
        cases (show v = .bl true from q2)
        cases r2
        refine ⟨rfl, OldK.of_keep fun b o e => ?_, o2, bare2⟩
        cases q : H b with
        | none => exact un2.keep b o e q (fun z => nomatch z) (fun z => nomatch z)
        | some u =>
          obtain ⟨rfl, _, rfl⟩ := hH b u q
          obtain ⟨e2, _⟩ := hok2 b _ (un2.frzs b _ _ q)
          rw [ha] at e
          rw [e2, e]
      | next => exact h.elim
      | brk => exact h.elim
      | cont => exact h.elim
  cases hk : K.lookup a with
  | some o =>
    have e := KX a o hk
    rw [ha] at e
    cases e
    refine go (fun _ => none) (fun b u z => nomatch z) (.inr fun H => .inr ⟨_, vs.toArray, _, hk, rfl, rfl, rfl, by rw [List.size_toArray, hi.length]; exact hl, by simpa using rv⟩)
  | none =>
    refine go (fun b => if b = a then some (.frz { cls := .type "list", data := .seq vs.toArray } (.lst (ns.map V.int))) else none) (fun b u z => ?_) (.inl ⟨fun z => ?_, .inr ⟨_, if_pos rfl⟩⟩)
    · by_cases hb : b = a
      · rw [if_pos hb] at z; cases z; exact ⟨hb, hk, rfl⟩
      · rw [if_neg hb] at z; cases z
    · rcases z with z | z <;> cases z
/-- the whole law -/
theorem walk_F {l : PySem.W.OpenLaw} {n k : Nat} {q : Program} {loose : List Str} {XP : (Str → Option Value) → Heap → Prop} {YP : World → Heap → Prop} {d : DefRec} {x : Str}
    (hn : l.most = some n) (hn2 : n ≤ sizeLine) (hdf : d.params.defaults = []) (hr : Room k callerA)
    (F : ∀ (w : World) (mg : Str → Option Value) (fa : Addr) (h : Heap), YP w h → h.Ns mainGlobals mg → mg d.name = some (.ref fa) →
      ∃ (K : PySem.W.Frag) (fd : FuncData) (cl : String → Addr) (m : List D → Store → Res D), K.In h ∧ (∀ (s : Shared) (u : Value), BindsTo s fd ⟨[u], []⟩ [(x, u)]) ∧
        (∀ ns : List Int, ns.length ≤ n → ∃ st', m [.lst (ns.map D.int)] [] = .ok (.bl true) st') ∧
        ∀ base : Heap, K.In base → base.Ns mainGlobals mg → FnG l.prog w K mg base k fa fd [x] (spF K cl 1 m)) :
    PySem.W.WalkO q loose XP YP l.row.toRowW d [] (fun f vs => PySem.call f vs) := by
  refine Att.attach_call hn hdf fun w s0 s1 mg mb fa o pm cd doc a vs ns G Y ho hd hcd hmg hobj hints hlen hg => ?_
  obtain ⟨K, fd, cl, m, KX, hbi, hm, hF⟩ := F w mg fa _ Y G.T.g hmg
  exact law_F KX G.T.g G.T.b G.T.builtins G.T.nolimit hg hobj hints (Nat.le_trans hlen hn2) hr hF hbi (hm ns hlen)
end F3

/-! F3, part i: how written arguments come to parameters. -/
namespace F3
open PySem PySem.Spec PyProof.Rows L2

/-- where a parameter's value comes from: the i-th positional one, the i-th keyword's, the i-th default, the i-th keyword-only default that is wanted -/
inductive Src where
  | u (i : Nat) | w (i : Nat) | t (i : Nat) | m (i : Nat)
def pick {A : Type} (us ws ts ms : List A) : Src → Option A
  | .u i => us[i]?
  | .w i => ws[i]?
  | .t i => ts[i]?
  | .m i => ms[i]?
def Src.inb (a b c d : Nat) : Src → Bool
  | .u i => decide (i < a)
  | .w i => decide (i < b)
  | .t i => decide (i < c)
  | .m i => decide (i < d)
section
variable {K : PySem.W.Frag} {cl : String → Addr} {as : As} {H : Hp}
theorem pick_len {A : Type} {us ws ts ms : List A} : ∀ {src : List Src}, (src.all fun s => s.inb us.length ws.length ts.length ms.length) = true → (src.filterMap (pick us ws ts ms)).length = src.length
  | [], _ => rfl
  | s :: r, h => by
    simp only [List.all_cons, Bool.and_eq_true] at h
    obtain ⟨h1, h2⟩ := h
    have : ∃ a, pick us ws ts ms s = some a := by
      cases s <;> simp only [Src.inb, decide_eq_true_eq] at h1 <;> exact ⟨_, List.getElem?_eq_getElem h1⟩
    obtain ⟨a, e⟩ := this
    rw [List.filterMap_cons, e]
    exact congrArg Nat.succ (pick_len h2)
theorem pick_vals {vs zs xs ys : List V} {us ws ts ms : List Value} (h1 : Vals vs us) (h2 : Vals zs ws) (h3 : Vals xs ts) (h4 : Vals ys ms) : ∀ src : List Src, Vals (src.filterMap (pick vs zs xs ys)) (src.filterMap (pick us ws ts ms))
  | [] => .nil
  | s :: r => by
    have one : ∀ {as : List V} {bs : List Value} (i : Nat), Vals as bs → (as[i]? = none ∧ bs[i]? = none) ∨ ∃ a b, as[i]? = some a ∧ bs[i]? = some b ∧ RelV a b := fun {as bs} i h => by
      cases e : as[i]? with
      | none => exact .inl ⟨rfl, h.none_of e⟩
      | some a => obtain ⟨b, e1, e2⟩ := h.get e; exact .inr ⟨a, b, rfl, e1, e2⟩
    have : (pick vs zs xs ys s = none ∧ pick us ws ts ms s = none) ∨ ∃ a b, pick vs zs xs ys s = some a ∧ pick us ws ts ms s = some b ∧ RelV a b := by
      cases s with
      | u i => exact one i h1
      | w i => exact one i h2
      | t i => exact one i h3
      | m i => exact one i h4
    rcases this with ⟨e1, e2⟩ | ⟨a, b, e1, e2, r'⟩
    · rw [List.filterMap_cons, List.filterMap_cons, e1, e2]; exact pick_vals h1 h2 h3 h4 r
    · rw [List.filterMap_cons, List.filterMap_cons, e1, e2]; exact .cons r' (pick_vals h1 h2 h3 h4 r)
theorem pick_sh {vs zs xs ys : List V} {us ws ts ms : List D} (h1 : ShL K cl as H vs us) (h2 : ShL K cl as H zs ws) (h3 : ShL K cl as H xs ts) (h4 : ShL K cl as H ys ms) : ∀ src : List Src, ShL K cl as H (src.filterMap (pick vs zs xs ys)) (src.filterMap (pick us ws ts ms))
  | [] => .nil
  | s :: r => by
    have one : ∀ {cs : List V} {bs : List D} (i : Nat), ShL K cl as H cs bs → (cs[i]? = none ∧ bs[i]? = none) ∨ ∃ a b, cs[i]? = some a ∧ bs[i]? = some b ∧ Sh K cl as H a b := fun {cs bs} i h => by
      cases e : cs[i]? with
      | none =>
        refine .inl ⟨rfl, List.getElem?_eq_none_iff.mpr ?_⟩
        rw [← h.length]
        exact List.getElem?_eq_none_iff.mp e
      | some a => obtain ⟨b, e1, e2⟩ := h.map1 e; exact .inr ⟨a, b, rfl, e1, e2⟩
    have : (pick vs zs xs ys s = none ∧ pick us ws ts ms s = none) ∨ ∃ a b, pick vs zs xs ys s = some a ∧ pick us ws ts ms s = some b ∧ Sh K cl as H a b := by
      cases s with
      | u i => exact one i h1
      | w i => exact one i h2
      | t i => exact one i h3
      | m i => exact one i h4
    rcases this with ⟨e1, e2⟩ | ⟨a, b, e1, e2, r'⟩
    · rw [List.filterMap_cons, List.filterMap_cons, e1, e2]; exact pick_sh h1 h2 h3 h4 r
    · rw [List.filterMap_cons, List.filterMap_cons, e1, e2]; exact .cons r' (pick_sh h1 h2 h3 h4 r)
variable {x qual : Str} {params : Arguments} {body : List Stmt} {scope : Scope} {dvs : List V} {kws : List (Str × V)} {f : Addr} {fd : FuncData} {ps ks : List Str} {n : Nat}
theorem kb_of {src : List Src} {ms : List V} {dt dm : List D} {gD : List D → List D → List D} (hT : ∀ as H, ShL K cl as H dvs dt) (hM : ∀ as H, ShL K cl as H ms dm) (hin : (src.all fun s => s.inb n ks.length dt.length dm.length) = true) (hps : src.length = ps.length)
    (hg : ∀ ds es : List D, ds.length = n → es.length = ks.length → gD ds es = src.filterMap (pick ds es dt dm))
    (its mv : List Value) (rT : Vals dvs its) (rM : Vals ms mv)
    (h : ∀ (s : Shared) (us ws : List Value), K.In s.heap → us.length = n → ws.length = ks.length → BindsTo s fd ⟨us, ks.zip ws⟩ (ps.zip (src.filterMap (pick us ws its mv)))) : KB K cl fd ps n ks gD := by
  refine ⟨fun s us ws hK h1 h2 => ⟨_, h s us ws hK h1 h2, fun as H st vs zs ds es _ r1 r2 x1 x2 => ?_⟩⟩
  have l1 : ds.length = n := by rw [← x1.length, r1.length, h1]
  have l2 : es.length = ks.length := by rw [← x2.length, r2.length, h2]
  rw [hg ds es l1 l2]
  refine ⟨_, pick_vals r1 r2 rT rM src, pick_sh x1 x2 (hT as H) (hM as H) src, ?_⟩
  rw [pick_len (by rw [l1, l2]; exact hin), hps]
/-- no defaults of positional parameters; ms: the keyword-only ones that lack -/
theorem kb_0 (F : FunD K x qual params body scope [] kws f fd) (n : Nat) (ks : List Str) (ms : List (Str × V)) (src : List Src) {dm : List D} {gD : List D → List D → List D} (hms : ∀ q ∈ ms, q ∈ kws) (hM : ∀ as H, ShL K cl as H (ms.map (·.2)) dm)
    (hin : (src.all fun s => s.inb n ks.length 0 dm.length) = true) (hps : src.length = ps.length) (hg : ∀ ds es : List D, ds.length = n → es.length = ks.length → gD ds es = src.filterMap (pick ds es [] dm))
    (h : ∀ (Dk : Addr) (kV doc pm : Value) (an : Option Addr) (cdv ct : Value) (us mv ws : List Value), us.length = n → mv.length = ms.length → ws.length = ks.length → (ms ≠ [] → kV = .ref Dk) →
      KwChain Dk ((ms.map (·.1)).zip mv) (bindArgs (PySem.W.fnOf x qual params body scope .none kV doc pm an cdv ct) ⟨us, ks.zip ws⟩) (ps.zip (src.filterMap (pick us ws [] mv)))) : KB K cl fd ps n ks gD := by
  obtain ⟨oc, od, dV, kV, doc, pm, an, cdv, ct, osl, rfl, lk, hcd, hD, hK⟩ := F.ex
  rcases hD with ⟨_, rfl⟩ | ⟨e, _⟩
  · have hx : ∃ (Dk : Addr) (mv : List Value), mv.length = ms.length ∧ Vals (ms.map (·.2)) mv ∧ (∀ q ∈ (ms.map (·.1)).zip mv, PySem.W.nsIn K Dk q.1 = some (some q.2)) ∧ (ms ≠ [] → kV = .ref Dk) := by
      rcases hK with e | ⟨Dk, rfl, hq⟩
      · subst e
        cases ms with
        | nil => exact ⟨0, [], rfl, .nil, (fun _ z => by cases z), fun z => absurd rfl z⟩
        | cons m ms => exact absurd (hms m List.mem_cons_self) (by simp)
      · obtain ⟨mv, l, rv, a⟩ := kwd_vals (ms := ms) fun q hm => hq q (hms q hm)
        exact ⟨Dk, mv, l, rv, a, fun _ => rfl⟩
    obtain ⟨Dk, mv, l, rv, a, hk⟩ := hx
    refine kb_of (dvs := []) (ms := ms.map (·.2)) (dt := []) (fun _ _ => .nil) hM hin hps hg [] mv .nil rv fun s us ws X l1 l2 => ?_
    exact BindsTo.of_looks fun M => KwChain.looks X a (h Dk kV doc pm an cdv ct us mv ws l1 l l2 hk)
  · exact absurd rfl e
/-- with such -/
theorem kb_1 (F : FunD K x qual params body scope dvs kws f fd) (n : Nat) (ks : List Str) (ms : List (Str × V)) (src : List Src) {dt dm : List D} {gD : List D → List D → List D} (hd : dvs ≠ []) (hms : ∀ q ∈ ms, q ∈ kws) (hT : ∀ as H, ShL K cl as H dvs dt) (hM : ∀ as H, ShL K cl as H (ms.map (·.2)) dm)
    (hin : (src.all fun s => s.inb n ks.length dt.length dm.length) = true) (hps : src.length = ps.length) (hg : ∀ ds es : List D, ds.length = n → es.length = ks.length → gD ds es = src.filterMap (pick ds es dt dm))
    (h : ∀ (T Dk : Addr) (kV doc pm : Value) (an : Option Addr) (cdv ct : Value) (us its mv ws : List Value), us.length = n → its.length = dvs.length → mv.length = ms.length → ws.length = ks.length → (ms ≠ [] → kV = .ref Dk) →
      ∃ k, bindArgs (PySem.W.fnOf x qual params body scope (.ref T) kV doc pm an cdv ct) ⟨us, ks.zip ws⟩ = seqItems? (.ref T) >>= k ∧ KwChain Dk ((ms.map (·.1)).zip mv) (k (some its.toArray)) (ps.zip (src.filterMap (pick us ws its mv)))) : KB K cl fd ps n ks gD := by
  obtain ⟨oc, od, dV, kV, doc, pm, an, cdv, ct, osl, rfl, lk, hcd, hD, hK⟩ := F.ex
  rcases hD with ⟨e, _⟩ | ⟨_, T, o, its, m, rfl, lT, oT, rT⟩
  · exact absurd e hd
  · have hx : ∃ (Dk : Addr) (mv : List Value), mv.length = ms.length ∧ Vals (ms.map (·.2)) mv ∧ (∀ q ∈ (ms.map (·.1)).zip mv, PySem.W.nsIn K Dk q.1 = some (some q.2)) ∧ (ms ≠ [] → kV = .ref Dk) := by
      rcases hK with e | ⟨Dk, rfl, hq⟩
      · subst e
        cases ms with
        | nil => exact ⟨0, [], rfl, .nil, (fun _ z => by cases z), fun z => absurd rfl z⟩
        | cons m ms => exact absurd (hms m List.mem_cons_self) (by simp)
      · obtain ⟨mv, l, rv, a⟩ := kwd_vals (ms := ms) fun q hm => hq q (hms q hm)
        exact ⟨Dk, mv, l, rv, a, fun _ => rfl⟩
    obtain ⟨Dk, mv, l, rv, a, hk⟩ := hx
    refine kb_of (ms := ms.map (·.2)) hT hM hin hps hg its mv rT rv fun s us ws X l1 l2 => ?_
    obtain ⟨k, e1, e2⟩ := h T Dk kV doc pm an cdv ct us its mv ws l1 rT.length.symm l l2 hk
    refine BindsTo.of_looks fun M => ?_
    rw [e1]
    exact looks_items X lT oT (KwChain.looks X a e2)
/-- every parameter by its place, no defaults -/
theorem kb_p (F : FunD K x qual params body scope [] [] f fd) (h : ∀ (kV doc pm : Value) (an : Option Addr) (cdv ct : Value) (us : List Value), us.length = ps.length → bindArgs (PySem.W.fnOf x qual params body scope .none kV doc pm an cdv ct) ⟨us, []⟩ = pure (ps.zip us)) : KB K cl fd ps ps.length [] (fun ds _ => ds) := by
  have b := FunD.bindsN F h
  refine ⟨fun s us ws hK h1 h2 => ⟨us, ?_, fun as H st vs zs ds es _ r1 r2 x1 x2 => ⟨vs, r1, x1, by rw [← x1.length, r1.length, h1]⟩⟩⟩
  have := b s us hK (by rw [List.append_nil]; exact h1)
  rw [List.append_nil] at this
  exact this
/-- a def that can be called -/
structure Cal (P : Program) (w : World) (K : PySem.W.Frag) (mg : Str → Option Value) (base : Heap) (cl : String → Addr) (k : Nat) (x : Str) (f : Addr) (fd : FuncData) (ps : List Str) (m : List D → Store → Res D) : Prop where
  G : FnG P w K mg base k f fd ps (spF K cl ps.length m)
  g : mg x = some (.ref f)
  kp : PySem.W.keepIn K (.ref f) = true
end
end F3

/-! F3, part j: methods of lists, in, reversal. -/
namespace F3
open PySem PySem.Spec PyProof.Rows L2

/-! ### on data -/
def inB (x y : D) (st : Store) : Option Bool := (pyD st x).bind fun p => (pyD st y).bind fun q => match q with
  | .list qs => if SeqAt.shaped p = true ∧ SeqAt.shaped (.list qs) = true then some (qs.any fun z => PyData.eqv z p) else none
  | _ => none
def inD : O2 := fun x y st => (inB x y st).map fun b => (.bl b, st)
def ninD : O2 := fun x y st => (inB x y st).map fun b => (.bl (!b), st)
def cntD : Om := fun x vs st => match vs with
  | [y] => (pyD st x).bind fun q => (pyD st y).bind fun p => (match q with
    | .list qs => if SeqAt.shaped p = true ∧ SeqAt.shaped (.list qs) = true then some (.int ((qs.countP fun z => PyData.eqv z p : Nat) : Int), st) else none
    | _ => none)
  | _ => none
def insD : Om := fun x vs st => match x, vs with
  | .ref k, [.int i, d] => match st[k]? with
    | some (.lst ds) => if ds.length < 100000 ∧ 0 ≤ i ∧ i < 2 ^ 63 then some (.non, st.set k (.lst (ds.take i.toNat ++ [d] ++ ds.drop i.toNat))) else none
    | _ => none
  | _, _ => none
def revD : O1 := fun x st => (listD st x).map fun ds => (.lst ds.reverse, st)

section
variable {X : Cx} {cl : String → Addr} {W : WX} {K : PySem.W.Frag} {as : As} {H : Hp} {st : Store}
theorem inB_data {x y : D} {b : Bool} {v w : V} (r : Rel K cl as H st) (e : inB x y st = some b) (s1 : Sh K cl as H v x) (s2 : Sh K cl as H w y) :
    ∃ d ds, Dp K H v d ∧ Dp K H w (.list ds) ∧ SeqAt.shaped d = true ∧ SeqAt.shaped (.list ds) = true ∧ b = ds.any fun z => PyData.eqv z d := by
  unfold inB at e
  cases e1 : pyD st x with
  | none => rw [e1] at e; cases e
  | some p =>
    rw [e1] at e
    simp only [Option.bind] at e
    cases e2 : pyD st y with
    | none => rw [e2] at e; cases e
    | some q =>
      rw [e2] at e
      cases q with
      | list qs =>
        dsimp only at e
        split at e
        · rename_i h
          cases e
          exact ⟨p, qs, dp_of r e1 s1, dp_of r e2 s2, h.1, h.2, rfl⟩
        · cases e
      | _ => cases e
theorem ok_in : Ok2 K cl (rInD K) inD := by
  intro as H st x y v w d st' Q r e s1 s2 af
  unfold inD at e
  cases e1 : inB x y st with
  | none => rw [e1] at e; cases e
  | some b =>
    rw [e1] at e
    cases e
    obtain ⟨p, qs, h1, h2, h3, h4, rfl⟩ := inB_data r e1 s1 s2
    exact ⟨p, qs, h1, h2, h3, h4, af as H _ Le.refl r (.bl _)⟩
theorem ok_nin : Ok2 K cl (rNotInD K) ninD := by
  intro as H st x y v w d st' Q r e s1 s2 af
  unfold ninD at e
  cases e1 : inB x y st with
  | none => rw [e1] at e; cases e
  | some b =>
    rw [e1] at e
    cases e
    obtain ⟨p, qs, h1, h2, h3, h4, rfl⟩ := inB_data r e1 s1 s2
    exact ⟨p, qs, h1, h2, h3, h4, af as H _ Le.refl r (.bl _)⟩
theorem Rm.u65 {k : Nat} {A : Around} (r : Room k A) : A.units + 65 < cLine := by have := r.un; omega
/-- l.count(x), by data -/
def rCntD (K : PySem.W.Frag) : V → List V → Hp → VK → Prop := fun x xs H Q => ∃ (y : V) (d : PyData) (ds : List PyData), xs = [y] ∧ Dp K H x (.list ds) ∧ Dp K H y d ∧
  SeqAt.shaped (.list ds) = true ∧ SeqAt.shaped d = true ∧ Q (.int ((ds.countP fun z => PyData.eqv z d : Nat) : Int)) H
theorem mt_cntD (hu : X.A.units + 65 < cLine) : MtR X "list.count" (rCntD X.K) := by
  intro pins s sg H x xs v us Q I rx rxs h
  obtain ⟨y, d, ds, rfl, hl, hy, sl, sd, q⟩ := h
  obtain ⟨u, rfl, ru⟩ := rxs.one
  obtain ⟨bs, r1⟩ := Dp.reads I d y u hy ru
  have hcan : PyData.canLayAll0 ds = true := SeqAt.canLay_of_shaped sl
  cases hl with
  | lst hs ha =>
    cases rx
    obtain ⟨its, rv, ⟨⟨cls, dd, data, slo⟩, n, ho, hc, hdn, hdt⟩, hlen⟩ := I.list hs
    simp only at hc hdt
    subst hc hdt
    obtain ⟨bs2, r4⟩ := Dp.readsAll I ds _ its ha rv
    have hm : its.map (SeqAt.readOf s.heap) = ds := SeqAt.readsAll_map ds its bs2 hcan r4
    have hroom := room_in_shaped (xs := ds) sd hu
    refine call_meets PySem.F.slot_list_count ⟨_, ho, rfl⟩ PySem.F.entry_list_count (PySem.F.args_list_count_2 _ _)
      (SeqAt.list_countAt _ its.toArray n dd slo u fun z => PyData.eqv (SeqAt.readOf s.heap z) d) ⟨ho, SeqAt.items_eqAt (vs := its.toArray) (show ReadsAll s.heap its.toArray.toList ds bs2 from r4) r1 hcan (SeqAt.canLay_of_shaped sd) hroom, ?_⟩
    have hcnt : its.toArray.toList.countP (fun z => PyData.eqv (SeqAt.readOf s.heap z) d) = ds.countP fun z => PyData.eqv z d := by
      rw [← hm, List.countP_map]
      rfl
    refine ⟨.int ((ds.countP fun z => PyData.eqv z d : Nat) : Int), H, I.tok _, ⟨s.toks, ?_⟩, q⟩
    rw [hcnt]
theorem ok_cnt : Okm K cl (rCntD K) cntD := by
  intro as H st x xs v vs d st' Q r e s1 s2 af
  unfold cntD at e
  split at e
  · rename_i y
    cases e1 : pyD st x with
    | none => rw [e1] at e; cases e
    | some q =>
      rw [e1] at e
      simp only [Option.bind] at e
      cases e2 : pyD st y with
      | none => rw [e2] at e; cases e
      | some p =>
        rw [e2] at e
        cases q with
        | list qs =>
          dsimp only at e
          split at e
          · rename_i h
            cases e
            cases s2 with
            | cons y1 y2 =>
              cases y2
              exact ⟨_, p, qs, rfl, dp_of r e1 s1, dp_of r e2 y1, h.2, h.1, af as H _ Le.refl r (.int _)⟩
          · cases e
        | _ => cases e
  · cases e
def rInsert : V → List V → Hp → VK → Prop := fun x vs H Q => ∃ (l : Addr) (xs : List V) (i : Int) (y : V), x = .ref l ∧ vs = [.int i, y] ∧ H l = some (.lst xs) ∧ xs.length < sizeLine ∧ 0 ≤ i ∧ i < 2 ^ 63 ∧ Q .non (upd H l (.lst (xs.take i.toNat ++ [y] ++ xs.drop i.toNat)))
theorem ok_ins : Okm K cl rInsert insD := by
  intro as H st x xs v vs d st' Q r e s1 s2 af
  unfold insD at e
  split at e
  · rename_i k i y
    cases e4 : st[k]? with
    | none => rw [e4] at e; cases e
    | some c =>
      rw [e4] at e
      cases c with
      | lst ds =>
        dsimp only at e
        split at e
        · rename_i hl
          cases e
          cases s2 with
          | cons y1 y2 =>
            cases y1
            cases y2 with
            | cons y2 y3 =>
              cases y3
              obtain ⟨p, us, rfl, ec, hp, hx⟩ := r.lst e4 s1
              obtain ⟨l3, r3⟩ := r.setL ec (((hx.take i.toNat).append (.cons y2 .nil)).append (hx.drop i.toNat))
              exact ⟨p, us, i, _, rfl, rfl, hp, by rw [hx.length]; exact Nat.lt_of_lt_of_le hl.1 (by decide), hl.2.1, hl.2.2, af as _ _ l3 r3 .non⟩
        · cases e
      | _ => cases e
  · cases e
variable {o e : Expr} {es : List Expr} {f : Ex} {fa : Exs} {name : Str} {apos cpos pos : Pos} {T : Ty} {id : String} {r : V → List V → Hp → VK → Prop} {om : Om} {n : Nat}
theorem fe_bm (pa : PlainAttrs T.nm) (slot : Slot T.nm name id) (hty : typeOf (.builtin id) = pure (.type "method_descriptor")) (hm : MtR X id r) (hr : Okm X.K cl r om) (ho : FE X cl W o f) (ha : FA X cl W n (e :: es) fa)
    (hbase : attributeBase o name X.env (eval o X.env) = eval o X.env := by rfl) (hfew : ((backTo cpos (starEach (e :: es) X.env)).all (fun x => !x.1) && (backToKw cpos (keywordEach [] X.env)).all (fun x => x.1.isSome) && decide ((e :: es).length + ([] : List Keyword).length + (if ([] : List Keyword).isEmpty then 0 else 1) < 30)) = true := by rfl) (hline : (apos.endLine == cpos.line) = true := by rfl) (hs : starEach (e :: es) X.env = (false, eval e X.env) :: starEach es X.env := by rfl) (hplain : (backTo cpos (starEach es X.env)).any (·.1) = false := by rfl) :
    FE X cl W (.Call (.Attribute o name apos) (e :: es) [] cpos) (eBm T om f fa) := PE.w (pe_bm pa slot hty hm ho ha.pa hbase hfew hline hs hplain) (imp_bm (n := n) (es := es) hr)
theorem fe_bm0 (pa : PlainAttrs T.nm) (slot : Slot T.nm name id) (hty : typeOf (.builtin id) = pure (.type "method_descriptor")) (hm : MtR X id r) (hr : Okm X.K cl r om) (ho : FE X cl W o f)
    (hbase : attributeBase o name X.env (eval o X.env) = eval o X.env := by rfl) (hline : (apos.endLine == cpos.line) = true := by rfl) :
    FE X cl W (.Call (.Attribute o name apos) [] [] cpos) (eBm T om f aNil) := PE.w (pe_bm0 pa slot hty hm ho hbase hline) (imp_bm0 hr)
theorem fe_rev {k : Nat} {p1 p2 p3 : Pos} (ho : FE X cl W o f) : FE X cl W (.Subscript o (.Slice none none (some (.UnaryOp .USub (.Constant (.int 1) k p1) p2)) p3) pos) (eUn revD f) := PE.w (pe_revL ho) fun sg H Q ⟨as, st, env, r0, er, q⟩ => by
  refine ⟨as, st, env, r0, er, Wt.bind q fun d s1 as1 H1 v _ l1 r1 x1 q1 => ?_⟩
  obtain ⟨y, s', e, af⟩ := ofO_aft q1
  unfold revD at e
  cases e1 : listD s1 d with
  | none => rw [e1] at e; cases e
  | some ds =>
    rw [e1] at e
    cases e
    obtain ⟨p, xs, rfl, hq, hx⟩ := listD_sq r1 e1 x1
    exact ⟨p, xs, rfl, hq, af.lst r1 hx.rev⟩
end
end F3

/-! F3, part k: exceptions: try, kept ones. -/
namespace F3
open PySem PySem.Spec PyProof.Rows L2

section
variable {X : Cx} {pins : List (Addr × Obj)} {sg : L2.St} {H : Hp} {s : Shared} {a : Addr}
theorem ko_ok {P : Program} {w : World} {H : Hp} {h : Heap} {cls : Value} {d : Option Addr} {oe : Obj} {vs : Array Value} (e : h.get? a = some oe) (z : Zc cls d oe) (dd : oe.data = .fields vs) : ObjOk P w H h a (KO cls d a) :=
  ⟨⟨oe, vs, e, z, dd⟩, ⟨oe, e⟩, fun _ _ ⟨o, v, q, r⟩ k => ⟨o, v, k o q, r⟩⟩
/-- an exception that has been caught is tracked from now on -/
theorem Inv.track (I : Inv X pins sg H s) {cls : Value} {d : Option Addr} {oe : Obj} {vs : Array Value} (e : s.heap.get? a = some oe) (z : Zc cls d oe) (hd : oe.data = .fields vs) (n : H a = none) (n0 : X.s_0.heap.get? a = none) (nL : a ≠ X.env.locals) (np : ∀ p ∈ X.pn ++ pins, p.1 ≠ a) :
    Inv X pins sg (upd H a (KO cls d a)) s := by
  have ne0 : ∀ b o, X.s_0.heap.get? b = some o → b ≠ a := fun b o e z => by
    rw [z, n0] at e
    cases e
  have neH : ∀ b u, H b = some u → b ≠ a := fun b u e z => by
    rw [z, n] at e
    cases e
  refine ⟨I.ok, I.os, I.bare, ⟨I.base.keep, I.base.slot, fun b o e0 h0 hx => ?_, I.base.there, fun b xs q => ?_, fun b o u q => ?_, fun b ps q => ?_⟩, I.loc, I.cell, ?_, fun x c ec => ?_, fun p hp => ?_, fun b u q => ?_, I.len⟩
  · rw [upd_ne (ne0 b o e0)]
    exact I.base.free b o e0 h0 hx
  · have q' := I.base.tups b xs q
    rw [upd_ne (neH b _ q')]
    exact q'
  · have q' := I.base.frzs b o u q
    rw [upd_ne (neH b _ q')]
    exact q'
  · obtain ⟨m, q'⟩ := I.base.tbls b ps q
    exact ⟨m, by rw [upd_ne (neH b _ q')]; exact q'⟩
  · rw [upd_ne (Ne.symm nL)]
    exact I.free
  · have hc : c ≠ a := fun h => by
      obtain ⟨v, o, ho, hv⟩ := I.cell x c ec
      rw [h, e] at ho
      cases ho
      rw [hd] at hv
      cases hv
    rw [upd_ne hc]
    exact I.freeC x c ec
  · obtain ⟨q1, q2, q3, q4, q5⟩ := I.pin p hp
    exact ⟨q1, by rw [upd_ne (np p hp)]; exact q2, q3, q4, q5⟩
  · by_cases hb : b = a
    · subst hb
      rw [upd_same] at q
      cases q
      exact ko_ok e z hd
    · rw [upd_ne hb] at q
      refine (I.hok b u q).stay (fun c v _ k => k) (fun c k => ?_) fun c xs k => ?_
      · rw [upd_ne (neH c _ k)]
        exact k
      · rw [upd_ne (neH c _ k)]
        exact k
end
/-- into the suite of a clause, and back -/
theorem Inv.toSu {X : Cx} {pins : List (Addr × Obj)} {sg : L2.St} {H : Hp} {s : Shared} (I : Inv X pins sg H s) (a : Addr) : Inv (X.suite a (X.pn ++ pins)) [] sg H s :=
  ⟨I.ok.suite _ _, I.os, I.bare, I.base, I.loc, I.cell, I.free, I.freeC, (fun p hp => I.pin p (by rw [List.append_nil] at hp; exact hp)), I.hok, I.len⟩
theorem Inv.ofSu {X : Cx} {pins pn' : List (Addr × Obj)} {sg : L2.St} {H : Hp} {s : Shared} {a : Addr} (I : Inv (X.suite a (X.pn ++ pins)) pn' sg H s) (ok : X.Ok) : Inv X pins sg H s :=
  ⟨ok, I.os, I.bare, I.base, I.loc, I.cell, I.free, I.freeC, (fun p hp => I.pin p (List.mem_append_left _ hp)), I.hok, I.len⟩
/-- the ends of a suite: its name is gone -/
def gone (i : Nat) (D : Ends) : Ends := { nx := fun g H => D.nx (g.set i none) H, rt := D.rt, bk := fun g H => D.bk (g.set i none) H, ct := fun g H => D.ct (g.set i none) H }
/-- except c as n: what is wished of an exception of the body -/
def wAsT (K : PySem.W.Frag) (c : Value) (i : Nat) (ts : TS) (Wo : WX) (D : Ends) : WX := fun cls d g H =>
  ∃ b, PySem.W.exmOne K cls c = some b ∧ (b = true → ∀ a, H a = none → ts (gone i D) (g.set i (some (.ref a))) (upd H a (KO cls d a))) ∧ (b = false → Wo cls d g H)
section
variable {X : Cx} {x n : Str} {c : Value} {i : Nat} {body suite : List Stmt} {b0 : Stmt} {np pos pos' : Pos} {tb : WX → TS} {ts : TS} {Wo : WX}
theorem ps_try_t (hs : X.stack = X.env :: X.outer) (hf : X.env.frame = some X.env.locals) (hex : X.ex = []) (hN : X.N.Nodup) (hi : X.N[i]? = some n) (hln : X.env.kindOf n = some .local) (hc : Names X x c) (tk : Takes X Wo)
    (hb : ∀ (W : WX) (pn : List (Addr × Obj)) (xe : Value → Shared → Prop), Takes (X.tr pn xe) W → PassesOwn (model X.prog X.w) X.A X.env xe → PSs (X.tr pn xe) body (tb W)) (hsu : ∀ (a : Addr) (pn : List (Addr × Obj)), PSs (X.suite a pn) (b0 :: suite) ts) :
    PS X (.Try body [.ExceptHandler (some (.Name x np)) (some n) (b0 :: suite) pos'] [] [] pos) (fun D g H => tb (wAsT X.K c i ts Wo D) D g H) := by
  refine ⟨fun pins s g H D I hh => ?_⟩
  have ok := I.ok
  have hfr : X.A.frames = some (X.env :: X.outer) := by rw [ok.frames, hs]
  refine wpAny_Try_except (wpAny_mono ((hb (wAsT X.K c i ts Wo D) (X.pn ++ pins) (fun e t1 => wpAny (model X.prog X.w) X.A (noteFrame e X.env) (fun _ t2 => wpAny (model X.prog X.w) X.A (setFlight e none) (fun _ t3 =>
    wpAny (model X.prog X.w) X.A (handleBy e X.env [.ExceptHandler (some (.Name x np)) (some n) (b0 :: suite) pos']) (SP X pins D) X.xe t3) X.xe t2) X.xe t1) (fun u s' xx => ?_) PassesOwn.looking).run [] s g H D (I.toTry _) hh) (fun fl s1 hsp => ?_) (fun e s1 he => he))
  · obtain ⟨a, B, sI, pins', g1, H1, cls, d, rfl, J', nb, up, sky, na, os, ag, b, hb1, hyes, hno⟩ := xx
    have J : Inv X pins g1 H1 sI := J'.ofTry ok
    have hB : B.get? a = none := by
      rcases sky with z | z | z
      · exact z.2.1
      · exact z.2.1
      · exact z.2.1
    have sky2 : Sky B (X.env :: X.outer) a (Zc cls d) X.env.locals s'.heap := by rw [← hs]; exact sky
    show wpAny _ _ (noteFrame (.ref a) X.env) _ _ _
    refine Sky.land Zc.steady hfr hf sky2 fun h3 fl3 up3 => ?_
    have J3 : Inv X pins g1 H1 { s' with heap := h3 } := J.landed nb fl3.1 (up.trans up3) os ag
    obtain ⟨oe3, vs3, he3, hz3, hd3⟩ := fl3.there
    have nfr : a ∉ frs (X.env :: X.outer) := fun hm => by
      obtain ⟨_, o', e', hnf⟩ := fl3.2.2.1.mem hm
      rw [he3] at e'
      cases e'
      exact hnf _ hd3
    have nL : a ≠ X.env.locals := fun z => nfr (List.mem_filterMap.mpr ⟨X.env, List.mem_cons_self, by rw [hf, z]⟩)
    have hI : sI.heap.get? a = none := by
      cases e : sI.heap.get? a with
      | none => rfl
      | some o =>
        have := nb a o e (by rw [hs]; exact nfr)
        rw [hB] at this
        cases this
    have n0 : X.s_0.heap.get? a = none := by
      cases e : X.s_0.heap.get? a with
      | none => rfl
      | some o =>
        obtain ⟨o', e'⟩ := J.base.there a o e (by rw [hex]; exact fun z => nomatch z)
        rw [hI] at e'
        cases e'
    have npin : ∀ p ∈ X.pn ++ pins, p.1 ≠ a := fun p hp z => by
      have := (J.pin p hp).1
      rw [z, hI] at this
      cases this
    refine wpAny_handleBy_cons (codeAny_handlers_test ?_) (by intro q; cases q)
    have LT : PySem.W.Looks (model X.prog X.w) h3 (typeOf (.ref a)) cls := fun A Q E s k q => wpAny_typeOf_ref (k _ _ he3) (by rw [hz3.1]; exact q)
    have LM := PySem.W.exm_one (M := model X.prog X.w) J3.kIn LT hb1
    have test : ∀ {Q E : Value → Shared → Prop}, Q c { s' with heap := h3 } → wpAny (model X.prog X.w) (X.A.mark (some (.ref a))) (eval (.Name x np) X.env) Q E { s' with heap := h3 } := fun {Q E} q => by
      obtain ⟨hg, hdbg, hm | ⟨hm, hv, hnn⟩⟩ := hc
      · exact ld_glob (X := X.suite a (X.pn ++ pins)) (F3.Inv.toSu J3 a) hg hm q hdbg
      · exact ld_blt (X := X.suite a (X.pn ++ pins)) (F3.Inv.toSu J3 a) hg hm hv q hnn hdbg
    refine test (LM.here ?_)
    cases b with
    | true =>
      refine codeAny_handlers_suite_as (HandSPX.lands_againZ fl3 fun h4 fl4 up4 => ?_)
      have J4 : Inv X pins g1 H1 { s' with heap := h4 } := J.landed nb fl4.1 ((up.trans up3).trans up4) os ag
      obtain ⟨oe4, vs4, he4, hz4, hd4⟩ := fl4.there
      have S4 := F3.Inv.toSu (F3.Inv.track J4 he4 hz4 hd4 na n0 nL npin) a
      refine store_ok (X := X.suite a (X.pn ++ pins)) (v := .ref a) S4 hN hi (Or.inl hln) rfl (fun s5 S5 => ?_) (.inr hln)
      refine wpAny_mono ((hsu a (X.pn ++ pins)).run [] s5 _ _ _ S5 (hyes rfl a na)) (fun fl s6 hsp => ?_) (fun _ _ z => z.elim)
      have fin : ∀ {g6 : L2.St} {H6 : Hp} {Q : Shared → Prop}, Inv (X.suite a (X.pn ++ pins)) [] g6 H6 s6 → (∀ s7, Inv X pins (g6.set i none) H6 s7 → Q s7) →
          wpAny (model X.prog X.w) X.A (do bindName X.env n .none; unbindBehindTheSuite X.env n pos') (fun _ s7 => Q s7) X.xe s6 := fun S6 hq => gone_ok (F3.Inv.ofSu S6 ok) hN hi hln hq
      cases fl with
      | next =>
        obtain ⟨g6, H6, S6, q6⟩ := hsp
        exact fin S6 fun s7 J7 => ⟨_, _, J7, q6⟩
      | brk =>
        obtain ⟨g6, H6, S6, q6⟩ := hsp
        exact fin S6 fun s7 J7 => ⟨_, _, J7, q6⟩
      | cont =>
        obtain ⟨g6, H6, S6, q6⟩ := hsp
        exact fin S6 fun s7 J7 => ⟨_, _, J7, q6⟩
      | ret u =>
        obtain ⟨v6, g6, H6, S6, r6, q6⟩ := hsp
        exact fin S6 fun s7 J7 => ⟨_, _, _, J7, r6, q6⟩
    | false =>
      show wpAny _ X.A (handleBy (.ref a) X.env []) _ _ _
      refine wpAny_handleBy_nil ?_
      obtain ⟨k1, k2, k3, oe, vs, T, oT, ts', he, hz, hd, h1, hr⟩ := id fl3
      unfold PySem.passOn
      refine wpAny_bind (wpAny_field he hd h1 ?_)
      rw [if_neg (show ¬ ((Value.ref T == Value.none) = true) from by simp)]
      have out : wpAny (model X.prog X.w) X.A (setFlight (.ref a) X.env.frame) (fun _ s4 => wpAny (model X.prog X.w) X.A (throw (.ref a) : Sem PySem.Flow) (SP X pins D) X.xe s4) X.xe { s' with heap := h3 } := by
        rw [hf]
        refine HandSPX.setFlight_upZ fl3 fun h4 hh4 up4 => wpAny_throw (tk _ _ ?_)
        exact ⟨a, B, sI, pins, g1, H1, cls, d, rfl, J, nb, (up.trans up3).trans up4, .inr (.inr (by rw [hs]; exact hh4)), na, os, ag, hno rfl⟩
      first
        | exact wpAny_bind (wpAny_pure (wpAny_bind out))
        | exact wpAny_bind out
  · cases fl with
    | next =>
      obtain ⟨g2, H2, J2, q⟩ := hsp
      exact wpAny_execs_nil ⟨g2, H2, J2.ofTry ok, q⟩
    | brk =>
      obtain ⟨g2, H2, J2, q⟩ := hsp
      exact ⟨g2, H2, J2.ofTry ok, q⟩
    | cont =>
      obtain ⟨g2, H2, J2, q⟩ := hsp
      exact ⟨g2, H2, J2.ofTry ok, q⟩
    | ret u =>
      obtain ⟨v, g2, H2, J2, r, q⟩ := hsp
      exact ⟨v, g2, H2, J2.ofTry ok, r, q⟩
end
/-! ### the code -/
def goneF (i : Nat) : Flow → Flow
  | .nx e s => .nx (e.set i none) s
  | .bk e s => .bk (e.set i none) s
  | .ct e s => .ct (e.set i none) s
  | .rt d s => .rt d s
  | .ex _ _ _ _ => .stuck
  | .stuck => .stuck
/-- which of the classes CS a clause takes -/
def clause (CS tb : List String) (c : String) : Option Bool := if c ∈ CS then some (decide (c ∈ tb)) else none
def onEx (CS tb : List String) (i : Nat) (u : Sm) (c : String) (fs : List (String × D)) (env : Env) (st : Store) : Flow := match clause CS tb c with
  | some true => goneF i (u (env.set i (some (.exc c fs))) st)
  | some false => .ex c fs env st
  | none => .stuck
def sTry (CS tb : List String) (i : Nat) (b u : Sm) : Sm := fun env st => match b env st with
  | .ex c fs e s => onEx CS tb i u c fs e s
  | .nx e s => .nx e s
  | .bk e s => .bk e s
  | .ct e s => .ct e s
  | .rt d s => .rt d s
  | .stuck => .stuck
/-- the classes' facts that a clause wants -/
def ClO (K : PySem.W.Frag) (cl : String → Addr) (c : Value) (CS tb : List String) : Prop := ∀ x b, clause CS tb x = some b → PySem.W.exmOne K (.ref (cl x)) c = some b
section
variable {X : Cx} {cl : String → Addr} {x n : Str} {c : Value} {i : Nat} {body suite : List Stmt} {b0 : Stmt} {np pos pos' : Pos} {Wo : WX} {bc uc : Sm} {CS tb : List String}
theorem excR_sh {K : PySem.W.Frag} {as : As} {H : Hp} {st : Store} {cls : Value} {d : Option Addr} {c : String} {fs : List (String × D)} {a : Addr} (r : Rel K cl as H st) (hn : H a = none) (h : ExcR K cl as H cls d c fs) : Sh K cl as (upd H a (KO cls d a)) (.ref a) (.exc c fs) := by
  obtain ⟨rfl, h⟩ := h
  rcases h with ⟨rfl, rfl⟩ | ⟨dd, fv, rfl, h1, h2, h3, h4⟩
  · exact .exc0 (r.fresh hn) upd_same
  · exact .exc1 (r.fresh hn) upd_same h1 (by rw [upd_ne (ne_of_none h2 hn)]; exact h2) h3 (h4.up (Le.new r hn))
theorem fs_try (hs : X.stack = X.env :: X.outer) (hf : X.env.frame = some X.env.locals) (hex : X.ex = []) (hN : X.N.Nodup) (hi : X.N[i]? = some n) (hln : X.env.kindOf n = some .local) (hc : Names X x c) (tk : Takes X Wo) (hM : ClO X.K cl c CS tb)
    (hb : ∀ (W : WX) (pn : List (Addr × Obj)) (xe : Value → Shared → Prop), Takes (X.tr pn xe) W → PassesOwn (model X.prog X.w) X.A X.env xe → FSs (X.tr pn xe) cl W body bc) (hsu : ∀ (a : Addr) (pn : List (Addr × Obj)), FSs (X.suite a pn) cl W0 (b0 :: suite) uc) :
    FS X cl Wo (.Try body [.ExceptHandler (some (.Name x np)) (some n) (b0 :: suite) pos'] [] [] pos) (sTry CS tb i bc uc) := PS.w (ps_try_t (tb := fun W => tS X.K cl W bc) (ts := tS X.K cl W0 uc) hs hf hex hN hi hln hc tk hb hsu) fun Dn sg H ⟨as, st, env, r0, er, q⟩ => by
  refine ⟨as, st, env, r0, er, ?_⟩
  unfold sTry at q
  cases e : bc env st with
  | nx e2 s2 => rw [e] at q; exact q
  | bk e2 s2 => rw [e] at q; exact q
  | ct e2 s2 => rw [e] at q; exact q
  | rt d s2 => rw [e] at q; exact q
  | stuck => rw [e] at q; exact q
  | ex c1 fs e2 s2 =>
    rw [e] at q
    intro as' H' sg' cls d l r er2 hx
    have q := Wf.up l q
    dsimp only [onEx] at q
    cases hm : clause CS tb c1 with
    | none => rw [hm] at q; exact q.elim
    | some b =>
      rw [hm] at q
      have hcls := hx.1
      refine ⟨b, by rw [hcls]; exact hM c1 b hm, fun hb a ha => ?_, fun hb => ?_⟩
      · subst hb
        dsimp only at q
        have lm : Le as' H' as' (upd H' a (KO cls d a)) := Le.new r ha
        refine ⟨as', s2, e2.set i (some (.exc c1 fs)), r.new ha, (er2.up lm).set i (excR_sh r ha hx), ?_⟩
        have q := Wf.up lm q
        cases e3 : uc (e2.set i (some (.exc c1 fs))) s2 with
        | nx e4 s4 => rw [e3] at q; exact fun as4 H4 sg4 l4 r4 er4 => q as4 H4 _ l4 r4 (er4.unset i none)
        | bk e4 s4 => rw [e3] at q; exact fun as4 H4 sg4 l4 r4 er4 => q as4 H4 _ l4 r4 (er4.unset i none)
        | ct e4 s4 => rw [e3] at q; exact fun as4 H4 sg4 l4 r4 er4 => q as4 H4 _ l4 r4 (er4.unset i none)
        | rt d4 s4 => rw [e3] at q; exact q
        | ex _ _ _ _ => rw [e3] at q; exact q.elim
        | stuck => rw [e3] at q; exact q.elim
      · subst hb
        exact q as' H' sg' cls d Le.refl r er2 hx
end
/-! ### raise X('..') -/
def sRaise0 (c : String) : Sm := fun env st => .ex c [] env st
/-- a class of ours without an own __init__, that can be raised -/
structure Exc0 (K : PySem.W.Frag) (mg : Str → Option Value) (cl : String → Addr) (x : String) : Prop where
  g : mg (Str.ofString x) = some (.ref (cl x))
  k : PySem.W.keepIn K (.ref (cl x)) = true
  s : PySem.W.subIn K (.ref (cl x)) (.type "BaseException") = some true
  t : PySem.W.typeIn K (.ref (cl x)) = some (.type "type")
  q : ∃ (bmB : List Value) (B newId initId : String), ExcBaseFacts B newId initId bmB ∧ PySem.W.excIn K (cl x) bmB newId = true
theorem fs_raise0 {X : Cx} {cl : String → Addr} {W : WX} {x : String} {m : Str} {j : Nat} {p p2 pos rpos : Pos} (hc : X.calm = true) (tk : Takes X W) (e : Exc0 X.K X.mg cl x) (hg : Gl X (Str.ofString x)) (hdb : (Str.ofString x == ("__debug__" : Str)) = false := by decide) :
    FS X cl W (.Raise (some (.Call (.Name (Str.ofString x) p) [.Constant (.str m) j p2] [] pos)) none rpos) (sRaise0 x) := by
  obtain ⟨bmB, B, newId, initId, F, q⟩ := e.q
  exact PS.w (ps_raise hc tk (pmk_own F q e.g e.k (raises_own e.s e.t) hg hdb)) fun Dn sg H ⟨as, st, env, r0, er, q⟩ => q as H sg _ none Le.refl r0 er ⟨rfl, .inl ⟨rfl, rfl⟩⟩

/-! ### isinstance of what may be an exception -/
def isxD (CS tb : List String) : O1 := fun x st => match x with
  | .exc c _ => (clause CS tb c).map fun b => (.bl b, st)
  | x => (tyD st x).map fun _ => (.bl false, st)
/-- what the classes say of the class cv -/
structure KitO (K : PySem.W.Frag) (cl : String → Addr) (cv : Value) (CS tb : List String) : Prop where
  own : ∀ x b, clause CS tb x = some b → PySem.W.kitOne K (.ref (cl x)) cv = some b ∧ ExcC K (cl x)
  blt : ∀ t : Ty, PySem.W.kitOne K (.type t.nm) cv = some false
section
variable {X : Cx} {cl : String → Addr} {W : WX} {K : PySem.W.Frag}
/-- isinstance(e, c) of a kept exception -/
def rIsX (K : PySem.W.Frag) : List V → Hp → VK → Prop := fun xs H Q => ∃ (a C : Addr) (d : Option Addr) (c : V) (cv : Value) (b : Bool), xs = [.ref a, c] ∧ ClsV c cv ∧ H a = some (KO (.ref C) d a) ∧ (∀ dd, d = some dd → ∃ fv, H dd = some (.xd fv)) ∧ ExcC K C ∧ PySem.W.kitOne K (.ref C) cv = some b ∧ Q (.bl b) H
theorem call_isX : CallR X (.builtin "isinstance") (rIsX X.K) := by
  intro pins s sg H xs us Q I r h
  obtain ⟨a, C, d, c, cv, b, rfl, hk, ha, hd, E, e, q⟩ := h
  obtain ⟨u1, u2, rfl, r1, r2⟩ := vals2 r
  have e2 := hk.eq r2
  subst e2
  cases (show u1 = Value.ref a from r1)
  obtain ⟨⟨oe, vs, ho, hz, hv⟩, -, -⟩ := (show ObjOk X.prog X.w H s.heap a (KO (.ref C) d a) from I.hok a _ ha)
  obtain ⟨oc, od, oda, osl⟩ := oe
  obtain ⟨h1, h2⟩ := hz
  dsimp only at h1 h2 hv
  subst h1 h2 hv
  have hcl : (PySem.W.clsIn X.K C).isSome = true := by
    obtain ⟨cd, hc, _⟩ := PySem.W.any_some E.hd
    rw [hc]
    rfl
  have J : ∃ oD, PySem.W.InstAt s.heap a ⟨.ref C, od, .fields vs, osl⟩ C oD := by
    cases od with
    | none => exact ⟨none, ho, rfl, rfl, trivial⟩
    | some dd =>
      obtain ⟨fv, hf⟩ := hd dd rfl
      obtain ⟨u, hu⟩ := objOk_get (I.hok dd _ hf)
      exact ⟨some u, ho, rfl, rfl, hu⟩
  obtain ⟨oD, J⟩ := J
  exact PySem.W.kia_one (PySem.W.kitx_exc hcl E.hg E.hk E.hs E.ha E.hn E.ht E.hm) I.kIn J e (fun z => nomatch z) fun tk => ⟨.bl b, H, I.kept (t' := tk) fun _ _ z => z, rfl, q⟩
def rIsiX (K : PySem.W.Frag) : List V → Hp → VK → Prop := fun xs H Q => rIsi K xs H Q ∨ rIsX K xs H Q
theorem call_isiX : CallR X (.builtin "isinstance") (rIsiX X.K) := fun pins s sg H xs us Q I r h => h.elim (call_isi pins s sg H xs us Q I r) (call_isX pins s sg H xs us Q I r)
theorem imp_isx {CS tb : List String} {f : Ex} {c : V} {cv : Value} (hk : ClsV c cv) (hM : KitO X.K cl cv CS tb) {Q : VK} {sg : L2.St} {H : Hp} (h : tF X.K cl W (eUn (isxD CS tb) f) sg H Q) : tF X.K cl W f sg H fun v H1 => rIsiX X.K [v, c] H1 Q := by
  obtain ⟨as, st, env, r0, er, q⟩ := h
  refine ⟨as, st, env, r0, er, Wt.bind q fun d s1 as1 H1 v _ l1 r1 x1 q1 => ?_⟩
  obtain ⟨y, s', e, af⟩ := ofO_aft q1
  by_cases hx : ∃ c1 fs, d = .exc c1 fs
  · obtain ⟨c1, fs, rfl⟩ := hx
    simp only [isxD] at e
    cases e1 : clause CS tb c1 with
    | none => rw [e1] at e; cases e
    | some b =>
      rw [e1] at e
      cases e
      obtain ⟨k1, k2⟩ := hM.own c1 b e1
      have fin := af as1 H1 _ Le.refl r1 (.bl b)
      cases x1 with
      | exc0 n h => exact .inr ⟨_, _, _, _, _, _, rfl, hk, h, (fun dd z => nomatch z), k2, k1, fin⟩
      | exc1 n h n2 h2 _ _ => exact .inr ⟨_, _, _, _, _, _, rfl, hk, h, (fun dd z => by cases z; exact ⟨_, h2⟩), k2, k1, fin⟩
  · have e : (tyD s1 d).map (fun _ => (D.bl false, s1)) = some (y, s') := by
      rw [← e]
      cases d with
      | exc c1 fs => exact absurd ⟨c1, fs, rfl⟩ hx
      | _ => rfl
    cases e1 : tyD s1 d with
    | none => rw [e1] at e; cases e
    | some t =>
      rw [e1] at e
      cases e
      exact .inl ⟨v, c, .type t.nm, cv, false, rfl, hk, sh_ty r1 e1 x1, hM.blt t, af as1 H1 _ Le.refl r1 (.bl false)⟩
/-- isinstance(e, C), C a class of ours -/
theorem fe_isx {e : Expr} {f : Ex} {CS tb : List String} {p p2 pos : Pos} {x2 : Str} {C : Addr} (hg : Gl X "isinstance") (hm : X.mg "isinstance" = none) (hg2 : Gl X x2) (hm2 : X.mg x2 = some (.ref C)) (hM : KitO X.K cl (.ref C) CS tb) (ha : FE X cl W e f) (hd2 : (x2 == ("__debug__" : Str)) = false := by decide)
    (hv : bootBuiltins "isinstance" = some (.builtin "isinstance") := by decide +kernel) (he : starEach [e, .Name x2 p2] X.env = (false, eval e X.env) :: starEach [.Name x2 p2] X.env := by rfl) (he2 : starEach [.Name x2 p2] X.env = (false, eval (.Name x2 p2) X.env) :: starEach [] X.env := by rfl) (hpl : (backTo pos (starEach [.Name x2 p2] X.env)).any (·.1) = false := by rfl) :
    FE X cl W (.Call (.Name "isinstance" p) [e, .Name x2 p2] [] pos) (eUn (isxD CS tb) f) :=
  PE.w (pe_callB call_isiX hg hm hv (pa_cons ha (pa_cons (pe_glob (v := .ref C) hg2 hm2 rfl hd2) pa_nil he2) he) (by decide) (by decide) he hpl) fun sg H Q q => imp_isx (.own C) hM q
/-- isinstance(e, T), T a built-in class of exceptions -/
theorem fe_isxb {e : Expr} {f : Ex} {CS tb : List String} {p p2 pos : Pos} {x2 : Str} {T : String} (hg : Gl X "isinstance") (hm : X.mg "isinstance" = none) (hg2 : Gl X x2) (hm2 : X.mg x2 = none) (hb : bootBuiltins x2 = some (.type T)) (hM : KitO X.K cl (.type T) CS tb) (ha : FE X cl W e f) (hn2 : x2 ≠ "__name__" := by decide) (hd2 : (x2 == ("__debug__" : Str)) = false := by decide)
    (hv : bootBuiltins "isinstance" = some (.builtin "isinstance") := by decide +kernel) (he : starEach [e, .Name x2 p2] X.env = (false, eval e X.env) :: starEach [.Name x2 p2] X.env := by rfl) (he2 : starEach [.Name x2 p2] X.env = (false, eval (.Name x2 p2) X.env) :: starEach [] X.env := by rfl) (hpl : (backTo pos (starEach [.Name x2 p2] X.env)).any (·.1) = false := by rfl) :
    FE X cl W (.Call (.Name "isinstance" p) [e, .Name x2 p2] [] pos) (eUn (isxD CS tb) f) :=
  PE.w (pe_callB call_isiX hg hm hv (pa_cons ha (pa_cons (pe_bltn (v := .ty T) hg2 hm2 hb rfl hn2 hd2) pa_nil he2) he) (by decide) (by decide) he hpl) fun sg H Q q => imp_isx (.ty T) hM q
end
end F3

/-! F3, part l: what the head tells of classes of exceptions. -/
namespace F3
open PySem PySem.Spec PyProof.Rows L2

def gaC (K : PySem.W.Frag) (x : String) : Addr := He.ga K (Str.ofString x)
def exc0B (K : PySem.W.Frag) (x : String) (bmB : List Value) (newId : String) : Bool := PySem.W.keepIn K (.ref (gaC K x)) && (PySem.W.subIn K (.ref (gaC K x)) (.type "BaseException") == some true) && (PySem.W.typeIn K (.ref (gaC K x)) == some (.type "type")) && PySem.W.excIn K (gaC K x) bmB newId
theorem exc0_of {K : PySem.W.Frag} {mg : Str → Option Value} {x : String} {bmB : List Value} {B newId initId : String} (F : ExcBaseFacts B newId initId bmB) (g : mg (Str.ofString x) = some (.ref (gaC K x))) (h : exc0B K x bmB newId = true) : Exc0 K mg (gaC K) x := by
  unfold exc0B at h
  simp only [Bool.and_eq_true, beq_iff_eq] at h
  exact ⟨g, h.1.1.1, h.1.1.2, h.1.2, bmB, B, newId, initId, F, h.2⟩
def excCB (K : PySem.W.Frag) (x : String) : Bool := (PySem.W.findIn K (.ref (gaC K x)) "__getattribute__" == some (some (.builtin "BaseException.__getattribute__"))) && (PySem.W.findIn K (.ref (gaC K x)) "__getattr__" == some none) && (PySem.W.subIn K (.ref (gaC K x)) (.type "BaseException") == some true) && PySem.W.hasDictIn K (gaC K x) &&
  (PySem.W.findIn K (.ref (gaC K x)) "__class__" == some (some (.builtin "object.__class__"))) && (PySem.W.specialIn K (.builtin "object.__class__") "__get__" == some (some (.builtin "getset_descriptor.__get__"))) && (PySem.W.takesIn K (.builtin "object.__class__") == some true) && (PySem.W.mroIn K (gaC K x) (.type "object") == some true)
theorem excC_of {K : PySem.W.Frag} {x : String} (h : excCB K x = true) : ExcC K (gaC K x) := by
  unfold excCB at h
  simp only [Bool.and_eq_true, beq_iff_eq] at h
  exact ⟨h.1.1.1.1.1.1.1, h.1.1.1.1.1.1.2, h.1.1.1.1.1.2, h.1.1.1.1.2, h.1.1.1.2, h.1.1.2, h.1.2, h.2⟩
def cloB (K : PySem.W.Frag) (c : Value) (CS tb : List String) : Bool := CS.all fun x => PySem.W.exmOne K (.ref (gaC K x)) c == some (decide (x ∈ tb))
theorem clause_in {CS tb : List String} {x : String} {b : Bool} (h : clause CS tb x = some b) : x ∈ CS ∧ b = decide (x ∈ tb) := by
  unfold clause at h
  split at h
  · rename_i hm
    exact ⟨hm, (Option.some.inj h).symm⟩
  · cases h
theorem clo_of {K : PySem.W.Frag} {c : Value} {CS tb : List String} (h : cloB K c CS tb = true) : ClO K (gaC K) c CS tb := fun x b e => by
  obtain ⟨hm, rfl⟩ := clause_in e
  exact beq_iff_eq.mp (List.all_eq_true.mp h x hm)
def allTy : List Ty := [.non, .bl, .int, .str, .tup, .lst, .dct]
def kitB2 (K : PySem.W.Frag) (cv : Value) (CS tb : List String) : Bool := (CS.all fun x => (PySem.W.kitOne K (.ref (gaC K x)) cv == some (decide (x ∈ tb))) && excCB K x) && allTy.all fun t => PySem.W.kitOne K (.type t.nm) cv == some false
theorem kit_of2 {K : PySem.W.Frag} {cv : Value} {CS tb : List String} (h : kitB2 K cv CS tb = true) : KitO K (gaC K) cv CS tb := by
  unfold kitB2 at h
  obtain ⟨h1, h2⟩ := Bool.and_eq_true_iff.mp h
  refine ⟨fun x b e => ?_, fun t => ?_⟩
  · obtain ⟨hm, rfl⟩ := clause_in e
    obtain ⟨h3, h4⟩ := Bool.and_eq_true_iff.mp (List.all_eq_true.mp h1 x hm)
    exact ⟨beq_iff_eq.mp h3, excC_of h4⟩
  · exact beq_iff_eq.mp (List.all_eq_true.mp h2 t (by cases t <;> decide))
end F3

/-! F3, part r: reckoning with code. -/
namespace F3
open PySem PySem.Spec PyProof.Rows L2

section
variable {A B : Type}
theorem bind_ok' (a : A) (s : Store) (k : A → Store → Res B) : (Res.ok a s).bind k = k a s := rfl
theorem bind_exn' (c : String) (fs : List (String × D)) (s : Store) (k : A → Store → Res B) : (Res.exn c fs s).bind k = .exn c fs s := rfl
theorem bindS_ok' (a : A) (s : Store) (k : A → Store → Res B) : (Res.ok a s).bindS k = k a s := rfl
end
theorem ofO_some (d : D) (s : Store) : ofO (some (d, s)) = .ok d s := rfl
theorem ofR_ok (d : D) (s : Store) (env : Env) (k : D → Store → Flow) : ofR (.ok d s) env k = k d s := rfl
theorem ofR_exn (c : String) (fs : List (String × D)) (s : Store) (env : Env) (k : D → Store → Flow) : ofR (.exn c fs s) env k = .ex c fs env s := rfl
theorem eVar_0 (d : D) (r : Env) (st : Store) : eVar 0 (some d :: r) st = .ok d st := rfl
theorem eVar_s (n : Nat) (o : Option D) (r : Env) (st : Store) : eVar (n + 1) (o :: r) st = eVar n r st := by
  unfold eVar
  rw [List.getElem?_cons_succ]
theorem onB_t (k1 k2 : Store → Res D) (s : Store) : onB k1 k2 (.bl true) s = k1 s := rfl
theorem onB_f (k1 k2 : Store → Res D) (s : Store) : onB k1 k2 (.bl false) s = k2 s := rfl
def ifF (d : D) (a b : Flow) : Flow := match d with
  | .bl true => a
  | .bl false => b
  | _ => .stuck
theorem ifF_t (a b : Flow) : ifF (.bl true) a b = a := rfl
theorem ifF_f (a b : Flow) : ifF (.bl false) a b = b := rfl
theorem sIf_eq (c : Ex) (a b : Sm) (env : Env) (st : Store) : sIf c a b env st = ofR (c env st) env fun d s => ifF d (a env s) (b env s) := by
  unfold sIf ifF
  rfl
def seqF (f : Flow) (b : Sm) : Flow := match f with
  | .nx e s => b e s
  | .rt d s => .rt d s
  | .bk e s => .bk e s
  | .ct e s => .ct e s
  | .ex c fs e s => .ex c fs e s
  | .stuck => .stuck
theorem seqF_nx (e : Env) (s : Store) (b : Sm) : seqF (.nx e s) b = b e s := rfl
theorem seqF_rt (d : D) (s : Store) (b : Sm) : seqF (.rt d s) b = .rt d s := rfl
theorem seqF_ex (c : String) (fs : List (String × D)) (e : Env) (s : Store) (b : Sm) : seqF (.ex c fs e s) b = .ex c fs e s := rfl
theorem seqF_bk (e : Env) (s : Store) (b : Sm) : seqF (.bk e s) b = .bk e s := rfl
theorem seqF_ct (e : Env) (s : Store) (b : Sm) : seqF (.ct e s) b = .ct e s := rfl
def fnF (f : Flow) : Res D := match f with
  | .rt d st' => .ok d st'
  | .nx _ st' => .ok .non st'
  | .ex c fs _ st' => .exn c fs st'
  | _ => .stuck
theorem fnF_rt (d : D) (s : Store) : fnF (.rt d s) = .ok d s := rfl
theorem fnF_nx (e : Env) (s : Store) : fnF (.nx e s) = .ok .non s := rfl
theorem fnF_ex (c : String) (fs : List (String × D)) (e : Env) (s : Store) : fnF (.ex c fs e s) = .exn c fs s := rfl
/-- the slots of the parameters -/
def soms (ds : List D) : Env := ds.map some
theorem fn_eq (m : Nat) (f : Sm) (ds : List D) (st : Store) : fn m f ds st = fnF (f (soms ds ++ List.replicate m none) st) := rfl
def asgF (o : Option (Env × Store)) : Flow := match o with
  | some p => .nx p.1 p.2
  | none => .stuck
theorem asgF_s (e : Env) (s : Store) : asgF (some (e, s)) = .nx e s := rfl
noncomputable def forF (r : Res Wlk) (env : Env) (g : Tgt) (b : Sm) : Flow := match r with
  | .ok r s => forG r g b r.2 env s
  | .exn c fs s => .ex c fs env s
  | .stuck => .stuck
theorem forF_ok (ds : List D) (s : Store) (env : Env) (g : Tgt) (b : Sm) : forF (.ok (none, ds) s) env g b = forL g b ds env s := forG_none ds env s
theorem forF_cell (k : Nat) (ds : List D) (s : Store) (env : Env) (g : Tgt) (b : Sm) : forF (.ok (some k, ds) s) env g b = forG (some k, ds) g b ds env s := rfl
def subF (fo : Res D) (fi : Store → Res D) (d : D) (env : Env) : Option (Env × Store) := match fo with
  | .ok x s1 => (match fi s1 with
    | .ok y s2 => (stD x y d s2).map fun s3 => (env, s3)
    | _ => none)
  | _ => none
def subF2 (x d : D) (env : Env) (r : Res D) : Option (Env × Store) := match r with
  | .ok y s2 => (stD x y d s2).map fun s3 => (env, s3)
  | _ => none
theorem subF_ok (x : D) (s1 : Store) (fi : Store → Res D) (d : D) (env : Env) : subF (.ok x s1) fi d env = subF2 x d env (fi s1) := rfl
theorem subF2_ok (x y d : D) (s2 : Store) (env : Env) : subF2 x d env (.ok y s2) = (stD x y d s2).map fun s3 => (env, s3) := rfl
theorem lstI_eq (ds : List D) (s : Store) : lstI (.lst ds) s = .ok (none, ds) s := rfl
theorem lstI_ref {k : Nat} {ds : List D} {s : Store} (h : s[k]? = some (.lst ds)) : lstI (.ref k) s = .ok (some k, ds) s := by
  unfold lstI
  simp only [h]
theorem tupI_eq (ds : List D) (s : Store) : tupI (.tup ds) s = .ok (none, ds) s := rfl
def osm (d : D) (s : Store) : Res (Option Int) := match d with
  | .int i => .ok (some i) s
  | _ => .stuck
theorem osm_eq (i : Int) (s : Store) : osm (.int i) s = .ok (some i) s := rfl
def slF (o : Option D) (s : Store) : Res D := match o with
  | some d => .ok d s
  | none => .stuck
theorem slF_eq (d : D) (s : Store) : slF (some d) s = .ok d s := rfl
/-- what each piece of code tells, in a form for simp -/
theorem evs :
    (∀ d env st, eC d env st = .ok d st) ∧ (∀ o f env st, eUn o f env st = (f env st).bind fun x s => ofO (o x s)) ∧
    (∀ o f g env st, eBin o f g env st = (f env st).bind fun x s1 => (g env s1).bind fun y s2 => ofO (o x y s2)) ∧
    (∀ c a b env st, eIf c a b env st = (c env st).bind (onB (a env) (b env))) ∧
    (∀ a b env st, eAnd a b env st = (a env st).bind (onB (b env) fun s => .ok (.bl false) s)) ∧
    (∀ a b env st, eOr a b env st = (a env st).bind (onB (fun s => .ok (.bl true) s) (b env))) ∧
    (∀ a env st, eNot a env st = (a env st).bind (onB (fun s => .ok (.bl false) s) fun s => .ok (.bl true) s)) ∧
    (∀ o o' f g h env st, eChain o o' f g h env st = (f env st).bind fun x s1 => (g env s1).bind fun y s2 => (ofO (o x y s2)).bind fun b s3 => onB (fun s => (h env s).bind fun z s4 => ofO (o' y z s4)) (fun s => .ok (.bl false) s) b s3) ∧
    (∀ fa env st, eLst fa env st = (fa env st).bind fun ds s => if ds.length ≤ 100000 then .ok (.lst ds) s else .stuck) ∧
    (∀ fa env st, eTup fa env st = (fa env st).bind fun ds s => if ds.length ≤ 100000 then .ok (.tup ds) s else .stuck) ∧
    (∀ fa env st, eCel fa env st = (fa env st).bind fun ds s => if ds.length ≤ 100000 then .ok (.ref s.length) (s ++ [.lst ds]) else .stuck) ∧
    (∀ o fa env st, eFn o fa env st = (fa env st).bind fun ds s => ofO (o ds s)) ∧
    (∀ T o f fa env st, eBm T o f fa env st = (f env st).bind fun x s => if bmTy s x = some T then (fa env s).bind fun ds s2 => ofO (o x ds s2) else .stuck) ∧
    (∀ m gD fa fk env st, eCall m gD fa fk env st = (fa env st).bind fun ds s1 => (fk env s1).bind fun es s2 => m (gD ds es) s2) ∧
    (∀ f l h env st, eSl f l h env st = (f env st).bind fun x s => (l env s).bind fun lo s2 => (h env s2).bind fun hi s3 => slF (slD x lo hi s3) s3) ∧
    (∀ env st, oNone env st = .ok none st) ∧ (∀ f env st, oSome f env st = (f env st).bind osm) ∧
    (∀ env st, aNil env st = .ok [] st) ∧ (∀ f g env st, aCons f g env st = (f env st).bind fun d s1 => (g env s1).bind fun ds s2 => .ok (d :: ds) s2) ∧
    (∀ env st, sNext env st = .nx env st) ∧ (∀ a b env st, sSeq a b env st = seqF (a env st) b) ∧
    (∀ f env st, sExpr f env st = ofR (f env st) env fun _ s => .nx env s) ∧ (∀ f env st, sRet f env st = ofR (f env st) env fun d s => .rt d s) ∧ (∀ env st, sRetN env st = .rt .non st) ∧
    (∀ i f env st, sSet i f env st = ofR (f env st) env fun d s => .nx (env.set i (some d)) s) ∧
    (∀ f g env st, sAsg f g env st = ofR (f env st) env fun d s => asgF (g d env s)) ∧
    (∀ i j f g env st, sPar i j f g env st = ofR (f env st) env fun d s => ofR (g env s) env fun d2 s2 => .nx ((env.set i (some d)).set j (some d2)) s2) ∧
    (∀ env st, sBk env st = .bk env st) ∧ (∀ env st, sCt env st = .ct env st) ∧
    (∀ it g b env st, sFor it g b env st = forF (it env st) env g b) ∧
    (∀ i d env st, tNm i d env st = some (env.set i (some d), st)) ∧ (∀ fo fi d env st, tSub fo fi d env st = subF (fo env st) (fi env) d env) ∧
    (∀ f env st, iLst f env st = (f env st).bind lstI) ∧ (∀ f env st, iTupl f env st = (f env st).bind tupI) ∧
    (∀ it g t e vs env st, eLc it g t e vs env st = (it env st).bind fun r s => (lcL r g t e vs env r.2 [] s).bind fun xs s2 => .ok (.lst xs) s2) ∧ (∀ env st, eYes env st = .ok (.bl true) st) :=
  ⟨fun _ _ _ => rfl, fun _ _ _ _ => rfl, fun _ _ _ _ _ => rfl, fun _ _ _ _ _ => rfl, fun _ _ _ _ => rfl, fun _ _ _ _ => rfl, fun _ _ _ => rfl, fun _ _ _ _ _ _ _ => rfl, fun _ _ _ => rfl, fun _ _ _ => rfl, fun _ _ _ => rfl, fun _ _ _ _ => rfl, fun _ _ _ _ _ _ => rfl, fun _ _ _ _ _ _ => rfl, fun _ _ _ _ _ => rfl,
    fun _ _ => rfl, fun _ _ _ => rfl, fun _ _ => rfl, fun _ _ _ _ => rfl, fun _ _ => rfl, fun _ _ _ _ => rfl, fun _ _ _ => rfl, fun _ _ _ => rfl, fun _ _ => rfl, fun _ _ _ _ => rfl, fun _ _ _ _ => rfl, fun _ _ _ _ _ _ => rfl, fun _ _ => rfl, fun _ _ => rfl, fun _ _ _ _ _ => rfl, fun _ _ _ _ => rfl, fun _ _ _ _ _ => rfl,
    fun _ _ _ => rfl, fun _ _ _ => rfl, fun _ _ _ _ _ _ _ => rfl, fun _ _ => rfl⟩
/-- ends that are known -/
theorem evk :
    (∀ {A B : Type} (a : A) (s : Store) (k : A → Store → Res B), (Res.ok a s).bind k = k a s) ∧ (∀ {A B : Type} (a : A) (s : Store) (k : A → Store → Res B), (Res.ok a s).bindS k = k a s) ∧ (∀ {A B : Type} (c : String) (fs : List (String × D)) (s : Store) (k : A → Store → Res B), (Res.exn c fs s).bind k = .exn c fs s) ∧
    (∀ d s, ofO (some (d, s)) = .ok d s) ∧ (∀ d s env k, ofR (.ok d s) env k = k d s) ∧ (∀ c fs s env k, ofR (.exn c fs s) env k = .ex c fs env s) ∧
    (∀ d r st, eVar 0 (some d :: r) st = .ok d st) ∧ (∀ n o r st, eVar (n + 1) (o :: r) st = eVar n r st) ∧
    (∀ k1 k2 s, onB k1 k2 (.bl true) s = k1 s) ∧ (∀ k1 k2 s, onB k1 k2 (.bl false) s = k2 s) ∧ (∀ a b, ifF (.bl true) a b = a) ∧ (∀ a b, ifF (.bl false) a b = b) ∧
    (∀ c a b env st, sIf c a b env st = ofR (c env st) env fun d s => ifF d (a env s) (b env s)) ∧
    (∀ e s b, seqF (.nx e s) b = b e s) ∧ (∀ d s b, seqF (.rt d s) b = .rt d s) ∧ (∀ c fs e s b, seqF (.ex c fs e s) b = .ex c fs e s) ∧ (∀ e s b, seqF (.bk e s) b = .bk e s) ∧ (∀ e s b, seqF (.ct e s) b = .ct e s) ∧
    (∀ d s, fnF (.rt d s) = .ok d s) ∧ (∀ e s, fnF (.nx e s) = .ok .non s) ∧ (∀ c fs e s, fnF (.ex c fs e s) = .exn c fs s) ∧ (∀ m f ds st, fn m f ds st = fnF (f (soms ds ++ List.replicate m none) st)) ∧
    (∀ e s, asgF (some (e, s)) = .nx e s) ∧ (∀ ds s env g b, forF (.ok (none, ds) s) env g b = forL g b ds env s) ∧
    (∀ x s1 fi d env, subF (.ok x s1) fi d env = subF2 x d env (fi s1)) ∧ (∀ x y d s2 env, subF2 x d env (.ok y s2) = (stD x y d s2).map fun s3 => (env, s3)) ∧
    (∀ ds s, lstI (.lst ds) s = .ok (none, ds) s) ∧ (∀ ds s, tupI (.tup ds) s = .ok (none, ds) s) ∧ (∀ i s, osm (.int i) s = .ok (some i) s) ∧ (∀ d s, slF (some d) s = .ok d s) :=
  ⟨fun _ _ _ => rfl, fun _ _ _ => rfl, fun _ _ _ _ => rfl, fun _ _ => rfl, fun _ _ _ _ => rfl, fun _ _ _ _ _ => rfl, fun _ _ _ => rfl, eVar_s, fun _ _ _ => rfl, fun _ _ _ => rfl, fun _ _ => rfl, fun _ _ => rfl, sIf_eq, fun _ _ _ => rfl, fun _ _ _ => rfl, fun _ _ _ _ _ => rfl, fun _ _ _ => rfl, fun _ _ _ => rfl,
    fun _ _ => rfl, fun _ _ => rfl, fun _ _ _ _ => rfl, fun _ _ _ _ => rfl, fun _ _ => rfl, fun ds s env _ _ => forG_none ds env s, fun _ _ _ _ _ => rfl, fun _ _ _ _ _ => rfl, fun _ _ => rfl, fun _ _ => rfl, fun _ _ => rfl, fun _ _ => rfl⟩
/-- lists and numbers that are written -/
theorem evl : (∀ {A : Type} (a b : A) (l : List A), (a :: l).set 0 b = b :: l) ∧ (∀ {A : Type} (a b : A) (n : Nat) (l : List A), (a :: l).set (n + 1) b = a :: l.set n b) ∧ (∀ (a : D) (l : List D), soms (a :: l) = some a :: soms l) ∧ (soms [] = []) ∧
    (∀ {A : Type} (a : A) (l m : List A), (a :: l) ++ m = a :: (l ++ m)) ∧ (∀ {A : Type} (l : List A), [] ++ l = l) ∧ (∀ {A : Type} (a : A) (n : Nat), List.replicate (n + 1) a = a :: List.replicate n a) ∧ (∀ {A : Type} (a : A), List.replicate 0 a = []) :=
  ⟨fun _ _ _ => rfl, fun _ _ _ _ => rfl, fun _ _ => rfl, rfl, fun _ _ _ => rfl, fun _ => rfl, fun _ _ => rfl, fun _ => rfl⟩
/-- operators on ints -/
theorem evo (i j : Int) (st : Store) : addD (.int i) (.int j) st = some (.int (i + j), st) ∧ subD (.int i) (.int j) st = some (.int (i - j), st) ∧ ltD (.int i) (.int j) st = some (.bl (decide (i < j)), st) ∧ leD (.int i) (.int j) st = some (.bl (decide (i ≤ j)), st) ∧
    gtD (.int i) (.int j) st = some (.bl (decide (j < i)), st) ∧ geD (.int i) (.int j) st = some (.bl (decide (j ≤ i)), st) ∧ eqD (.int i) (.int j) st = some (.bl (decide (i = j)), st) ∧ neD (.int i) (.int j) st = some (.bl (!decide (i = j)), st) ∧
    negD (.int i) st = some (.int (-i), st) ∧ absD [.int i] st = some (.int (if i < 0 then -i else i), st) ∧ intD [.int i] st = some (.int i, st) ∧ max2D [.int i, .int j] st = some (.int (if j > i then j else i), st) ∧ min2D [.int i, .int j] st = some (.int (if j < i then j else i), st) :=
  ⟨rfl, rfl, rfl, rfl, rfl, rfl, rfl, rfl, rfl, rfl, rfl, rfl, rfl⟩
theorem ev_mul {i j : Int} (st : Store) (h : mulOk i j) : mulD (.int i) (.int j) st = some (.int (i * j), st) := if_pos h
theorem ev_mod {i j : Int} (st : Store) (h : 0 < j) : modD (.int i) (.int j) st = some (.int (i % j), st) := if_pos h
theorem ev_div {i j : Int} (st : Store) (h : 0 < j) (h2 : j.natAbs.log2 < 9000) : fdivD (.int i) (.int j) st = some (.int (i / j), st) := if_pos ⟨h, h2⟩
theorem ev_pow {i j : Int} (st : Store) (h : 0 ≤ j ∧ j ≤ 1000000 ∧ i.natAbs < 2 ^ 64) : powD (.int i) (.int j) st = some (.int (i ^ j.toNat), st) := if_pos h
theorem ev_intb (b : Bool) (st : Store) : intD [.bl b] st = some (.int (if b then 1 else 0), st) := rfl
theorem mul_l {i j : Int} (h : -(2 ^ 64) < i) (h2 : i < 2 ^ 64) : mulOk i j := .inl ⟨h, h2⟩
theorem mul_r {i j : Int} (h : -(2 ^ 64) < j) (h2 : j < 2 ^ 64) : mulOk i j := .inr (.inl ⟨h, h2⟩)
theorem ev_ixT (ds : List D) (i : Int) (st : Store) : ixD (.tup ds) (.int i) st = (ixAt ds i).map fun d => (d, st) := rfl
theorem ev_ixL (ds : List D) (i : Int) (st : Store) : ixD (.lst ds) (.int i) st = (ixAt ds i).map fun d => (d, st) := rfl
theorem ev_ixR {k : Nat} {ds : List D} {st : Store} (h : st[k]? = some (.lst ds)) (i : Int) : ixD (.ref k) (.int i) st = (ixAt ds i).map fun d => (d, st) := by
  show ((listD st (.ref k)).bind fun ds => (ixAt ds i).map fun d => (d, st)) = _
  simp only [listD, h, Option.bind]
theorem ixAt_0 {A : Type} (a : A) (l : List A) : ixAt (a :: l) 0 = some a := rfl
theorem ixAt_lit {A : Type} (l : List A) (n : Nat) : ixAt l (n : Int) = l[n]? := by
  unfold ixAt
  rw [if_pos (by omega)]
  simp
theorem ixAt_nn {A : Type} (l : List A) {i : Int} (h : 0 ≤ i) : ixAt l i = l[i.toNat]? := if_pos h
theorem stD_ref {k : Nat} {ds : List D} {st : Store} {j : Int} {d : D} (h : st[k]? = some (.lst ds)) (h0 : 0 ≤ j) (h1 : j.toNat < ds.length) : stD (.ref k) (.int j) d st = some (st.set k (.lst (ds.set j.toNat d))) := by
  unfold stD
  simp only [h]
  exact if_pos ⟨h0, h1⟩

/-! ### loops -/
/-- a loop by what holds between its turns -/
theorem forL_inv {g : Tgt} {b : Sm} (I : Nat → Env → Store → Prop) : ∀ (ds : List D) (k : Nat) (env : Env) (st : Store), I k env st →
    (∀ (i : Nat) (d : D) (env : Env) (st : Store), ds[i]? = some d → I (k + i) env st → ∃ e1 s1 e2 s2, g d env st = some (e1, s1) ∧ (b e1 s1 = .nx e2 s2 ∨ b e1 s1 = .ct e2 s2) ∧ I (k + i + 1) e2 s2) →
    ∃ e s, forL g b ds env st = .nx e s ∧ I (k + ds.length) e s
  | [], k, env, st, h, _ => ⟨env, st, rfl, h⟩
  | d :: ds, k, env, st, h, step => by
    obtain ⟨e1, s1, e2, s2, hg, hb, hi⟩ := step 0 d env st rfl h
    obtain ⟨e, s, hf, hI⟩ := forL_inv I ds (k + 1) e2 s2 hi fun i d' env st hd hi => by
      have := step (i + 1) d' env st (by simpa using hd) (by rw [show k + (i + 1) = k + 1 + i by omega]; exact hi)
      rw [show k + 1 + i + 1 = k + (i + 1) + 1 by omega]
      exact this
    refine ⟨e, s, ?_, by rw [List.length_cons, show k + (ds.length + 1) = k + 1 + ds.length by omega]; exact hI⟩
    unfold forL
    rw [hg]
    rcases hb with hb | hb <;> · dsimp only; rw [hb]; exact hf
theorem for_inv {g : Tgt} {b : Sm} (I : Nat → Env → Store → Prop) {ds : List D} {env : Env} {st : Store} (h : I 0 env st)
    (step : ∀ (i : Nat) (d : D) (env : Env) (st : Store), ds[i]? = some d → I i env st → ∃ e1 s1 e2 s2, g d env st = some (e1, s1) ∧ (b e1 s1 = .nx e2 s2 ∨ b e1 s1 = .ct e2 s2) ∧ I (i + 1) e2 s2) :
    ∃ e s, forL g b ds env st = .nx e s ∧ I ds.length e s := by
  obtain ⟨e, s, h1, h2⟩ := forL_inv (g := g) (b := b) I ds 0 env st h fun i d env st hd hi => by
    rw [Nat.zero_add] at hi ⊢
    exact step i d env st hd hi
  rw [Nat.zero_add] at h2
  exact ⟨e, s, h1, h2⟩
/-- over a range -/
theorem intsD_get {lo : Int} {n i : Nat} {d : D} (h : (intsD lo n)[i]? = some d) : i < n ∧ d = .int (lo + i) := by
  have hi : i < n := by
    have := (List.getElem?_eq_some_iff.mp h).1
    simpa [intsD] using this
  refine ⟨hi, ?_⟩
  simp only [intsD] at h
  rw [List.getElem?_map, List.getElem?_range hi] at h
  exact (Option.some.inj h).symm
theorem intsD_len (lo : Int) (n : Nat) : (intsD lo n).length = n := by simp [intsD]
/-- a while by a measure -/
theorem while_inv {c : Ex} {b : Sm} (I : Env → Store → Prop) (Dn : Env → Store → Prop) (mu : Env → Store → Nat) {env : Env} {st : Store} (h : I env st)
    (step : ∀ (env : Env) (st : Store), I env st → (∃ s, c env st = .ok (.bl false) s ∧ Dn env s) ∨ ∃ s e2 s2, c env st = .ok (.bl true) s ∧ (b env s = .nx e2 s2 ∨ b env s = .ct e2 s2) ∧ I e2 s2 ∧ mu e2 s2 < mu env st) :
    ∃ e s, sWhile c b env st = .nx e s ∧ Dn e s := by
  have key : ∀ (n : Nat) (env : Env) (st : Store), mu env st < n → I env st → ∃ e s, wIter c b n env st = .nx e s ∧ Dn e s := by
    intro n
    induction n with
    | zero => intro env st h _; omega
    | succ n ih =>
      intro env st hm hi
      rcases step env st hi with ⟨s, hc, hd⟩ | ⟨s, e2, s2, hc, hb, hi2, hlt⟩
      · exact ⟨env, s, by unfold wIter; rw [hc]; rfl, hd⟩
      · obtain ⟨e, s', hw, hd⟩ := ih e2 s2 (by omega) hi2
        refine ⟨e, s', ?_, hd⟩
        unfold wIter
        rw [hc]
        dsimp only [ofR]
        rcases hb with hb | hb <;> · rw [hb]; exact hw
  obtain ⟨e, s, hw, hd⟩ := key (mu env st + 1) env st (by omega) h
  exact ⟨e, s, sWhile_of hw (by intro z; cases z), hd⟩
end F3

/-! F3, part s: more reckoning. -/
namespace F3
open PySem PySem.Spec PyProof.Rows L2

theorem cut_nat {A : Type} (xs : List A) (a b : Nat) : cutD xs (some (a : Int)) (some (b : Int)) = (xs.drop a).take (b - a) := by
  unfold cutD
  rw [HT.sIx_nat, HT.sIx_nat]
  by_cases h : a ≤ xs.length
  · rw [Nat.min_eq_left h]
    by_cases h2 : b ≤ xs.length
    · rw [Nat.min_eq_left h2]
    · rw [Nat.min_eq_right (by omega)]
      apply List.ext_getElem?
      intro i
      simp only [List.getElem?_take, List.getElem?_drop]
      by_cases h3 : i < xs.length - a
      · rw [if_pos h3, if_pos (by omega)]
      · rw [if_neg h3]
        split
        · exact (List.getElem?_eq_none (by omega)).symm
        · rfl
  · rw [Nat.min_eq_right (a := a) (b := xs.length) (by omega), List.drop_of_length_le (Nat.le_refl _), List.drop_of_length_le (l := xs) (i := a) (by omega)]
    simp
theorem cut_from {A : Type} (xs : List A) (a : Nat) : cutD xs (some (a : Int)) none = xs.drop a := by
  unfold cutD
  rw [HT.sIx_nat, HT.sIx_none]
  by_cases h : a ≤ xs.length
  · rw [Nat.min_eq_left h, List.take_of_length_le (by simp)]
  · rw [Nat.min_eq_right (a := a) (b := xs.length) (by omega), List.drop_of_length_le (Nat.le_refl _), List.drop_of_length_le (l := xs) (i := a) (by omega)]
    simp
theorem cut_to {A : Type} (xs : List A) (b : Nat) : cutD xs none (some (b : Int)) = xs.take b := by
  unfold cutD
  rw [HT.sIx_nat, HT.sIx_none, List.drop_zero, Nat.sub_zero]
  by_cases h : b ≤ xs.length
  · rw [Nat.min_eq_left h]
  · rw [Nat.min_eq_right (by omega), List.take_of_length_le (Nat.le_refl _), List.take_of_length_le (by omega)]
theorem ev_slL (ds : List D) (lo hi : Option Int) (st : Store) : slD (.lst ds) lo hi st = some (.lst (cutD ds lo hi)) := rfl
/-- the law's script, one cell of it -/
theorem cut_cell (ns : List Int) (k : Nat) : (ns.map D.int).drop k |>.take 1 |> fun l => l = (match ns[k]? with | some v => [.int v] | none => []) := by
  rw [← List.map_drop, ← List.map_take]
  cases hk : ns[k]? with
  | none =>
    rw [List.drop_of_length_le (List.getElem?_eq_none_iff.mp hk)]
    rfl
  | some v =>
    obtain ⟨hlt, hv⟩ := List.getElem?_eq_some_iff.mp hk
    rw [List.drop_eq_getElem_cons hlt, hv]
    rfl
theorem len_lt {A : Type} {l : List A} (n : Nat) (h : l.length ≤ n) (h2 : n ≤ 100000) : l.length ≤ 100000 := Nat.le_trans h h2
theorem mul_log {i j : Int} (h : i.natAbs < 2 ^ 400000) (h2 : j.natAbs < 2 ^ 400000) : mulOk i j := by
  refine .inr (.inr ?_)
  have a : ∀ n : Nat, n < 2 ^ 400000 → n.log2 < 400000 := fun n hn => by
    by_cases h0 : n = 0
    · subst h0
      show Nat.log2 0 < _
      rw [Nat.log2_zero]
      omega
    · exact (Nat.log2_lt h0).mpr hn
  have := a _ h
  have := a _ h2
  omega
theorem log_lt {n k : Nat} (hk : 0 < k) (h : n < 2 ^ k) : n.log2 < k := by
  by_cases h0 : n = 0
  · subst h0
    rw [Nat.log2_zero]
    exact hk
  · exact (Nat.log2_lt h0).mpr h
theorem rng1_ok {j : Int} (s : Store) (h : -(2 ^ 62) ≤ j ∧ j < 2 ^ 62) : rng1 [.int j] s = .ok (none, intsD 0 j.toNat) s := if_pos h
theorem rng2_ok {i j : Int} (s : Store) (h : -(2 ^ 62) ≤ i ∧ i < 2 ^ 62 ∧ -(2 ^ 62) ≤ j ∧ j < 2 ^ 62) : rng2 [.int i, .int j] s = .ok (none, intsD i (j - i).toNat) s := if_pos h
def fmt1 (d : D) (s : Store) : Res D := match d with
  | .str y => if y.length ≤ 100000 then .ok (.str y) s else .stuck
  | .int i => if i.natAbs.log2 < 1920 then .ok (.str (toString i)) s else .stuck
  | _ => .stuck
theorem fmt1_int {i : Int} (s : Store) (h : i.natAbs.log2 < 1920) : fmt1 (.int i) s = .ok (.str (toString i)) s := if_pos h
theorem fmt1_str {y : Str} (s : Store) (h : y.length ≤ 100000) : fmt1 (.str y) s = .ok (.str y) s := if_pos h
def join1 (r : List Ex) (acc : Str) (env : Env) (d : D) (s : Store) : Res D := match d with
  | .str y => if (acc ++ y).length ≤ 100000 then joinL r (acc ++ y) env s else .stuck
  | _ => .stuck
theorem join1_ok {r : List Ex} {acc y : Str} {env : Env} (s : Store) (h : (acc ++ y).length ≤ 100000) : join1 r acc env (.str y) s = joinL r (acc ++ y) env s := if_pos h
/-- ranges, texts -/
theorem evr : (∀ fa env st, iRange1 fa env st = (fa env st).bind rng1) ∧ (∀ fa env st, iRange2 fa env st = (fa env st).bind rng2) ∧ (∀ f env st, eFmt f env st = (f env st).bind fmt1) ∧
    (∀ ps env st, eJoin ps env st = joinL ps Str.empty env st) ∧ (∀ acc env st, joinL [] acc env st = .ok (.str acc) st) ∧ (∀ p r acc env st, joinL (p :: r) acc env st = (p env st).bind (join1 r acc env)) :=
  ⟨fun _ _ _ => rfl, fun _ _ _ => rfl, fun _ _ _ => rfl, fun _ _ _ => rfl, fun _ _ _ => rfl, fun _ _ _ _ _ => rfl⟩
/-- operators on one int -/
theorem evu (i : Int) (st : Store) : negD (.int i) st = some (.int (-i), st) ∧ absD [.int i] st = some (.int (if i < 0 then -i else i), st) ∧ intD [.int i] st = some (.int i, st) := ⟨rfl, rfl, rfl⟩
/-- lengths of what is written -/
theorem evn : ((([] : List D).length ≤ 100000) = True) ∧ (∀ a : D, (([a] : List D).length ≤ 100000) = True) ∧ (∀ a b : D, (([a, b] : List D).length ≤ 100000) = True) ∧ (∀ a b c : D, (([a, b, c] : List D).length ≤ 100000) = True) ∧ (∀ a b c d : D, (([a, b, c, d] : List D).length ≤ 100000) = True) ∧ (∀ a b c d e : D, (([a, b, c, d, e] : List D).length ≤ 100000) = True) ∧ (∀ a b c d e f : D, (([a, b, c, d, e, f] : List D).length ≤ 100000) = True) ∧ (∀ a b c d e f g : D, (([a, b, c, d, e, f, g] : List D).length ≤ 100000) = True) ∧ (∀ a b c d e f g h : D, (([a, b, c, d, e, f, g, h] : List D).length ≤ 100000) = True) ∧ (∀ a b c d e f g h i : D, (([a, b, c, d, e, f, g, h, i] : List D).length ≤ 100000) = True) ∧ (∀ a b c d e f g h i j : D, (([a, b, c, d, e, f, g, h, i, j] : List D).length ≤ 100000) = True) ∧ (∀ a b c d e f g h i j k : D, (([a, b, c, d, e, f, g, h, i, j, k] : List D).length ≤ 100000) = True) ∧ (∀ a b c d e f g h i j k l : D, (([a, b, c, d, e, f, g, h, i, j, k, l] : List D).length ≤ 100000) = True) :=
  ⟨eq_true (by show 0 ≤ 100000; omega), fun _ => eq_true (by show 1 ≤ 100000; omega), fun _ _ => eq_true (by show 2 ≤ 100000; omega), fun _ _ _ => eq_true (by show 3 ≤ 100000; omega), fun _ _ _ _ => eq_true (by show 4 ≤ 100000; omega), fun _ _ _ _ _ => eq_true (by show 5 ≤ 100000; omega), fun _ _ _ _ _ _ => eq_true (by show 6 ≤ 100000; omega), fun _ _ _ _ _ _ _ => eq_true (by show 7 ≤ 100000; omega), fun _ _ _ _ _ _ _ _ => eq_true (by show 8 ≤ 100000; omega), fun _ _ _ _ _ _ _ _ _ => eq_true (by show 9 ≤ 100000; omega), fun _ _ _ _ _ _ _ _ _ _ => eq_true (by show 10 ≤ 100000; omega), fun _ _ _ _ _ _ _ _ _ _ _ => eq_true (by show 11 ≤ 100000; omega), fun _ _ _ _ _ _ _ _ _ _ _ _ => eq_true (by show 12 ≤ 100000; omega)⟩
end F3

/-! F3, part t: reckoning with texts. -/
namespace F3
open PySem PySem.Spec PyProof.Rows L2

abbrev S (l : List Nat) : Str := ⟨l.toArray⟩
/-- the signs of an int -/
def intL (i : Int) : List Nat := (if i < 0 then [45] else []) ++ TL.numL i.natAbs
theorem str_int (i : Int) : Str.ofString (toString i) = S (intL i) := by
  unfold intL
  by_cases h : i < 0
  · rw [if_pos h]
    obtain ⟨n, rfl⟩ : ∃ n : Nat, i = -((n + 1 : Nat) : Int) := ⟨i.natAbs - 1, by omega⟩
    refine TL.ext_tl ?_
    have e : toString (-((n + 1 : Nat) : Int)) = "-" ++ toString ((n + 1 : Nat) : Int) := rfl
    rw [e, TL.tl_ofString, String.toList_append, List.map_append, ← TL.tl_ofString (toString ((n + 1 : Nat) : Int)), TL.tl_num, Int.natAbs_neg, Int.natAbs_natCast]
    rfl
  · rw [if_neg h]
    obtain ⟨n, rfl⟩ := Int.eq_ofNat_of_zero_le (Int.not_lt.mp h)
    exact TL.ext_tl (TL.tl_num n)
theorem S_len (a : List Nat) : (S a).length = a.length := SX.S_len a
theorem S_cat (a b : List Nat) : S a ++ S b = S (a ++ b) := SX.S_cat a b
theorem S_eq {a b : List Nat} : (S a = S b) ↔ a = b := ⟨SX.S_inj, fun h => h ▸ rfl⟩
theorem intL_inj {a b : Int} (h : intL a = intL b) : a = b := by
  unfold intL at h
  by_cases ha : a < 0
  · by_cases hb : b < 0
    · rw [if_pos ha, if_pos hb] at h
      have := TL.numL_inj (List.append_cancel_left h)
      omega
    · rw [if_pos ha, if_neg hb] at h
      have : 45 ∈ TL.numL b.natAbs := by
        have h' : 45 :: TL.numL a.natAbs = TL.numL b.natAbs := h
        rw [← h']
        exact List.mem_cons_self ..
      exact absurd this (TL.numL_free (by omega))
  · by_cases hb : b < 0
    · rw [if_neg ha, if_pos hb] at h
      have : 45 ∈ TL.numL a.natAbs := by
        have h' : TL.numL a.natAbs = 45 :: TL.numL b.natAbs := h
        rw [h']
        exact List.mem_cons_self ..
      exact absurd this (TL.numL_free (by omega))
    · rw [if_neg ha, if_neg hb] at h
      have := TL.numL_inj (show TL.numL a.natAbs = TL.numL b.natAbs from h)
      omega
theorem intL_free {i : Int} {c : Nat} (h : (c < 48 ∨ 57 < c) ∧ c ≠ 45) : c ∉ intL i := by
  unfold intL
  intro hm
  rcases List.mem_append.mp hm with hm | hm
  · split at hm
    · exact h.2 (List.mem_singleton.mp hm)
    · cases hm
  · exact TL.numL_free h.1 hm
theorem numL_len9 {n : Nat} (h : n < 2 ^ 1920) : (TL.numL n).length ≤ 600 := TL.numL_len (by omega) (Nat.lt_of_lt_of_le h (by decide +kernel))
theorem intL_len9 {i : Int} (h : i.natAbs < 2 ^ 1920) : (intL i).length ≤ 601 := by
  unfold intL
  have := numL_len9 h
  rw [List.length_append]
  split
  · simp only [List.length_cons, List.length_nil]
    omega
  · simp only [List.length_nil]
    omega
theorem intL_sign {i : Int} {c : Nat} (h : c ∈ intL i) : c < 58 := by
  unfold intL at h
  rcases List.mem_append.mp h with hm | hm
  · split at hm
    · rw [List.mem_singleton.mp hm]
      omega
    · cases hm
  · have := TL.numL_digits _ _ hm
    omega
theorem addS {a b : List Nat} (h : a.length + b.length ≤ 100000) (st : Store) : addD (.str (S a)) (.str (S b)) st = some (.str (S (a ++ b)), st) := by
  show (if (S a).length + (S b).length ≤ 100000 then some (D.str (S a ++ S b), st) else none) = _
  rw [S_len, S_len, if_pos h, S_cat]
theorem eqS (a b : List Nat) (st : Store) : eqD (.str (S a)) (.str (S b)) st = some (.bl (decide (a = b)), st) := by
  show (some (decide (S a = S b))).map (fun b => (D.bl b, st)) = _
  have : decide (S a = S b) = decide (a = b) := decide_eq_decide.mpr S_eq
  rw [this]
  rfl
theorem neS (a b : List Nat) (st : Store) : neD (.str (S a)) (.str (S b)) st = some (.bl (!decide (a = b)), st) := by
  show (some (decide (S a = S b))).map (fun b => (D.bl (!b), st)) = _
  have : decide (S a = S b) = decide (a = b) := decide_eq_decide.mpr S_eq
  rw [this]
  rfl
theorem neS_same (x : Str) (st : Store) : neD (.str x) (.str x) st = some (.bl false, st) := by
  show (some (decide (x = x))).map (fun b => (D.bl (!b), st)) = _
  rw [decide_eq_true rfl]
  rfl
theorem strI {i : Int} (h : i.natAbs < 2 ^ 1920) (st : Store) : strD [.int i] st = some (.str (S (intL i)), st) := by
  show (if i.natAbs.log2 < 1920 then some (D.str (Str.ofString (toString i)), st) else none) = _
  rw [if_pos (log_lt (by omega) h), str_int]
theorem fmt1I {i : Int} (s : Store) (h : i.natAbs < 2 ^ 1920) : fmt1 (.int i) s = .ok (.str (S (intL i))) s := by
  rw [fmt1_int s (log_lt (by omega) h)]
  show Res.ok (D.str (Str.ofString (toString i))) s = _
  rw [str_int]
theorem join1S {r : List Ex} {a b : List Nat} {env : F3.Env} (s : Store) (h : a.length + b.length ≤ 100000) : join1 r (S a) env (.str (S b)) s = joinL r (S (a ++ b)) env s := by
  rw [← S_cat]
  refine join1_ok s ?_
  rw [S_cat, S_len, List.length_append]
  exact h
theorem empS : Str.empty = S [] := rfl
/-- repr of a text -/
theorem reprS {a : List Nat} (h : a.length ≤ 9000) (hc : ∀ c ∈ a, c < 16 ^ 8) (st : Store) : reprD [.str (S a)] st = some (.str (reprText (S a)), st) := by
  have hl : (reprText (S a)).length ≤ 100000 := by
    have := StrLaws.reprText_len (S a) hc
    rw [S_len a] at this
    omega
  have hk : showOk (.str (S a)) = true := by
    unfold showOk
    have h1 : (PyData.str (S a)).showable = true := by simp only [PyData.showable]
    have h2 : (PyData.str (S a)).hasDict = false := by simp only [PyData.hasDict]
    have h3 : (PyData.str (S a)).depth ≤ 60 := by simp only [PyData.depth]; omega
    have h4 : (PyData.str (S a)).shown.length ≤ sizeLine := by
      simp only [PyData.shown]
      exact Nat.le_trans hl (by decide)
    rw [h1, h2, decide_eq_true h3, decide_eq_true h4]
    rfl
  show ((some (PyData.str (S a))).bind fun p => if showOk p = true then some (D.str p.shown, st) else none) = _
  simp only [Option.bind, hk, if_true, PyData.shown]
/-- one sign of a text -/
theorem ixS {a : List Nat} (h : a.length ≤ 100000) (i : Int) (st : Store) : ixD (.str (S a)) (.int i) st = (ixAt a i).map fun c => (.str (S [c]), st) := by
  show (if (S a).length ≤ 100000 then _ else _) = _
  rw [S_len, if_pos h]
/-- a loop over what is written -/
def goF (f : Flow) (k : Sm) : Flow := match f with
  | .nx e s2 => k e s2
  | .ct e s2 => k e s2
  | .bk e s2 => .nx e s2
  | .rt d s2 => .rt d s2
  | .ex c fs e s2 => .ex c fs e s2
  | .stuck => .stuck
def gotF (o : Option (F3.Env × Store)) (b k : Sm) : Flow := match o with
  | none => .stuck
  | some p => goF (b p.1 p.2) k
theorem evf : (∀ g b env st, forL g b [] env st = .nx env st) ∧ (∀ g b d r env st, forL g b (d :: r) env st = gotF (g d env st) b (forL g b r)) ∧ (∀ e s b k, gotF (some (e, s)) b k = goF (b e s) k) ∧
    (∀ e s k, goF (.nx e s) k = k e s) ∧ (∀ e s k, goF (.ct e s) k = k e s) ∧ (∀ e s k, goF (.bk e s) k = .nx e s) ∧ (∀ d s k, goF (.rt d s) k = .rt d s) ∧ (∀ c fs e s k, goF (.ex c fs e s) k = .ex c fs e s) :=
  ⟨fun _ _ _ _ => rfl, fun _ _ _ _ _ _ => rfl, fun _ _ _ _ => rfl, fun _ _ _ => rfl, fun _ _ _ => rfl, fun _ _ _ => rfl, fun _ _ _ => rfl, fun _ _ _ _ _ => rfl⟩
/-- == of pairs of ints -/
theorem eqP (a b c d : Int) (st : Store) : eqD (.tup [.int a, .int b]) (.tup [.int c, .int d]) st = some (.bl (decide (a = c) && decide (b = d)), st) := by
  have h : ∀ a b : Int, pyD st (.tup [.int a, .int b]) = some (.tuple [.int a, .int b]) := fun _ _ => rfl
  show (((pyD st (.tup [.int a, .int b])).bind fun p => (pyD st (.tup [.int c, .int d])).bind fun q => if SeqAt.shaped p = true ∧ SeqAt.shaped q = true then some (PyData.eqv p q) else none).map fun b => (D.bl b, st)) = _
  rw [h, h]
  have hs : ∀ a b : Int, SeqAt.shaped (.tuple [.int a, .int b]) = true := fun _ _ => by rfl
  simp only [Option.bind, hs, and_self, if_true, Option.map_some]
  have he : PyData.eqv (.tuple [.int a, .int b]) (.tuple [.int c, .int d]) = (decide (a = c) && decide (b = d)) := by
    simp only [PyData.eqv, PyData.eqvAll, Bool.and_true]
    rfl
  rw [he]
end F3

/-! F3, part u: reckoning with shares (rational numbers), equal data, walks. -/
namespace F3
open PySem PySem.Spec PyProof.Rows L2

/-! ### equal data -/
theorem eqB_same {d : D} {st : Store} {p : PyData} (h : pyD st d = some p) (hs : SeqAt.shaped p = true) : eqB d d st = some true := by
  have key : (pyD st d).bind (fun p => (pyD st d).bind fun q => if SeqAt.shaped p = true ∧ SeqAt.shaped q = true then some (PyData.eqv p q) else none) = some true := by
    rw [h]
    simp only [Option.bind, hs, and_self, if_true]
    rw [SeqAt.eqv_refl p (SeqAt.canLay_of_shaped hs)]
  unfold eqB
  split
  · simp
  · simp
  · simp
  · exact key
theorem eqD_same {d : D} {st : Store} {p : PyData} (h : pyD st d = some p) (hs : SeqAt.shaped p = true) : eqD d d st = some (.bl true, st) := by
  unfold eqD
  rw [eqB_same h hs]
  rfl
theorem neD_same {d : D} {st : Store} {p : PyData} (h : pyD st d = some p) (hs : SeqAt.shaped p = true) : neD d d st = some (.bl false, st) := by
  unfold neD
  rw [eqB_same h hs]
  rfl
theorem eqBl (a b : Bool) (st : Store) : eqD (.bl a) (.bl b) st = some (.bl (decide (a = b)), st) := rfl
theorem neBl (a b : Bool) (st : Store) : neD (.bl a) (.bl b) st = some (.bl (!decide (a = b)), st) := rfl
theorem neBl_same (a : Bool) (st : Store) : neD (.bl a) (.bl a) st = some (.bl false, st) := by
  rw [neBl, decide_eq_true rfl]
  rfl
theorem neP (a b c d : Int) (st : Store) : neD (.tup [.int a, .int b]) (.tup [.int c, .int d]) st = some (.bl (!(decide (a = c) && decide (b = d))), st) := by
  have h := eqP a b c d st
  unfold eqD at h
  unfold neD
  cases e : eqB (.tup [.int a, .int b]) (.tup [.int c, .int d]) st with
  | none => rw [e] at h; cases h
  | some x =>
    rw [e] at h
    have : x = (decide (a = c) && decide (b = d)) := by
      have h2 := congrArg (fun o : Option (D × Store) => o.map (·.1)) h
      simpa using h2
    rw [this]
    rfl

/-! ### shares -/
def shD (x : Rat) : D := .tup [.int x.num, .int x.den]
theorem shD_inj {x y : Rat} (h1 : x.num = y.num) (h2 : (x.den : Int) = y.den) : x = y := Rat.ext h1 (by omega)
theorem eqSh (x y : Rat) (st : Store) : eqD (shD x) (shD y) st = some (.bl (decide (x = y)), st) := by
  show eqD (.tup [.int x.num, .int x.den]) (.tup [.int y.num, .int y.den]) st = _
  rw [eqP]
  have : (decide (x.num = y.num) && decide ((x.den : Int) = y.den)) = decide (x = y) := by
    by_cases h : x = y
    · subst h
      simp
    · rw [decide_eq_false h]
      by_cases h1 : x.num = y.num
      · have h2 : ¬ (x.den : Int) = y.den := fun h2 => h (shD_inj h1 h2)
        simp [h2]
      · simp [h1]
  rw [this]
theorem neSh (x y : Rat) (st : Store) : neD (shD x) (shD y) st = some (.bl (!decide (x = y)), st) := by
  have h := eqSh x y st
  unfold eqD at h
  unfold neD
  cases e : eqB (shD x) (shD y) st with
  | none => rw [e] at h; cases h
  | some b =>
    rw [e] at h
    have : b = decide (x = y) := by
      have h2 := congrArg (fun o : Option (D × Store) => o.map (·.1)) h
      simpa using h2
    rw [this]
    rfl
theorem shD_0 (x : Rat) (st : Store) : ixD (shD x) (.int 0) st = some (.int x.num, st) := rfl
theorem shD_1 (x : Rat) (st : Store) : ixD (shD x) (.int 1) st = some (.int x.den, st) := rfl
theorem shD_00 : D.tup [.int 0, .int 1] = shD 0 := rfl
theorem shD_11 : D.tup [.int 1, .int 1] = shD 1 := rfl
/-- sizes -/
structure Sz (n : Nat) (x : Rat) : Prop where
  nu : x.num.natAbs < 2 ^ n
  de : x.den < 2 ^ n
theorem Sz.mono {n m : Nat} {x : Rat} (h : Sz n x) (hm : n ≤ m) : Sz m x :=
  ⟨Nat.lt_of_lt_of_le h.nu (Nat.pow_le_pow_right (by omega) hm), Nat.lt_of_lt_of_le h.de (Nat.pow_le_pow_right (by omega) hm)⟩
theorem lt_mul {a b n m : Nat} (h1 : a < 2 ^ n) (h2 : b < 2 ^ m) : a * b < 2 ^ (n + m) := by
  rw [Nat.pow_add]
  exact Nat.mul_lt_mul'' h1 h2
theorem lt_dbl {a b n : Nat} (h1 : a < 2 ^ n) (h2 : b < 2 ^ n) : a + b < 2 ^ (n + 1) := by
  rw [Nat.pow_succ]
  omega
/-- a fraction in lowest terms is no greater -/
theorem divInt_le {a b : Int} (hb : b ≠ 0) : (Rat.divInt a b).num.natAbs ≤ a.natAbs ∧ (Rat.divInt a b).den ≤ b.natAbs := by
  have h := Rat.num_divInt_den (Rat.divInt a b)
  have hd : ((Rat.divInt a b).den : Int) ≠ 0 := by
    have := (Rat.divInt a b).den_nz
    omega
  have e := (Rat.divInt_eq_divInt_iff hd hb).mp h
  have red := (Rat.divInt a b).reduced
  generalize (Rat.divInt a b).num = p at e red ⊢
  generalize (Rat.divInt a b).den = q at e red hd ⊢
  have e2 : p.natAbs * b.natAbs = a.natAbs * q := by
    have := congrArg Int.natAbs e
    rwa [Int.natAbs_mul, Int.natAbs_mul, Int.natAbs_natCast] at this
  have d1 : q ∣ b.natAbs := by
    have : q ∣ p.natAbs * b.natAbs := ⟨a.natAbs, by rw [e2, Nat.mul_comm]⟩
    exact Nat.Coprime.dvd_of_dvd_mul_left (Nat.Coprime.symm red) this
  obtain ⟨k, hk⟩ := d1
  have hb0 : 0 < b.natAbs := by omega
  have hk0 : 0 < k := Nat.pos_of_ne_zero fun h => by rw [h, Nat.mul_zero] at hk; omega
  have hq0 : 0 < q := by omega
  have ha : a.natAbs = p.natAbs * k := by
    have : a.natAbs * q = (p.natAbs * k) * q := by rw [← e2, hk, Nat.mul_assoc, Nat.mul_comm q k]
    exact Nat.eq_of_mul_eq_mul_right hq0 this
  refine ⟨?_, ?_⟩
  · rw [ha]
    exact Nat.le_mul_of_pos_right _ hk0
  · rw [hk]
    exact Nat.le_mul_of_pos_right _ hk0
theorem Sz.of_divInt {a b : Int} {n : Nat} (hb : b ≠ 0) (h1 : a.natAbs < 2 ^ n) (h2 : b.natAbs < 2 ^ n) : Sz n (Rat.divInt a b) :=
  ⟨Nat.lt_of_le_of_lt (divInt_le hb).1 h1, Nat.lt_of_le_of_lt (divInt_le hb).2 h2⟩
theorem den_ne (x : Rat) : ((x.den : Nat) : Int) ≠ 0 := by
  have := x.den_nz
  omega
theorem add_divInt (x y : Rat) : Rat.divInt (x.num * y.den + y.num * x.den) (x.den * y.den) = x + y := by
  conv => rhs; rw [← Rat.num_divInt_den x, ← Rat.num_divInt_den y]
  rw [Rat.divInt_add_divInt _ _ (den_ne x) (den_ne y)]
theorem sub_divInt (x y : Rat) : Rat.divInt (x.num * y.den - y.num * x.den) (x.den * y.den) = x - y := by
  conv => rhs; rw [← Rat.num_divInt_den x, ← Rat.num_divInt_den y]
  rw [Rat.divInt_sub_divInt _ _ (den_ne x) (den_ne y)]
theorem mul_divInt (x y : Rat) : Rat.divInt (x.num * y.num) (x.den * y.den) = x * y := by
  conv => rhs; rw [← Rat.num_divInt_den x, ← Rat.num_divInt_den y]
  rw [Rat.divInt_mul_divInt]
theorem div_divInt (x y : Rat) : Rat.divInt (x.num * y.den) (x.den * y.num) = x / y := by
  conv => rhs; rw [← Rat.num_divInt_den x, ← Rat.num_divInt_den y]
  rw [Rat.div_def, Rat.inv_divInt, Rat.divInt_mul_divInt]
theorem num_ne {y : Rat} (h : y ≠ 0) : y.num ≠ 0 := fun e => h (Rat.num_eq_zero.mp e)
theorem n2 {a b n m : Nat} (x : Int) (hx : x.natAbs = a) (ha : a < 2 ^ n) (h : n ≤ m) : x.natAbs < 2 ^ m := by
  rw [hx]
  exact Nat.lt_of_lt_of_le ha (Nat.pow_le_pow_right (by omega) h)
theorem abs_mul_lt {x y : Int} {n m : Nat} (h1 : x.natAbs < 2 ^ n) (h2 : y.natAbs < 2 ^ m) : (x * y).natAbs < 2 ^ (n + m) := by
  rw [Int.natAbs_mul]
  exact lt_mul h1 h2
theorem abs_add_lt {x y : Int} {n : Nat} (h1 : x.natAbs < 2 ^ n) (h2 : y.natAbs < 2 ^ n) : (x + y).natAbs < 2 ^ (n + 1) :=
  Nat.lt_of_le_of_lt (Int.natAbs_add_le x y) (lt_dbl h1 h2)
theorem abs_sub_lt {x y : Int} {n : Nat} (h1 : x.natAbs < 2 ^ n) (h2 : y.natAbs < 2 ^ n) : (x - y).natAbs < 2 ^ (n + 1) := by
  have : x - y = x + -y := rfl
  rw [this]
  exact abs_add_lt h1 (by rw [Int.natAbs_neg]; exact h2)
theorem Sz.den {n : Nat} {x : Rat} (h : Sz n x) : ((x.den : Nat) : Int).natAbs < 2 ^ n := by
  rw [Int.natAbs_natCast]
  exact h.de
theorem up_pow {a n m : Nat} (h : a < 2 ^ n) (hm : n ≤ m) : a < 2 ^ m := Nat.lt_of_lt_of_le h (Nat.pow_le_pow_right (by omega) hm)
theorem Sz.add {n m : Nat} {x y : Rat} (hx : Sz n x) (hy : Sz m y) : Sz (n + m + 1) (x + y) := by
  rw [← add_divInt]
  refine Sz.of_divInt (Int.mul_ne_zero (den_ne x) (den_ne y)) (abs_add_lt (abs_mul_lt hx.nu hy.den) ?_) (up_pow (abs_mul_lt hx.den hy.den) (by omega))
  rw [Nat.add_comm n m]
  exact abs_mul_lt hy.nu hx.den
theorem Sz.sub {n m : Nat} {x y : Rat} (hx : Sz n x) (hy : Sz m y) : Sz (n + m + 1) (x - y) := by
  rw [← sub_divInt]
  refine Sz.of_divInt (Int.mul_ne_zero (den_ne x) (den_ne y)) (abs_sub_lt (abs_mul_lt hx.nu hy.den) ?_) (up_pow (abs_mul_lt hx.den hy.den) (by omega))
  rw [Nat.add_comm n m]
  exact abs_mul_lt hy.nu hx.den
theorem Sz.mul {n m : Nat} {x y : Rat} (hx : Sz n x) (hy : Sz m y) : Sz (n + m) (x * y) := by
  rw [← mul_divInt]
  exact Sz.of_divInt (Int.mul_ne_zero (den_ne x) (den_ne y)) (abs_mul_lt hx.nu hy.nu) (abs_mul_lt hx.den hy.den)
theorem Sz.div {n m : Nat} {x y : Rat} (hx : Sz n x) (hy : Sz m y) (h0 : y ≠ 0) : Sz (n + m) (x / y) := by
  rw [← div_divInt]
  exact Sz.of_divInt (Int.mul_ne_zero (den_ne x) (num_ne h0)) (abs_mul_lt hx.nu hy.den) (abs_mul_lt hx.den hy.nu)
theorem Sz.zero : Sz 1 0 := ⟨by decide, by decide⟩
theorem Sz.one : Sz 1 1 := ⟨by decide, by decide⟩
/-- what lowest tells, as a share -/
theorem low_rat {a b p q : Int} (hb : b ≠ 0) (q0 : 0 < q) (hg : Int.gcd p q = 1) (h : p * b = a * q) : D.tup [.int p, .int q] = shD (Rat.divInt a b) := by
  have hq : q.toNat ≠ 0 := by omega
  have hqq : ((q.toNat : Nat) : Int) = q := by omega
  have hc : p.natAbs.Coprime q.toNat := by
    have : q.natAbs = q.toNat := by omega
    rw [← this]
    exact hg
  have e : Rat.divInt a b = ⟨p, q.toNat, hq, hc⟩ := by
    rw [← Rat.num_divInt_den (⟨p, q.toNat, hq, hc⟩ : Rat)]
    refine (Rat.divInt_eq_divInt_iff hb (by show ((q.toNat : Nat) : Int) ≠ 0; omega)).mpr ?_
    show a * ((q.toNat : Nat) : Int) = p * b
    rw [hqq, h]
  rw [e]
  unfold shD
  show D.tup [.int p, .int q] = .tup [.int p, .int ((q.toNat : Nat) : Int)]
  rw [hqq]

/-! ### walks of what stays -/
theorem forG_inv {w : Wlk} {g : Tgt} {b : Sm} (I : Nat → F3.Env → Store → Prop) (hg : ∀ i e s, I i e s → Gd w s) : ∀ (ds : List D) (k : Nat) (env : F3.Env) (st : Store), I k env st →
    (∀ (i : Nat) (d : D) (env : F3.Env) (st : Store), ds[i]? = some d → I (k + i) env st → ∃ e1 s1 e2 s2, g d env st = some (e1, s1) ∧ (b e1 s1 = .nx e2 s2 ∨ b e1 s1 = .ct e2 s2) ∧ I (k + i + 1) e2 s2) →
    ∃ e s, forG w g b ds env st = .nx e s ∧ I (k + ds.length) e s
  | [], k, env, st, h, _ => ⟨env, st, if_pos (hg _ _ _ h), h⟩
  | d :: ds, k, env, st, h, step => by
    obtain ⟨e1, s1, e2, s2, h1, hb, hi⟩ := step 0 d env st rfl h
    obtain ⟨e, s, hf, hI⟩ := forG_inv I hg ds (k + 1) e2 s2 hi fun i d' env st hd hi => by
      have := step (i + 1) d' env st (by simpa using hd) (by rw [show k + (i + 1) = k + 1 + i by omega]; exact hi)
      rw [show k + 1 + i + 1 = k + (i + 1) + 1 by omega]
      exact this
    refine ⟨e, s, ?_, by rw [List.length_cons, show k + (ds.length + 1) = k + 1 + ds.length by omega]; exact hI⟩
    unfold forG
    rw [if_pos (hg _ _ _ h), h1]
    rcases hb with hb | hb <;> · dsimp only; rw [hb]; exact hf
theorem forW_inv {w : Wlk} {g : Tgt} {b : Sm} (I : Nat → F3.Env → Store → Prop) {ds : List D} {env : F3.Env} {st : Store} (hg : ∀ i e s, I i e s → Gd w s) (h : I 0 env st)
    (step : ∀ (i : Nat) (d : D) (env : F3.Env) (st : Store), ds[i]? = some d → I i env st → ∃ e1 s1 e2 s2, g d env st = some (e1, s1) ∧ (b e1 s1 = .nx e2 s2 ∨ b e1 s1 = .ct e2 s2) ∧ I (i + 1) e2 s2) :
    ∃ e s, forG w g b ds env st = .nx e s ∧ I ds.length e s := by
  obtain ⟨e, s, h1, h2⟩ := forG_inv (g := g) (b := b) I hg ds 0 env st h fun i d env st hd hi => by
    rw [Nat.zero_add] at hi ⊢
    exact step i d env st hd hi
  rw [Nat.zero_add] at h2
  exact ⟨e, s, h1, h2⟩
theorem forF_all (w : Wlk) (s : Store) (env : F3.Env) (g : Tgt) (b : Sm) : forF (.ok w s) env g b = forG w g b w.2 env s := rfl
/-- a comprehension by what holds between its turns: of what is kept so far too -/
theorem lcL_inv {w : Wlk} {g : Tgt} {t e : Ex} {vs : List Nat} {env : F3.Env} (I : Nat → List D → Store → Prop) (hg : ∀ i a s, I i a s → Gd w s) : ∀ (ds acc : List D) (k : Nat) (st : Store), I k acc st →
    (∀ (i : Nat) (d : D) (acc : List D) (st : Store), ds[i]? = some d → I (k + i) acc st → ∃ e1 s1, g d (wipeE env vs) st = some (e1, s1) ∧ ((∃ s2, t e1 s1 = .ok (.bl false) s2 ∧ I (k + i + 1) acc s2) ∨ ∃ s2 y s3, t e1 s1 = .ok (.bl true) s2 ∧ e e1 s2 = .ok y s3 ∧ I (k + i + 1) (acc ++ [y]) s3)) →
    acc.length + ds.length ≤ 100000 → ∃ xs s, lcL w g t e vs env ds acc st = .ok xs s ∧ I (k + ds.length) xs s
  | [], acc, k, st, h, _, _ => ⟨acc, st, by unfold lcL; rw [if_pos (hg _ _ _ h)], h⟩
  | d :: ds, acc, k, st, h, step, hl => by
    obtain ⟨e1, s1, h1, hb⟩ := step 0 d acc st rfl h
    rw [List.length_cons] at hl
    have nx : ∀ (acc2 : List D) (s2 : Store), I (k + 1) acc2 s2 → acc2.length + ds.length ≤ 100000 → ∃ xs s, lcL w g t e vs env ds acc2 s2 = .ok xs s ∧ I (k + (d :: ds).length) xs s := fun acc2 s2 hi hl2 => by
      obtain ⟨xs, s, hf, hI⟩ := lcL_inv (env := env) I hg ds acc2 (k + 1) s2 hi (fun i d' acc st hd hi => by
        have := step (i + 1) d' acc st (by simpa using hd) (by rw [show k + (i + 1) = k + 1 + i by omega]; exact hi)
        rw [show k + 1 + i + 1 = k + (i + 1) + 1 by omega]
        exact this) hl2
      exact ⟨xs, s, hf, by rw [List.length_cons, show k + (ds.length + 1) = k + 1 + ds.length by omega]; exact hI⟩
    rcases hb with ⟨s2, ht, hI⟩ | ⟨s2, y, s3, ht, he, hI⟩
    · obtain ⟨xs, s, hf, hI2⟩ := nx acc s2 hI (by omega)
      refine ⟨xs, s, ?_, hI2⟩
      unfold lcL
      rw [if_pos (hg _ _ _ h), h1]
      dsimp only
      rw [ht]
      exact hf
    · obtain ⟨xs, s, hf, hI2⟩ := nx (acc ++ [y]) s3 hI (by rw [List.length_append, List.length_singleton]; omega)
      refine ⟨xs, s, ?_, hI2⟩
      unfold lcL
      rw [if_pos (hg _ _ _ h), h1]
      dsimp only
      rw [ht]
      show (e e1 s2).bindS (fun y s2 => if acc.length < 100000 then lcL w g t e vs env ds (acc ++ [y]) s2 else .stuck) = _
      rw [he]
      show (if acc.length < 100000 then lcL w g t e vs env ds (acc ++ [y]) s3 else .stuck) = _
      rw [if_pos (by omega)]
      exact hf
theorem lc_inv {w : Wlk} {g : Tgt} {t e : Ex} {vs : List Nat} {env : F3.Env} (I : Nat → List D → Store → Prop) {ds : List D} {st : Store} (hg : ∀ i a s, I i a s → Gd w s) (h : I 0 [] st)
    (step : ∀ (i : Nat) (d : D) (acc : List D) (st : Store), ds[i]? = some d → I i acc st → ∃ e1 s1, g d (wipeE env vs) st = some (e1, s1) ∧ ((∃ s2, t e1 s1 = .ok (.bl false) s2 ∧ I (i + 1) acc s2) ∨ ∃ s2 y s3, t e1 s1 = .ok (.bl true) s2 ∧ e e1 s2 = .ok y s3 ∧ I (i + 1) (acc ++ [y]) s3))
    (hl : ds.length ≤ 100000) : ∃ xs s, lcL w g t e vs env ds [] st = .ok xs s ∧ I ds.length xs s := by
  obtain ⟨xs, s, h1, h2⟩ := lcL_inv (env := env) I hg ds [] 0 st h (fun i d acc st hd hi => by
    rw [Nat.zero_add] at hi ⊢
    exact step i d acc st hd hi) (by rw [List.length_nil]; omega)
  rw [Nat.zero_add] at h2
  exact ⟨xs, s, h1, h2⟩
end F3

/-! F3, part v: how long a repr is. -/
namespace F3
open PySem PySem.Spec PyProof.Rows L2

mutual
/-- a bound of the length of repr -/
def rW : PyData → Nat
  | .none => 4
  | .bool _ => 5
  | .int _ => 601
  | .str x => 10 * x.length + 2
  | .list xs => 4 + rWs xs
  | .tuple xs => 4 + rWs xs
  | .dict _ => 0
def rWs : List PyData → Nat
  | [] => 0
  | x :: xs => rW x + 2 + rWs xs
end
theorem strA (a b : Str) : (a ++ b).length = a.length + b.length := by
  have := congrArg List.length (TL.tl_append a b)
  rw [List.length_append] at this
  exact this
def sumL : List Str → Nat
  | [] => 0
  | x :: xs => x.length + 2 + sumL xs
theorem from_len : ∀ (ts : List Str) (k : Nat) (acc : Str), (textFrom k acc ts).length ≤ acc.length + sumL ts
  | [], k, acc => Nat.le_refl _
  | t :: r, k, acc => by
    have h := from_len r (k + 1) (acc ++ (if k > 0 then ", " else "" : String) ++ t)
    have e : (acc ++ (if k > 0 then ", " else "" : String) ++ t).length ≤ acc.length + 2 + t.length := by
      rw [strA, strA]
      have : (Str.ofString (if k > 0 then ", " else "")).length ≤ 2 := by split <;> decide
      omega
    show (textFrom (k + 1) (acc ++ (if k > 0 then ", " else "" : String) ++ t) r).length ≤ acc.length + (t.length + 2 + sumL r)
    omega
theorem joins_len : ∀ ts : List Str, (Str.join ", " ts).length ≤ sumL ts
  | [] => Nat.le_refl _
  | [x] => by
    show x.length ≤ x.length + 2 + 0
    omega
  | x :: y :: r => by
    have h := joins_len (y :: r)
    show (x ++ ", " ++ Str.join ", " (y :: r)).length ≤ x.length + 2 + sumL (y :: r)
    rw [strA, strA]
    have : (Str.ofString ", ").length = 2 := by decide
    omega
mutual
theorem shown_len : ∀ p : PyData, p.canLay0 = true → p.showable = true → p.shown.length ≤ rW p
  | .none, _, _ => by
    simp only [PyData.shown, rW]
    decide
  | .bool b, _, _ => by
    simp only [PyData.shown, rW]
    cases b <;> decide
  | .int i, _, h => by
    simp only [PyData.showable, decide_eq_true_eq] at h
    simp only [PyData.shown, rW]
    have hb : i.natAbs < 2 ^ 1920 := by
      by_cases h0 : i.natAbs = 0
      · rw [h0]
        exact Nat.two_pow_pos _
      · exact (Nat.log2_lt h0).mp h
    rw [str_int, S_len]
    exact intL_len9 hb
  | .str x, hc, _ => by
    simp only [PyData.shown, rW]
    refine StrLaws.reprText_len x fun c hm => ?_
    simp only [PyData.canLay0] at hc
    have := Array.all_eq_true_iff_forall_mem.mp hc c (Array.mem_toList_iff.mp hm)
    have := of_decide_eq_true this
    omega
  | .list xs, hc, h => by
    simp only [PyData.canLay0] at hc
    simp only [PyData.showable] at h
    simp only [PyData.shown, rW]
    have h1 := shown_lens xs hc h
    have h2 := from_len (PyData.shownAll xs) 0 "["
    unfold listText
    rw [strA]
    have e1 : (Str.ofString "[").length = 1 := by decide
    have e2 : (Str.ofString "]").length = 1 := by decide
    omega
  | .tuple xs, hc, h => by
    simp only [PyData.canLay0] at hc
    simp only [PyData.showable] at h
    simp only [PyData.shown, rW]
    have h1 := shown_lens xs hc h
    have h2 := joins_len (PyData.shownAll xs)
    unfold tupleText
    rw [strA, strA]
    have e1 : (Str.ofString "(").length = 1 := by decide
    have e2 : (Str.ofString (if (PyData.shownAll xs).length == 1 then ",)" else ")")).length ≤ 2 := by split <;> decide
    omega
  | .dict _, hc, _ => by simp [PyData.canLay0] at hc
theorem shown_lens : ∀ xs : List PyData, PyData.canLayAll0 xs = true → PyData.showableAll xs = true → sumL (PyData.shownAll xs) ≤ rWs xs
  | [], _, _ => by simp only [PyData.shownAll, sumL, rWs]; exact Nat.le_refl _
  | x :: xs, hc, h => by
    simp only [PyData.canLayAll0, Bool.and_eq_true] at hc
    simp only [PyData.showableAll, Bool.and_eq_true] at h
    simp only [PyData.shownAll, sumL, rWs]
    have h1 := shown_len x hc.1 h.1
    have h2 := shown_lens xs hc.2 h.2
    omega
end
/-- data that repr can show -/
structure Shw (st : Store) (d : D) (p : PyData) (n : Nat) : Prop where
  py : pyD st d = some p
  lay : p.canLay0 = true
  sh : p.showable = true
  dep : p.depth ≤ n
  w : rW p ≤ 20000 * n
theorem reprD_ok {st : Store} {d : D} {p : PyData} {n : Nat} (h : Shw st d p n) (hn : n ≤ 5) : reprD [d] st = some (.str p.shown, st) := by
  have hk : showOk p = true := by
    unfold showOk
    have h4 : p.shown.length ≤ sizeLine := Nat.le_trans (shown_len p h.lay h.sh) (Nat.le_trans (show rW p ≤ 100000 by have := h.w; omega) (by decide))
    rw [h.sh, PyData.hasDict_of_canLay p h.lay, decide_eq_true (show p.depth ≤ 60 by have := h.dep; omega), decide_eq_true h4]
    rfl
  show ((pyD st d).bind fun p => if showOk p = true then some (D.str p.shown, st) else none) = _
  rw [h.py]
  simp only [Option.bind, hk, if_true]
def tryF (CS tb : List String) (i : Nat) (u : Sm) (f : Flow) : Flow := match f with
  | .ex c fs e s => onEx CS tb i u c fs e s
  | .nx e s => .nx e s
  | .bk e s => .bk e s
  | .ct e s => .ct e s
  | .rt d s => .rt d s
  | .stuck => .stuck
def exF (o : Option Bool) (i : Nat) (u : Sm) (c : String) (fs : List (String × D)) (env : F3.Env) (st : Store) : Flow := match o with
  | some true => goneF i (u (env.set i (some (.exc c fs))) st)
  | some false => .ex c fs env st
  | none => .stuck
/-- exceptions -/
theorem evt : (∀ CS tb i b u env st, sTry CS tb i b u env st = tryF CS tb i u (b env st)) ∧ (∀ CS tb i u c fs e s, tryF CS tb i u (.ex c fs e s) = exF (clause CS tb c) i u c fs e s) ∧ (∀ CS tb i u e s, tryF CS tb i u (.nx e s) = .nx e s) ∧ (∀ CS tb i u d s, tryF CS tb i u (.rt d s) = .rt d s) ∧
    (∀ i u c fs e s, exF (some true) i u c fs e s = goneF i (u (e.set i (some (.exc c fs))) s)) ∧ (∀ i u c fs e s, exF (some false) i u c fs e s = .ex c fs e s) ∧ (∀ i e s, goneF i (.nx e s) = .nx (e.set i none) s) ∧ (∀ i d s, goneF i (.rt d s) = .rt d s) ∧ (∀ c env st, sRaise0 c env st = .ex c [] env st) :=
  ⟨fun _ _ _ _ _ _ _ => rfl, fun _ _ _ _ _ _ _ _ => rfl, fun _ _ _ _ _ _ => rfl, fun _ _ _ _ _ _ => rfl, fun _ _ _ _ _ _ => rfl, fun _ _ _ _ _ _ => rfl, fun _ _ _ => rfl, fun _ _ _ => rfl, fun _ _ _ => rfl⟩
theorem reprD_same {st : Store} {d : D} {p : PyData} {n : Nat} (h : Shw st d p n) (hn : n ≤ 5) : ∃ z, reprD [d] st = some (.str z, st) := ⟨_, reprD_ok h hn⟩
theorem shw_sh {x : Rat} (st : Store) (h : Sz 1900 x) : Shw st (shD x) (.tuple [.int x.num, .int x.den]) 1 := by
  refine ⟨rfl, rfl, ?_, by simp only [PyData.depth, PyData.depthAll]; omega, by simp only [rW, rWs]; omega⟩
  have h1 : x.num.natAbs.log2 < 1920 := log_lt (by omega) (up_pow h.nu (by omega))
  have h2 : ((x.den : Nat) : Int).natAbs.log2 < 1920 := log_lt (by omega) (up_pow h.den (by omega))
  simp only [PyData.showable, PyData.showableAll, decide_eq_true h1, decide_eq_true h2, Bool.and_self]
theorem shwL_nil (st : Store) : pyL st [] = some [] := by simp [pyL]
/-- a list of shares -/
theorem shw_shs {xs : List Rat} (st : Store) (h : ∀ x ∈ xs, Sz 1900 x) (hl : xs.length ≤ 70) : ∃ p, Shw st (.lst (xs.map shD)) p 5 := by
  have key : ∀ xs : List Rat, (∀ x ∈ xs, Sz 1900 x) → ∃ ps, pyL st (xs.map shD) = some ps ∧ PyData.canLayAll0 ps = true ∧ PyData.showableAll ps = true ∧ PyData.depthAll ps ≤ 1 ∧ rWs ps ≤ 1300 * xs.length := by
    intro xs
    induction xs with
    | nil => exact fun _ => ⟨[], by simp [pyL], by simp [PyData.canLayAll0], by simp [PyData.showableAll], by simp [PyData.depthAll], by simp [rWs]⟩
    | cons x xs ih =>
      intro h
      obtain ⟨ps, a1, a2, a3, a4, a5⟩ := ih fun e he => h e (List.mem_cons_of_mem _ he)
      have b := shw_sh st (h x List.mem_cons_self)
      refine ⟨.tuple [.int x.num, .int x.den] :: ps, ?_, by simp only [PyData.canLayAll0, b.lay, a2, Bool.and_self], by simp only [PyData.showableAll, b.sh, a3, Bool.and_self], ?_, ?_⟩
      · show ((pyD st (shD x)).bind fun p => (pyL st (xs.map shD)).map (p :: ·)) = _
        rw [b.py, a1]
        rfl
      · simp only [PyData.depthAll]
        have := b.dep
        omega
      · simp only [rWs, rW, List.length_cons]
        omega
  obtain ⟨ps, a1, a2, a3, a4, a5⟩ := key xs h
  refine ⟨.list ps, ?_, by simp only [PyData.canLay0, a2], by simp only [PyData.showable, a3], by simp only [PyData.depth]; omega, by simp only [rW]; omega⟩
  show (pyL st (xs.map shD)).map PyData.list = _
  rw [a1]
  rfl
/-- a list of few things of depth one -/
theorem shw_lst {st : Store} {ds : List D} (h : ∀ d ∈ ds, ∃ p, Shw st d p 1) (hl : ds.length ≤ 4) : ∃ p, Shw st (.lst ds) p 5 := by
  have key : ∀ ds : List D, (∀ d ∈ ds, ∃ p, Shw st d p 1) → ∃ ps, pyL st ds = some ps ∧ PyData.canLayAll0 ps = true ∧ PyData.showableAll ps = true ∧ PyData.depthAll ps ≤ 1 ∧ rWs ps ≤ 20002 * ds.length := by
    intro ds
    induction ds with
    | nil => exact fun _ => ⟨[], by simp [pyL], by simp [PyData.canLayAll0], by simp [PyData.showableAll], by simp [PyData.depthAll], by simp [rWs]⟩
    | cons d ds ih =>
      intro h
      obtain ⟨ps, a1, a2, a3, a4, a5⟩ := ih fun e he => h e (List.mem_cons_of_mem _ he)
      obtain ⟨p, b⟩ := h d List.mem_cons_self
      refine ⟨p :: ps, ?_, by simp only [PyData.canLayAll0, b.lay, a2, Bool.and_self], by simp only [PyData.showableAll, b.sh, a3, Bool.and_self], ?_, ?_⟩
      · show ((pyD st d).bind fun p => (pyL st ds).map (p :: ·)) = _
        rw [b.py, a1]
        rfl
      · simp only [PyData.depthAll]
        have := b.dep
        omega
      · simp only [rWs, List.length_cons]
        have := b.w
        omega
  obtain ⟨ps, a1, a2, a3, a4, a5⟩ := key ds h
  refine ⟨.list ps, ?_, by simp only [PyData.canLay0, a2], by simp only [PyData.showable, a3], by simp only [PyData.depth]; omega, by simp only [rW]; omega⟩
  show (pyL st ds).map PyData.list = _
  rw [a1]
  rfl
end F3

set_option maxHeartbeats 4000000
namespace K02
open PySem PySem.Spec PyProof.Rows L2 F3
def c_NOUGHT : D := (.tup [(.int 0), (.int 1)])
def CS : List String := ["ByNought"]
def tb_ByNought : List String := ["ByNought"]
def tb_ZeroDivisionError : List String := ["ByNought"]
def g_greatest_0_default_some : List D → List D → List D := fun ds es => match ds, es with
  | [], [k0, k1] => [k1, k0]
  | _, _ => []
def g_greatest_1 : List D → List D → List D := fun ds es => match ds, es with
  | [a0], [] => [a0, .non]
  | _, _ => []
def g_least_1 : List D → List D → List D := fun ds es => match ds, es with
  | [a0], [] => [a0, .non]
  | _, _ => []
def g_least_1_default : List D → List D → List D := fun ds es => match ds, es with
  | [a0], [k0] => [a0, k0]
  | _, _ => []
def g_total_0_start_some : List D → List D → List D := fun ds es => match ds, es with
  | [], [k0, k1] => [k1, k0]
  | _, _ => []
def g_total_1 : List D → List D → List D := fun ds es => match ds, es with
  | [a0], [] => [a0, c_NOUGHT]
  | _, _ => []
noncomputable def b_lowest : Sm := sSeq (sPar 2 3 (eFn absD (aCons (eVar 0) (aNil))) (eFn absD (aCons (eVar 1) (aNil)))) (sSeq (sWhile (eBin gtD (eVar 3) (eC (.int 0))) (sPar 2 3 (eVar 3) (eBin modD (eVar 2) (eVar 3)))) (sSeq (sIf (eBin ltD (eVar 1) (eC (.int 0))) (sPar 0 1 (eBin subD (eC (.int 0)) (eVar 0)) (eBin subD (eC (.int 0)) (eVar 1))) (sNext)) (sRet (eTup (aCons (eBin fdivD (eVar 0) (eVar 2)) (aCons (eBin fdivD (eVar 1) (eVar 2)) (aNil)))))))
noncomputable def m_lowest : List D → Store → Res D := fn 2 b_lowest
noncomputable def b_plus : Sm := sRet (eCall m_lowest (fun ds _ => ds) (aCons (eBin addD (eBin mulD (eBin ixD (eVar 0) (eC (.int 0))) (eBin ixD (eVar 1) (eC (.int 1)))) (eBin mulD (eBin ixD (eVar 1) (eC (.int 0))) (eBin ixD (eVar 0) (eC (.int 1))))) (aCons (eBin mulD (eBin ixD (eVar 0) (eC (.int 1))) (eBin ixD (eVar 1) (eC (.int 1)))) (aNil))) (aNil))
noncomputable def m_plus : List D → Store → Res D := fn 0 b_plus
noncomputable def b_minus : Sm := sRet (eCall m_lowest (fun ds _ => ds) (aCons (eBin subD (eBin mulD (eBin ixD (eVar 0) (eC (.int 0))) (eBin ixD (eVar 1) (eC (.int 1)))) (eBin mulD (eBin ixD (eVar 1) (eC (.int 0))) (eBin ixD (eVar 0) (eC (.int 1))))) (aCons (eBin mulD (eBin ixD (eVar 0) (eC (.int 1))) (eBin ixD (eVar 1) (eC (.int 1)))) (aNil))) (aNil))
noncomputable def m_minus : List D → Store → Res D := fn 0 b_minus
noncomputable def b_times : Sm := sRet (eCall m_lowest (fun ds _ => ds) (aCons (eBin mulD (eBin ixD (eVar 0) (eC (.int 0))) (eBin ixD (eVar 1) (eC (.int 0)))) (aCons (eBin mulD (eBin ixD (eVar 0) (eC (.int 1))) (eBin ixD (eVar 1) (eC (.int 1)))) (aNil))) (aNil))
noncomputable def m_times : List D → Store → Res D := fn 0 b_times
noncomputable def b_over : Sm := sSeq (sIf (eBin eqD (eBin ixD (eVar 1) (eC (.int 0))) (eC (.int 0))) (sRaise0 "ByNought") (sNext)) (sRet (eCall m_lowest (fun ds _ => ds) (aCons (eBin mulD (eBin ixD (eVar 0) (eC (.int 0))) (eBin ixD (eVar 1) (eC (.int 1)))) (aCons (eBin mulD (eBin ixD (eVar 0) (eC (.int 1))) (eBin ixD (eVar 1) (eC (.int 0)))) (aNil))) (aNil)))
noncomputable def m_over : List D → Store → Res D := fn 0 b_over
noncomputable def b_less : Sm := sRet (eBin ltD (eBin mulD (eBin ixD (eVar 0) (eC (.int 0))) (eBin ixD (eVar 1) (eC (.int 1)))) (eBin mulD (eBin ixD (eVar 1) (eC (.int 0))) (eBin ixD (eVar 0) (eC (.int 1)))))
noncomputable def m_less : List D → Store → Res D := fn 0 b_less
noncomputable def b_total : Sm := sSeq (sSet 2 (eVar 1)) (sSeq (sFor (iLst (eVar 0)) (tNm 3) (sSet 2 (eCall m_plus (fun ds _ => ds) (aCons (eVar 2) (aCons (eVar 3) (aNil))) (aNil)))) (sRet (eVar 2)))
noncomputable def m_total : List D → Store → Res D := fn 2 b_total
noncomputable def b_least : Sm := sSeq (sSet 2 (eVar 1)) (sSeq (sFor (iEnu (aCons (eVar 0) (aNil))) (tTu 2 (tCons' (tNm 3) (tCons' (tNm 4) (tNil')))) (sIf (eOr (eBin eqD (eVar 3) (eC (.int 0))) (eCall m_less (fun ds _ => ds) (aCons (eVar 4) (aCons (eVar 2) (aNil))) (aNil))) (sSet 2 (eVar 4)) (sNext))) (sRet (eVar 2)))
noncomputable def m_least : List D → Store → Res D := fn 3 b_least
noncomputable def b_greatest : Sm := sSeq (sSet 2 (eVar 1)) (sSeq (sFor (iEnu (aCons (eVar 0) (aNil))) (tTu 2 (tCons' (tNm 3) (tCons' (tNm 4) (tNil')))) (sIf (eOr (eBin eqD (eVar 3) (eC (.int 0))) (eCall m_less (fun ds _ => ds) (aCons (eVar 2) (aCons (eVar 4) (aNil))) (aNil))) (sSet 2 (eVar 4)) (sNext))) (sRet (eVar 2)))
noncomputable def m_greatest : List D → Store → Res D := fn 3 b_greatest
noncomputable def b__law_pool : Sm := sSeq (sSet 2 (eBin ixD (eBin addD (eSl (eVar 0) (oSome (eVar 1)) (oSome (eBin addD (eVar 1) (eC (.int 1))))) (eLst (aCons (eC (.int 0)) (aNil)))) (eC (.int 0)))) (sSeq (sSet 3 (eBin modD (eBin mulD (eBin addD (eBin addD (eBin modD (eVar 2) (eC (.int 2147483629))) (eBin mulD (eC (.int 7919)) (eVar 1))) (eC (.int 104729))) (eC (.int 48271))) (eC (.int 2147483647)))) (sRet (eCel (aCons (eBin mulD (eVar 2) (eFn intD (aCons (eBin geD (eVar 2) (eBin powD (eC (.int 10)) (eC (.int 18)))) (aNil)))) (aCons (eVar 3) (aNil))))))
noncomputable def m__law_pool : List D → Store → Res D := fn 2 b__law_pool
noncomputable def b__law_take : Sm := sSeq (sIf (eBin gtD (eBin ixD (eVar 0) (eC (.int 0))) (eC (.int 0))) (sSeq (sSet 2 (eBin modD (eBin ixD (eVar 0) (eC (.int 0))) (eVar 1))) (sSeq (sAsg (eBin fdivD (eBin ixD (eVar 0) (eC (.int 0))) (eVar 1)) (tSub (eVar 0) (eC (.int 0)))) (sRet (eVar 2)))) (sNext)) (sSeq (sAsg (eBin modD (eBin addD (eBin mulD (eBin ixD (eVar 0) (eC (.int 1))) (eC (.int 48271))) (eC (.int 11))) (eC (.int 2147483647))) (tSub (eVar 0) (eC (.int 1)))) (sRet (eBin modD (eBin fdivD (eBin modD (eBin mulD (eBin ixD (eVar 0) (eC (.int 1))) (eBin ixD (eVar 0) (eC (.int 1)))) (eC (.int 2147483629))) (eC (.int 64))) (eVar 1))))
noncomputable def m__law_take : List D → Store → Res D := fn 1 b__law_take
noncomputable def b__law_number : Sm := sSeq (sSet 1 (eBin ixD (eLst (aCons (eC (.int 1)) (aCons (eC (.int 1)) (aCons (eC (.int 2)) (aCons (eC (.int 9)) (aCons (eC (.int 30)) (aCons (eC (.int 60)) (aNil)))))))) (eCall m__law_take (fun ds _ => ds) (aCons (eVar 0) (aCons (eC (.int 6)) (aNil))) (aNil)))) (sSeq (sSet 2 (eFn intD (aCons (eBin eqD (eCall m__law_take (fun ds _ => ds) (aCons (eVar 0) (aCons (eC (.int 8)) (aNil))) (aNil)) (eC (.int 0))) (aNil)))) (sSeq (sSet 3 (eC (.int 0))) (sSeq (sFor (iRange1 (aCons (eVar 1) (aNil))) (tNm 4) (sSet 3 (eBin addD (eBin mulD (eVar 3) (eC (.int 10))) (eBin ixD (eLst (aCons (eCall m__law_take (fun ds _ => ds) (aCons (eVar 0) (aCons (eC (.int 10)) (aNil))) (aNil)) (aCons (eC (.int 9)) (aNil)))) (eVar 2))))) (sRet (eBin mulD (eVar 3) (eBin ixD (eLst (aCons (eC (.int 1)) (aCons (eC (.int 1)) (aCons (eUn negD (eC (.int 1))) (aNil))))) (eCall m__law_take (fun ds _ => ds) (aCons (eVar 0) (aCons (eC (.int 3)) (aNil))) (aNil))))))))
noncomputable def m__law_number : List D → Store → Res D := fn 4 b__law_number
noncomputable def b__law_low : Sm := sSeq (sSet 2 (eFn absD (aCons (eVar 0) (aNil)))) (sSeq (sSet 3 (eFn absD (aCons (eVar 1) (aNil)))) (sSeq (sWhile (eBin gtD (eVar 3) (eC (.int 0))) (sPar 2 3 (eVar 3) (eBin modD (eVar 2) (eVar 3)))) (sSeq (sSet 4 (eBin ixD (eLst (aCons (eC (.int 1)) (aCons (eUn negD (eC (.int 1))) (aNil)))) (eFn intD (aCons (eBin ltD (eVar 1) (eC (.int 0))) (aNil))))) (sRet (eTup (aCons (eBin fdivD (eBin mulD (eVar 4) (eVar 0)) (eVar 2)) (aCons (eBin fdivD (eFn absD (aCons (eVar 1) (aNil))) (eVar 2)) (aNil))))))))
noncomputable def m__law_low : List D → Store → Res D := fn 3 b__law_low
noncomputable def b__law_share : Sm := sSeq (sSet 1 (eCall m__law_number (fun ds _ => ds) (aCons (eVar 0) (aNil)) (aNil))) (sRet (eCall m__law_low (fun ds _ => ds) (aCons (eCall m__law_number (fun ds _ => ds) (aCons (eVar 0) (aNil)) (aNil)) (aCons (eBin addD (eVar 1) (eFn intD (aCons (eBin eqD (eVar 1) (eC (.int 0))) (aNil)))) (aNil))) (aNil)))
noncomputable def m__law_share : List D → Store → Res D := fn 1 b__law_share
noncomputable def b__law_over_nought : Sm := sSeq (sSet 1 (eC .non)) (sSeq (sTry CS tb_ByNought 2 (sExpr (eCall m_over (fun ds _ => ds) (aCons (eVar 0) (aCons (eC c_NOUGHT) (aNil))) (aNil))) (sSet 1 (eVar 2))) (sRet (eUn (isxD CS tb_ZeroDivisionError) (eVar 1))))
noncomputable def m__law_over_nought : List D → Store → Res D := fn 2 b__law_over_nought
noncomputable def b__law_two_right : Sm := sSeq (sAsg (eVar 0) (tTu 2 (tCons' (tNm 2) (tCons' (tNm 3) (tNil'))))) (sSeq (sAsg (eVar 1) (tTu 2 (tCons' (tNm 4) (tCons' (tNm 5) (tNil'))))) (sSeq (sSet 6 (eLst (aCons (eCall m__law_low (fun ds _ => ds) (aCons (eBin addD (eBin mulD (eVar 2) (eVar 5)) (eBin mulD (eVar 4) (eVar 3))) (aCons (eBin mulD (eVar 3) (eVar 5)) (aNil))) (aNil)) (aCons (eCall m__law_low (fun ds _ => ds) (aCons (eBin subD (eBin mulD (eVar 2) (eVar 5)) (eBin mulD (eVar 4) (eVar 3))) (aCons (eBin mulD (eVar 3) (eVar 5)) (aNil))) (aNil)) (aCons (eCall m__law_low (fun ds _ => ds) (aCons (eBin mulD (eVar 2) (eVar 4)) (aCons (eBin mulD (eVar 3) (eVar 5)) (aNil))) (aNil)) (aNil)))))) (sSeq (sIf (eBin neD (eFn reprD (aCons (eLst (aCons (eCall m_plus (fun ds _ => ds) (aCons (eVar 0) (aCons (eVar 1) (aNil))) (aNil)) (aCons (eCall m_minus (fun ds _ => ds) (aCons (eVar 0) (aCons (eVar 1) (aNil))) (aNil)) (aCons (eCall m_times (fun ds _ => ds) (aCons (eVar 0) (aCons (eVar 1) (aNil))) (aNil)) (aNil))))) (aNil))) (eFn reprD (aCons (eVar 6) (aNil)))) (sRet (eC (.bl false))) (sNext)) (sSeq (sIf (eOr (eBin neD (eFn reprD (aCons (eCall m_less (fun ds _ => ds) (aCons (eVar 0) (aCons (eVar 1) (aNil))) (aNil)) (aNil))) (eFn reprD (aCons (eBin ltD (eBin mulD (eVar 2) (eVar 5)) (eBin mulD (eVar 4) (eVar 3))) (aNil)))) (eNot (eCall m__law_over_nought (fun ds _ => ds) (aCons (eVar 0) (aNil)) (aNil)))) (sRet (eC (.bl false))) (sNext)) (sRet (eOr (eBin eqD (eVar 4) (eC (.int 0))) (eBin eqD (eFn reprD (aCons (eCall m_over (fun ds _ => ds) (aCons (eVar 0) (aCons (eVar 1) (aNil))) (aNil)) (aNil))) (eFn reprD (aCons (eCall m__law_low (fun ds _ => ds) (aCons (eBin mulD (eVar 2) (eVar 5)) (aCons (eBin mulD (eVar 3) (eVar 4)) (aNil))) (aNil)) (aNil))))))))))
noncomputable def m__law_two_right : List D → Store → Res D := fn 5 b__law_two_right
noncomputable def b__law_sum : Sm := sSeq (sSet 1 (eTup (aCons (eC (.int 0)) (aCons (eC (.int 1)) (aNil))))) (sSeq (sFor (iLst (eVar 0)) (tTu 2 (tCons' (tNm 2) (tCons' (tNm 3) (tNil')))) (sSet 1 (eCall m__law_low (fun ds _ => ds) (aCons (eBin addD (eBin mulD (eBin ixD (eVar 1) (eC (.int 0))) (eVar 3)) (eBin mulD (eVar 2) (eBin ixD (eVar 1) (eC (.int 1))))) (aCons (eBin mulD (eBin ixD (eVar 1) (eC (.int 1))) (eVar 3)) (aNil))) (aNil)))) (sRet (eVar 1)))
noncomputable def m__law_sum : List D → Store → Res D := fn 3 b__law_sum
noncomputable def b__law_best : Sm := sSeq (sSet 2 (eBin ixD (eVar 0) (eC (.int 0)))) (sSeq (sFor (iLst (eVar 0)) (tNm 3) (sIf (eBin gtD (eBin mulD (eVar 1) (eBin subD (eBin mulD (eBin ixD (eVar 3) (eC (.int 0))) (eBin ixD (eVar 2) (eC (.int 1)))) (eBin mulD (eBin ixD (eVar 2) (eC (.int 0))) (eBin ixD (eVar 3) (eC (.int 1)))))) (eC (.int 0))) (sSet 2 (eVar 3)) (sNext))) (sRet (eVar 2)))
noncomputable def m__law_best : List D → Store → Res D := fn 2 b__law_best
noncomputable def b__law_many_right : Sm := sSeq (sSet 3 (eFn reprD (aCons (eVar 0) (aNil)))) (sSeq (sIf (eBin neD (eFn reprD (aCons (eCall m_total g_total_1 (aCons (eVar 0) (aNil)) (aNil)) (aNil))) (eFn reprD (aCons (eCall m__law_sum (fun ds _ => ds) (aCons (eVar 0) (aNil)) (aNil)) (aNil)))) (sRet (eC (.bl false))) (sNext)) (sSeq (sIf (eBin neD (eFn reprD (aCons (eCall m_total g_total_0_start_some (aNil) (aCons (eVar 1) (aCons (eVar 0) (aNil)))) (aNil))) (eFn reprD (aCons (eCall m__law_sum (fun ds _ => ds) (aCons (eBin addD (eLst (aCons (eVar 1) (aNil))) (eVar 0)) (aNil)) (aNil)) (aNil)))) (sRet (eC (.bl false))) (sNext)) (sSeq (sSet 4 (eLst (aCons (eVar 2) (aCons (eVar 2) (aNil))))) (sSeq (sSet 5 (eLst (aCons (eC .non) (aCons (eC .non) (aNil))))) (sSeq (sIf (eBin neD (eVar 0) (eLst (aNil))) (sSeq (sSet 4 (eLst (aCons (eCall m__law_best (fun ds _ => ds) (aCons (eVar 0) (aCons (eUn negD (eC (.int 1))) (aNil))) (aNil)) (aCons (eCall m__law_best (fun ds _ => ds) (aCons (eVar 0) (aCons (eC (.int 1)) (aNil))) (aNil)) (aNil))))) (sSet 5 (eVar 4))) (sNext)) (sSeq (sIf (eBin neD (eFn reprD (aCons (eLst (aCons (eCall m_least g_least_1_default (aCons (eVar 0) (aNil)) (aCons (eVar 2) (aNil))) (aCons (eCall m_greatest g_greatest_0_default_some (aNil) (aCons (eVar 2) (aCons (eVar 0) (aNil)))) (aNil)))) (aNil))) (eFn reprD (aCons (eVar 4) (aNil)))) (sRet (eC (.bl false))) (sNext)) (sRet (eAnd (eBin eqD (eFn reprD (aCons (eLst (aCons (eCall m_least g_least_1 (aCons (eVar 0) (aNil)) (aNil)) (aCons (eCall m_greatest g_greatest_1 (aCons (eVar 0) (aNil)) (aNil)) (aNil)))) (aNil))) (eFn reprD (aCons (eVar 5) (aNil)))) (eBin eqD (eFn reprD (aCons (eVar 0) (aNil))) (eVar 3))))))))))
noncomputable def m__law_many_right : List D → Store → Res D := fn 3 b__law_many_right
noncomputable def b_law : Sm := sSeq (sFor (iRange1 (aCons (eFn max2D (aCons (eC (.int 1)) (aCons (eFn min2D (aCons (eC (.int 40)) (aCons (eFn lenD (aCons (eVar 0) (aNil))) (aNil)))) (aNil)))) (aNil))) (tNm 1) (sSeq (sSet 2 (eCall m__law_pool (fun ds _ => ds) (aCons (eVar 0) (aCons (eVar 1) (aNil))) (aNil))) (sSeq (sSet 3 (eCall m__law_share (fun ds _ => ds) (aCons (eVar 2) (aNil)) (aNil))) (sSeq (sSet 4 (eCall m__law_share (fun ds _ => ds) (aCons (eVar 2) (aNil)) (aNil))) (sSeq (sIf (eBin eqD (eCall m__law_take (fun ds _ => ds) (aCons (eVar 2) (aCons (eC (.int 4)) (aNil))) (aNil)) (eC (.int 0))) (sSet 4 (eVar 3)) (sNext)) (sSeq (sIf (eOr (eNot (eCall m__law_two_right (fun ds _ => ds) (aCons (eVar 3) (aCons (eVar 4) (aNil))) (aNil))) (eNot (eCall m__law_two_right (fun ds _ => ds) (aCons (eVar 4) (aCons (eVar 3) (aNil))) (aNil)))) (sRet (eC (.bl false))) (sNext)) (sSeq (sSet 5 (eLc (iRange1 (aCons (eCall m__law_take (fun ds _ => ds) (aCons (eVar 2) (aCons (eC (.int 6)) (aNil))) (aNil)) (aNil))) (tNm 6) (eYes) (eCall m__law_share (fun ds _ => ds) (aCons (eVar 2) (aNil)) (aNil)) [6])) (sSeq (sSet 7 (eBin ixD (eLst (aCons (eC .non) (aCons (eC (.int 0)) (aCons (eTup (aCons (eC (.int 0)) (aCons (eC (.int 1)) (aNil)))) (aCons (eVar 3) (aCons (eC (.str "none")) (aCons (eLst (aNil)) (aCons (eTup (aNil)) (aCons (eC (.bl true)) (aNil)))))))))) (eCall m__law_take (fun ds _ => ds) (aCons (eVar 2) (aCons (eC (.int 8)) (aNil))) (aNil)))) (sFor (iLst (eLst (aCons (eVar 5) (aCons (eBin addD (eVar 5) (eLst (aCons (eVar 3) (aCons (eVar 3) (aNil))))) (aCons (eLst (aNil)) (aCons (eLst (aCons (eVar 3) (aNil))) (aCons (eLst (aCons (eVar 4) (aCons (eVar 3) (aNil)))) (aNil)))))))) (tNm 8) (sIf (eNot (eCall m__law_many_right (fun ds _ => ds) (aCons (eVar 8) (aCons (eVar 3) (aCons (eVar 7) (aNil)))) (aNil))) (sRet (eC (.bl false))) (sNext))))))))))) (sRet (eC (.bl true)))
noncomputable def m_law : List D → Store → Res D := fn 8 b_law
end K02

set_option maxHeartbeats 4000000
namespace K02
open PySem PySem.Spec PyProof.Rows L2 F3
/-- the law's own pool lies at `c` -/
def Pool (st : Store) (c : Nat) : Prop := ∃ x y : Int, st[c]? = some (.lst [.int x, .int y])
/-- a store in which that pool alone has moved -/
structure Psx (st : Store) (c : Nat) (st' : Store) : Prop where
  len : st'.length = st.length
  oth : ∀ k, k ≠ c → st'[k]? = st[k]?
  pool : Pool st' c
theorem Psx.trans {st st' st'' : Store} {c : Nat} (a : Psx st c st') (b : Psx st' c st'') : Psx st c st'' := ⟨b.len.trans a.len, fun k h => (b.oth k h).trans (a.oth k h), b.pool⟩
theorem Psx.of {st : Store} {c : Nat} (h : Pool st c) : Psx st c st := ⟨rfl, fun _ _ => rfl, h⟩
theorem Psx.set {st : Store} {c : Nat} (h : Pool st c) (x y : Int) : Psx st c (st.set c (.lst [.int x, .int y])) := by
  obtain ⟨a, b, hc⟩ := h
  have hl := (List.getElem?_eq_some_iff.mp hc).1
  exact ⟨List.length_set, fun k hk => by rw [List.getElem?_set_ne (fun e => hk e.symm)], x, y, by rw [List.getElem?_set_self hl]⟩
theorem take_ev {st : Store} {c : Nat} (h : Pool st c) {n : Int} (hn : 0 < n) (hs : n.natAbs.log2 < 9000) : ∃ r st', m__law_take [.ref c, .int n] st = .ok (.int r) st' ∧ 0 ≤ r ∧ r < n ∧ Psx st c st' := by
  have hp := h
  obtain ⟨x, y, hc⟩ := h
  have hl := (List.getElem?_eq_some_iff.mp hc).1
  by_cases hx : 0 < x
  · refine ⟨x % n, st.set c (.lst [.int (x / n), .int y]), ?_, Int.emod_nonneg _ (by omega), Int.emod_lt_of_pos _ hn, Psx.set hp _ _⟩
    simp only [m__law_take, b__law_take, evs, evk, evl, ev_ixR hc, evo, hx, decide_true, ixAt_0, Option.map_some, ev_mod _ hn, ev_div _ hn hs]
    rw [stD_ref hc (by omega) (by simp)]
    rfl
  · generalize hy : (y * 48271 + 11) % 2147483647 = y'
    have h0 : 0 ≤ y' := hy ▸ Int.emod_nonneg _ (by omega)
    have h1 : y' < 2147483647 := hy ▸ Int.emod_lt_of_pos _ (by omega)
    have hc2 : (st.set c (.lst [.int x, .int y']))[c]? = some (.lst [.int x, .int y']) := by rw [List.getElem?_set_self hl]
    refine ⟨y' * y' % 2147483629 / 64 % n, st.set c (.lst [.int x, .int y']), ?_, Int.emod_nonneg _ (by omega), Int.emod_lt_of_pos _ hn, Psx.set hp _ _⟩
    simp only [m__law_take, b__law_take, evs, evk, evl, ev_ixR hc, evo, hx, decide_false, ixAt_0, Option.map_some, show ixAt [D.int x, D.int y] 1 = some (.int y) from rfl, ev_mul st (mul_r (i := y) (j := 48271) (by omega) (by omega)), ev_mod _ (show (0 : Int) < 2147483647 by omega), hy]
    rw [stD_ref hc (by omega) (by simp)]
    simp only [evs, evk, evl, ev_ixR hc2, Option.map_some, show (1 : Int).toNat = 1 from rfl, show ixAt [D.int x, D.int y'] 1 = some (.int y') from rfl, ev_mul _ (mul_r (i := y') (j := y') (by omega) (by omega)), ev_mod _ (show (0 : Int) < 2147483629 by omega), ev_div _ (show (0 : Int) < 64 by omega) (by decide), ev_mod _ hn]
theorem pool_ev (ns : List Int) (k : Nat) (st : Store) : ∃ x y : Int, m__law_pool [.lst (ns.map D.int), .int k] st = .ok (.ref st.length) (st ++ [.lst [.int x, .int y]]) := by
  have hv : ∃ v l, (((ns.map D.int).drop k).take 1 ++ [D.int 0]) = .int v :: l ∧ l.length ≤ 1 := by
    rw [cut_cell]
    cases ns[k]? with
    | none => exact ⟨0, [], rfl, by simp⟩
    | some v => exact ⟨v, [.int 0], rfl, by simp⟩
  obtain ⟨v, l, hv, -⟩ := hv
  have hc : cutD (ns.map D.int) (some (k : Int)) (some ((k : Int) + 1)) = ((ns.map D.int).drop k).take 1 := by
    rw [show (k : Int) + 1 = ((k + 1 : Nat) : Int) by omega, cut_nat, show k + 1 - k = 1 by omega]
  refine ⟨v * (if decide (1000000000000000000 ≤ v) then 1 else 0), (v % 2147483629 + 7919 * (k : Int) + 104729) * 48271 % 2147483647, ?_⟩
  simp only [m__law_pool, b__law_pool, evs, evk, evl, evo, ev_slL, hc, List.length_cons, List.length_nil, show (0 + 1 ≤ 100000) = True from by simp, if_true]
  have ha : ∀ s, addD (.lst (((ns.map D.int).drop k).take 1)) (.lst [D.int 0]) s = some (.lst (.int v :: l), s) := fun s => by
    rw [← hv]
    exact if_pos (by rw [List.length_take]; simp only [List.length_cons, List.length_nil]; omega)
  simp only [evs, evk, evl, evo, ha, ev_ixL, ixAt_0, Option.map_some, ev_mul _ (mul_l (i := 7919) (j := (k : Int)) (by omega) (by omega)), ev_mod _ (show (0 : Int) < 2147483629 by omega), ev_mod _ (show (0 : Int) < 2147483647 by omega), ev_mul _ (mul_r (i := v % 2147483629 + 7919 * (k : Int) + 104729) (j := 48271) (by omega) (by omega)), ev_pow _ (show (0 : Int) ≤ 18 ∧ (18 : Int) ≤ 1000000 ∧ (10 : Int).natAbs < 2 ^ 64 by decide), show (10 : Int) ^ (18 : Int).toNat = 1000000000000000000 by decide, ev_intb, List.length_cons, List.length_nil, show (0 + 1 + 1 ≤ 100000) = True from by simp, if_true]
  rw [ev_mul _ (mul_r (by split <;> omega) (by split <;> omega))]
  simp only [evs, evk, evl, List.length_cons, List.length_nil, show (0 + 1 + 1 ≤ 100000) = True from by simp, if_true]
theorem number_ev {st : Store} {c : Nat} (h : Pool st c) : ∃ v st', m__law_number [.ref c] st = .ok (.int v) st' ∧ v.natAbs < 10 ^ 60 ∧ Psx st c st' := by
  obtain ⟨r1, s1, e1, l1, u1, p1⟩ := take_ev h (n := 6) (by omega) (by decide)
  obtain ⟨z, hz, hz0, hz1⟩ : ∃ z : Nat, ixAt [D.int 1, D.int 1, D.int 2, D.int 9, D.int 30, D.int 60] r1 = some (.int z) ∧ 0 ≤ z ∧ z ≤ 60 := by
    obtain rfl | rfl | rfl | rfl | rfl | rfl : r1 = 0 ∨ r1 = 1 ∨ r1 = 2 ∨ r1 = 3 ∨ r1 = 4 ∨ r1 = 5 := by omega
    all_goals first | exact ⟨1, rfl, by omega, by omega⟩ | exact ⟨2, rfl, by omega, by omega⟩ | exact ⟨9, rfl, by omega, by omega⟩ | exact ⟨30, rfl, by omega, by omega⟩ | exact ⟨60, rfl, by omega, by omega⟩
  obtain ⟨r2, s2, e2, l2, u2, p2⟩ := take_ev p1.pool (n := 8) (by omega) (by decide)
  have hloop : ∃ e s, forL (tNm 4) (sSet 3 (eBin addD (eBin mulD (eVar 3) (eC (.int 10))) (eBin ixD (eLst (aCons (eCall m__law_take (fun ds _ => ds) (aCons (eVar 0) (aCons (eC (.int 10)) (aNil))) (aNil)) (aCons (eC (.int 9)) (aNil)))) (eVar 2)))) (intsD 0 z) [some (.ref c), some (.int z), some (.int (if decide (r2 = 0) then 1 else 0)), some (.int 0), none] s2 = .nx e s ∧
      ∃ f o, e = [some (.ref c), some (.int z), some (.int (if decide (r2 = 0) then 1 else 0)), some (.int f), o] ∧ 0 ≤ f ∧ f < 10 ^ z ∧ Psx s2 c s := by
    obtain ⟨e, s, hf, hI⟩ := for_inv (g := tNm 4) (b := sSet 3 (eBin addD (eBin mulD (eVar 3) (eC (.int 10))) (eBin ixD (eLst (aCons (eCall m__law_take (fun ds _ => ds) (aCons (eVar 0) (aCons (eC (.int 10)) (aNil))) (aNil)) (aCons (eC (.int 9)) (aNil)))) (eVar 2))))
      (fun i e s => ∃ f o, e = [some (.ref c), some (.int z), some (.int (if decide (r2 = 0) then 1 else 0)), some (.int f), o] ∧ 0 ≤ f ∧ f < 10 ^ i ∧ Psx s2 c s)
      (ds := intsD 0 z) (env := [some (.ref c), some (.int z), some (.int (if decide (r2 = 0) then 1 else 0)), some (.int 0), none]) (st := s2) ⟨0, none, rfl, by omega, by simp, Psx.of p2.pool⟩ (by
        rintro i d env st hd ⟨f, o, rfl, f0, f1, ps⟩
        obtain ⟨hi, rfl⟩ := intsD_get hd
        obtain ⟨r, s', e3, l3, u3, p3⟩ := take_ev ps.pool (n := 10) (by omega) (by decide)
        have hb : ∃ q : Int, 0 ≤ q ∧ q < 10 ∧ ixAt [D.int r, D.int 9] (if decide (r2 = 0) then 1 else 0) = some (.int q) := by
          by_cases h2 : r2 = 0
          · rw [decide_eq_true h2]
            exact ⟨9, by omega, by omega, rfl⟩
          · rw [decide_eq_false h2]
            exact ⟨r, l3, u3, rfl⟩
        obtain ⟨q, q0, q1, hq⟩ := hb
        refine ⟨_, _, [some (.ref c), some (.int z), some (.int (if decide (r2 = 0) then 1 else 0)), some (.int (f * 10 + q)), some (.int (0 + i))], s', rfl, .inl ?_, ?_⟩
        · simp only [evs, evk, evl, ev_mul _ (mul_r (i := f) (j := 10) (by omega) (by omega)), e3, List.length_cons, List.length_nil, show (0 + 1 + 1 ≤ 100000) = True from by simp, if_true, ev_ixL, hq, Option.map_some, evo]
        · refine ⟨f * 10 + q, _, rfl, by omega, ?_, ps.trans p3⟩
          have : (10 : Int) ^ (i + 1) = 10 ^ i * 10 := Int.pow_succ _ _
          omega)
    rw [intsD_len] at hI
    exact ⟨e, s, hf, hI⟩
  obtain ⟨e, s3, hf, f, o, rfl, f0, f1, p3⟩ := hloop
  obtain ⟨r4, s4, e4, l4, u4, p4⟩ := take_ev p3.pool (n := 3) (by omega) (by decide)
  obtain ⟨g, hg, hg2⟩ : ∃ g : Int, ixAt [D.int 1, D.int 1, D.int (-1)] r4 = some (.int g) ∧ (g = 1 ∨ g = -1) := by
    obtain rfl | rfl | rfl : r4 = 0 ∨ r4 = 1 ∨ r4 = 2 := by omega
    · exact ⟨1, rfl, .inl rfl⟩
    · exact ⟨1, rfl, .inl rfl⟩
    · exact ⟨-1, rfl, .inr rfl⟩
  refine ⟨f * g, s4, ?_, ?_, ((p1.trans p2).trans p3).trans p4⟩
  · simp only [m__law_number, b__law_number, evs, evr, evu, evk, evl, e1, e2, List.length_cons, List.length_nil, show (0 + 1 + 1 + 1 + 1 + 1 + 1 ≤ 100000) = True from by simp, show (0 + 1 + 1 + 1 ≤ 100000) = True from by simp, if_true, ev_ixL, hz, Option.map_some, evo, ev_intb, rng1_ok _ (show -(2 ^ 62) ≤ (z : Int) ∧ (z : Int) < 2 ^ 62 by omega), Int.toNat_natCast, hf, e4, hg, ev_mul _ (mul_r (i := f) (j := g) (by omega) (by omega))]
  · have h6 : f.natAbs < 10 ^ z := by
      have h7 : ((f.natAbs : Nat) : Int) = f := Int.natAbs_of_nonneg f0
      have h8 : ((10 ^ z : Nat) : Int) = 10 ^ z := by simp
      omega
    have h9 : (f * g).natAbs = f.natAbs := by
      rw [Int.natAbs_mul]
      rcases hg2 with rfl | rfl <;> simp
    rw [h9]
    exact Nat.lt_of_lt_of_le h6 (Nat.pow_le_pow_right (by omega) hz1)
theorem lowest_ev {a b : Int} (hb : b ≠ 0) (hs : b.natAbs < 2 ^ 8000) (st : Store) : ∃ p q : Int, m_lowest [.int a, .int b] st = .ok (.tup [.int p, .int q]) st ∧ 0 < q ∧ Int.gcd p q = 1 ∧ p * b = a * q ∧ p.natAbs ≤ a.natAbs ∧ q.natAbs ≤ b.natAbs ∧ p.natAbs * Int.gcd a b = a.natAbs ∧ q.natAbs * Int.gcd a b = b.natAbs := by
  have ab : ∀ i : Int, (if i < 0 then -i else i) = (i.natAbs : Int) := fun i => by split <;> omega
  have hg0 : 0 < Int.gcd a b := Int.gcd_pos_of_ne_zero_right a hb
  have hga : (Int.gcd a b) ∣ a.natAbs := Nat.gcd_dvd_left _ _
  have hgb : (Int.gcd a b) ∣ b.natAbs := Nat.gcd_dvd_right _ _
  have hgle : Int.gcd a b ≤ b.natAbs := Nat.le_of_dvd (by omega) hgb
  have hglog : ((Int.gcd a b : Nat) : Int).natAbs.log2 < 9000 := by
    rw [Int.natAbs_natCast]
    exact Nat.lt_of_lt_of_le (log_lt (k := 8000) (by omega) (Nat.lt_of_le_of_lt hgle hs)) (by omega)
  obtain ⟨e, s, hw, rfl, rfl⟩ := while_inv (c := eBin gtD (eVar 3) (eC (.int 0))) (b := sPar 2 3 (eVar 3) (eBin modD (eVar 2) (eVar 3)))
    (fun e s => s = st ∧ ∃ x y : Nat, e = [some (.int a), some (.int b), some (.int x), some (.int y)] ∧ Nat.gcd x y = Int.gcd a b)
    (fun e s => s = st ∧ e = [some (.int a), some (.int b), some (.int (Int.gcd a b)), some (.int 0)])
    (fun (e : F3.Env) _ => match e[3]? with | some (some (D.int y)) => y.toNat | _ => 0)
    (env := [some (.int a), some (.int b), some (.int a.natAbs), some (.int b.natAbs)]) (st := st) ⟨rfl, a.natAbs, b.natAbs, rfl, rfl⟩ (by
      rintro e s ⟨rfl, x, y, rfl, hgcd⟩
      by_cases hy : y = 0
      · subst hy
        refine .inl ⟨s, ?_, rfl, ?_⟩
        · simp only [evs, evk, evl, evo, show decide ((0 : Int) < ((0 : Nat) : Int)) = false by decide]
        · rw [Nat.gcd_zero_right] at hgcd
          rw [hgcd]
          rfl
      · have hy0 : (0 : Int) < (y : Int) := by omega
        refine .inr ⟨s, [some (.int a), some (.int b), some (.int y), some (.int (((x % y : Nat)) : Int))], s, ?_, .inl ?_, ⟨rfl, y, x % y, rfl, ?_⟩, ?_⟩
        · simp only [evs, evk, evl, evo, decide_eq_true hy0]
        · simp only [evs, evk, evl, ev_mod _ hy0, Int.natCast_emod]
        · rw [← hgcd, Nat.gcd_comm y, Nat.gcd_comm x]
          exact (Nat.gcd_rec y x).symm
        · show (((x % y : Nat) : Int)).toNat < ((y : Nat) : Int).toNat
          rw [Int.toNat_natCast, Int.toNat_natCast]
          exact Nat.mod_lt _ (by omega))
  have hg1 : (0 : Int) < (Int.gcd a b : Int) := by omega
  obtain ⟨a', ha'⟩ := hga
  obtain ⟨b', hb'⟩ := hgb
  have hcop : Nat.gcd a' b' = 1 := by
    have h1 : Int.gcd a b * Nat.gcd a' b' = Int.gcd a b * 1 := by
      rw [← Nat.gcd_mul_left, ← ha', ← hb', Nat.mul_one]
      rfl
    exact Nat.eq_of_mul_eq_mul_left hg0 h1
  have hb'0 : 0 < b' := Nat.pos_of_ne_zero (fun h => by rw [h, Nat.mul_zero] at hb'; omega)
  have dv : ∀ (x : Int) (x' : Nat) , x.natAbs = Int.gcd a b * x' → x / (Int.gcd a b : Int) = (if x < 0 then -(x' : Int) else x') := by
    intro x x' hx
    have hx2 : x = (if x < 0 then -(x' : Int) else x') * (Int.gcd a b : Int) := by
      have : ((x.natAbs : Nat) : Int) = (Int.gcd a b : Int) * x' := by rw [hx, Int.natCast_mul]
      by_cases hn : x < 0
      · rw [if_pos hn, Int.neg_mul, Int.mul_comm, ← this]
        omega
      · rw [if_neg hn, Int.mul_comm, ← this]
        omega
    rw [hx2]
    rw [Int.mul_ediv_cancel _ (by omega), ← hx2]
  have key : ∀ (a2 b2 : Int), a2.natAbs = a.natAbs → b2.natAbs = b.natAbs → 0 < b2 → a2 * b = a * b2 → ∃ p q : Int, .tup [.int (a2 / (Int.gcd a b : Int)), .int (b2 / (Int.gcd a b : Int))] = D.tup [.int p, .int q] ∧ 0 < q ∧ Int.gcd p q = 1 ∧ p * b = a * q ∧ p.natAbs ≤ a.natAbs ∧ q.natAbs ≤ b.natAbs ∧ p.natAbs * Int.gcd a b = a.natAbs ∧ q.natAbs * Int.gcd a b = b.natAbs := by
    intro a2 b2 h2 h3 h4 h5
    have e1 := dv a2 a' (h2.trans ha')
    have e2 := dv b2 b' (h3.trans hb')
    have n1 : (a2 / (Int.gcd a b : Int)).natAbs = a' := by rw [e1]; split <;> omega
    have n2 : (b2 / (Int.gcd a b : Int)).natAbs = b' := by rw [e2]; split <;> omega
    have m1 : a2 = (a2 / (Int.gcd a b : Int)) * (Int.gcd a b : Int) := by
      have : (Int.gcd a b : Int) ∣ a2 := Int.natAbs_dvd_natAbs.mp (by rw [Int.natAbs_natCast, h2]; exact ⟨a', ha'⟩)
      exact (Int.ediv_mul_cancel this).symm
    have m2 : b2 = (b2 / (Int.gcd a b : Int)) * (Int.gcd a b : Int) := by
      have : (Int.gcd a b : Int) ∣ b2 := Int.natAbs_dvd_natAbs.mp (by rw [Int.natAbs_natCast, h3]; exact ⟨b', hb'⟩)
      exact (Int.ediv_mul_cancel this).symm
    refine ⟨_, _, rfl, ?_, ?_, ?_, ?_, ?_, ?_, ?_⟩
    · rw [e2, if_neg (by omega)]; omega
    · show Nat.gcd _ _ = 1
      rw [n1, n2, hcop]
    · generalize a2 / (Int.gcd a b : Int) = p at m1 ⊢
      generalize b2 / (Int.gcd a b : Int) = q at m2 ⊢
      rw [m1, m2] at h5
      have : (p * b) * (Int.gcd a b : Int) = (a * q) * (Int.gcd a b : Int) := by
        rw [Int.mul_assoc, Int.mul_comm b, ← Int.mul_assoc, h5, Int.mul_assoc]
      exact Int.eq_of_mul_eq_mul_right (by omega) this
    · rw [n1, ha']; exact Nat.le_mul_of_pos_left _ hg0
    · rw [n2, hb']; exact Nat.le_mul_of_pos_left _ hg0
    · rw [n1, ha', Nat.mul_comm]
    · rw [n2, hb', Nat.mul_comm]
  by_cases hneg : b < 0
  · obtain ⟨p, q, he, hr⟩ := key (0 - a) (0 - b) (by omega) (by omega) (by omega) (by rw [Int.zero_sub, Int.zero_sub, Int.neg_mul, Int.mul_neg])
    refine ⟨p, q, ?_, hr⟩
    simp only [m_lowest, b_lowest, evs, evk, evl, evu, ab, hw, evo, decide_eq_true hneg, ev_div _ hg1 hglog, List.length_cons, List.length_nil, show (0 + 1 + 1 ≤ 100000) = True from by simp, if_true]
    rw [← he]
  · obtain ⟨p, q, he, hr⟩ := key a b rfl rfl (by omega) rfl
    refine ⟨p, q, ?_, hr⟩
    simp only [m_lowest, b_lowest, evs, evk, evl, evu, ab, hw, evo, decide_eq_false hneg, ev_div _ hg1 hglog, List.length_cons, List.length_nil, show (0 + 1 + 1 ≤ 100000) = True from by simp, if_true]
    rw [← he]
theorem plus_eq {a b c d : Int} (ha : a.natAbs < 2 ^ 400000) (hb : b.natAbs < 2 ^ 400000) (hc : c.natAbs < 2 ^ 400000) (hd : d.natAbs < 2 ^ 400000) (st : Store) :
    m_plus [.tup [.int a, .int b], .tup [.int c, .int d]] st = m_lowest [.int (a * d + c * b), .int (b * d)] st := by
  have h : ∀ (r : Res D) (e : F3.Env), fnF (ofR r e fun d s => .rt d s) = r := fun r e => by cases r <;> rfl
  simp only [m_plus, b_plus, evs, evk, evl, evo, ev_ixT, show ∀ x y : D, ixAt [x, y] 0 = some x from fun _ _ => rfl, show ∀ x y : D, ixAt [x, y] 1 = some y from fun _ _ => rfl, Option.map_some, ev_mul _ (mul_log ha hd), ev_mul _ (mul_log hc hb), ev_mul _ (mul_log hb hd), h]
theorem low_ev {a b : Int} (hb : b ≠ 0) (hs : b.natAbs < 2 ^ 8000) (st : Store) : m_lowest [.int a, .int b] st = .ok (shD (Rat.divInt a b)) st := by
  obtain ⟨p, q, e, q0, hg, hc, -⟩ := lowest_ev (a := a) hb hs st
  rw [e, low_rat hb q0 hg hc]
theorem plus_rat {n m : Nat} {x y : Rat} (hx : Sz n x) (hy : Sz m y) (h : n + m ≤ 8000) (st : Store) : m_plus [shD x, shD y] st = .ok (shD (x + y)) st := by
  show m_plus [.tup [.int x.num, .int x.den], .tup [.int y.num, .int y.den]] st = _
  rw [plus_eq (up_pow hx.nu (by omega)) (up_pow hx.den (by omega)) (up_pow hy.nu (by omega)) (up_pow hy.den (by omega)), low_ev (Int.mul_ne_zero (den_ne x) (den_ne y)) (up_pow (abs_mul_lt hx.den hy.den) h), add_divInt]
theorem minus_rat {n m : Nat} {x y : Rat} (hx : Sz n x) (hy : Sz m y) (h : n + m ≤ 8000) (st : Store) : m_minus [shD x, shD y] st = .ok (shD (x - y)) st := by
  have hh : ∀ (r : Res D) (e : F3.Env), fnF (ofR r e fun d s => .rt d s) = r := fun r e => by cases r <;> rfl
  show m_minus [.tup [.int x.num, .int x.den], .tup [.int y.num, .int y.den]] st = _
  simp only [m_minus, b_minus, evs, evk, evl, evo, ev_ixT, show ∀ x y : D, ixAt [x, y] 0 = some x from fun _ _ => rfl, show ∀ x y : D, ixAt [x, y] 1 = some y from fun _ _ => rfl, Option.map_some, ev_mul _ (mul_log (up_pow hx.nu (show n ≤ 400000 by omega)) (up_pow hy.den (show m ≤ 400000 by omega))), ev_mul _ (mul_log (up_pow hy.nu (show m ≤ 400000 by omega)) (up_pow hx.den (show n ≤ 400000 by omega))), ev_mul _ (mul_log (up_pow hx.den (show n ≤ 400000 by omega)) (up_pow hy.den (show m ≤ 400000 by omega))), hh]
  rw [low_ev (Int.mul_ne_zero (den_ne x) (den_ne y)) (up_pow (abs_mul_lt hx.den hy.den) h), sub_divInt]
theorem times_rat {n m : Nat} {x y : Rat} (hx : Sz n x) (hy : Sz m y) (h : n + m ≤ 8000) (st : Store) : m_times [shD x, shD y] st = .ok (shD (x * y)) st := by
  have hh : ∀ (r : Res D) (e : F3.Env), fnF (ofR r e fun d s => .rt d s) = r := fun r e => by cases r <;> rfl
  show m_times [.tup [.int x.num, .int x.den], .tup [.int y.num, .int y.den]] st = _
  simp only [m_times, b_times, evs, evk, evl, evo, ev_ixT, show ∀ x y : D, ixAt [x, y] 0 = some x from fun _ _ => rfl, show ∀ x y : D, ixAt [x, y] 1 = some y from fun _ _ => rfl, Option.map_some, ev_mul _ (mul_log (up_pow hx.nu (show n ≤ 400000 by omega)) (up_pow hy.nu (show m ≤ 400000 by omega))), ev_mul _ (mul_log (up_pow hx.den (show n ≤ 400000 by omega)) (up_pow hy.den (show m ≤ 400000 by omega))), hh]
  rw [low_ev (Int.mul_ne_zero (den_ne x) (den_ne y)) (up_pow (abs_mul_lt hx.den hy.den) h), mul_divInt]
theorem over_rat {n m : Nat} {x y : Rat} (hx : Sz n x) (hy : Sz m y) (h : n + m ≤ 8000) (h0 : y ≠ 0) (st : Store) : m_over [shD x, shD y] st = .ok (shD (x / y)) st := by
  have hh : ∀ (r : Res D) (e : F3.Env), fnF (ofR r e fun d s => .rt d s) = r := fun r e => by cases r <;> rfl
  show m_over [.tup [.int x.num, .int x.den], .tup [.int y.num, .int y.den]] st = _
  simp only [m_over, b_over, evs, evk, evl, evo, ev_ixT, show ∀ x y : D, ixAt [x, y] 0 = some x from fun _ _ => rfl, show ∀ x y : D, ixAt [x, y] 1 = some y from fun _ _ => rfl, Option.map_some, decide_eq_false (num_ne h0), ev_mul _ (mul_log (up_pow hx.nu (show n ≤ 400000 by omega)) (up_pow hy.den (show m ≤ 400000 by omega))), ev_mul _ (mul_log (up_pow hx.den (show n ≤ 400000 by omega)) (up_pow hy.nu (show m ≤ 400000 by omega))), hh]
  rw [low_ev (Int.mul_ne_zero (den_ne x) (num_ne h0)) (up_pow (abs_mul_lt hx.den hy.nu) h), div_divInt]
theorem less_rat {n m : Nat} {x y : Rat} (hx : Sz n x) (hy : Sz m y) (h : n + m ≤ 8000) (st : Store) : m_less [shD x, shD y] st = .ok (.bl (decide (x < y))) st := by
  have hl : decide (x < y) = decide (x.num * y.den < y.num * x.den) := decide_eq_decide.mpr (Rat.lt_iff x y)
  show m_less [.tup [.int x.num, .int x.den], .tup [.int y.num, .int y.den]] st = _
  simp only [m_less, b_less, evs, evk, evl, evo, ev_ixT, show ∀ x y : D, ixAt [x, y] 0 = some x from fun _ _ => rfl, show ∀ x y : D, ixAt [x, y] 1 = some y from fun _ _ => rfl, Option.map_some, ev_mul _ (mul_log (up_pow hx.nu (show n ≤ 400000 by omega)) (up_pow hy.den (show m ≤ 400000 by omega))), ev_mul _ (mul_log (up_pow hy.nu (show m ≤ 400000 by omega)) (up_pow hx.den (show n ≤ 400000 by omega))), hl]
/-- the sum of a list -/
def tot (xs : List Rat) : Rat := xs.foldr (· + ·) 0
theorem tot_cons (x : Rat) (xs : List Rat) : tot (x :: xs) = x + tot xs := rfl
theorem tot_app : ∀ (xs ys : List Rat), tot (xs ++ ys) = tot xs + tot ys
  | [], ys => by
    show tot ys = 0 + tot ys
    grind
  | x :: xs, ys => by
    show x + tot (xs ++ ys) = (x + tot xs) + tot ys
    rw [tot_app xs ys]
    grind
theorem tot_perm {xs ys : List Rat} (h : xs.Perm ys) : tot xs = tot ys := by
  induction h with
  | nil => rfl
  | cons x _ ih => rw [tot_cons, tot_cons, ih]
  | swap x y l => rw [tot_cons, tot_cons, tot_cons, tot_cons]; grind
  | trans _ _ h1 h2 => rw [h1, h2]
theorem tot_rev (xs : List Rat) : tot xs.reverse = tot xs := tot_perm (List.reverse_perm xs)
theorem tot_one (x : Rat) : tot [x] = x := by
  show x + 0 = x
  grind
theorem Sz.tot {m : Nat} : ∀ {xs : List Rat}, (∀ x ∈ xs, Sz m x) → Sz (1 + xs.length * (m + 1)) (tot xs)
  | [], _ => Sz.zero.mono (by simp)
  | x :: xs, h => ((h x List.mem_cons_self).add (Sz.tot fun y hy => h y (List.mem_cons_of_mem _ hy))).mono (by
    rw [List.length_cons, Nat.succ_mul]
    omega)
theorem total_rat {d : D} {w : Wlk} {xs : List Rat} {s : Rat} {n m : Nat} {st : Store} (hw : lstI d st = .ok w st) (h2 : w.2 = xs.map shD) (hg : Gd w st) (hs : Sz n s) (hx : ∀ x ∈ xs, Sz m x) (hb : n + m + xs.length * (m + 1) ≤ 7000) :
    m_total [d, shD s] st = .ok (shD (s + tot xs)) st := by
  obtain ⟨e, s', hf, rfl, o, rfl⟩ := forW_inv (w := w) (g := tNm 3) (b := sSet 2 (eCall m_plus (fun ds _ => ds) (aCons (eVar 2) (aCons (eVar 3) (aNil))) (aNil)))
    (fun i e s' => s' = st ∧ ∃ o, e = [some d, some (shD s), some (shD (s + tot (xs.take i))), o]) (ds := w.2) (env := [some d, some (shD s), some (shD s), none]) (st := st)
    (fun i e s' h => h.1 ▸ hg) ⟨rfl, none, by
      have : s + tot (xs.take 0) = s := by
        show s + 0 = s
        grind
      rw [this]⟩ (by
      rintro i dd e s' hd ⟨rfl, o, rfl⟩
      rw [h2, List.getElem?_map] at hd
      cases hi : xs[i]? with
      | none => rw [hi] at hd; cases hd
      | some x =>
        rw [hi] at hd
        cases hd
        obtain ⟨hlt, hxi⟩ := List.getElem?_eq_some_iff.mp hi
        have hsz : Sz (n + (1 + (xs.take i).length * (m + 1)) + 1) (s + tot (xs.take i)) := hs.add (Sz.tot fun y hy => hx y (List.mem_of_mem_take hy))
        have hlen : (xs.take i).length * (m + 1) + (m + 1) ≤ xs.length * (m + 1) := by
          rw [← Nat.succ_mul]
          refine Nat.mul_le_mul_right _ ?_
          rw [List.length_take]
          omega
        have key : s + tot (xs.take i) + x = s + tot (xs.take (i + 1)) := by
          rw [List.take_succ_eq_append_getElem hlt, tot_app, hxi, tot_one]
          grind
        refine ⟨_, _, [some d, some (shD s), some (shD (s + tot (xs.take (i + 1)))), some (shD x)], s', rfl, .inl ?_, rfl, _, rfl⟩
        simp only [evs, evk, evl, plus_rat hsz (hx x (List.mem_of_getElem? hi)) (by omega), key])
  simp only [m_total, b_total, evs, evk, evl, hw, forF_all, hf]
  have : w.2.length = xs.length := by rw [h2, List.length_map]
  rw [this, List.take_length]
theorem total_lst {xs : List Rat} {s : Rat} {n m : Nat} (hs : Sz n s) (hx : ∀ x ∈ xs, Sz m x) (hb : n + m + xs.length * (m + 1) ≤ 7000) (st : Store) :
    m_total [.lst (xs.map shD), shD s] st = .ok (shD (s + tot xs)) st := total_rat rfl rfl trivial hs hx hb
def minR (x : Rat) (xs : List Rat) : Rat := xs.foldl (fun f x => if x < f then x else f) x
theorem minR_spec (x : Rat) (xs : List Rat) : minR x xs ∈ x :: xs ∧ ∀ y ∈ x :: xs, minR x xs ≤ y := by
  induction xs generalizing x with
  | nil => exact ⟨List.mem_cons_self, fun y hy => by rw [List.mem_singleton.mp hy]; exact Rat.le_refl⟩
  | cons z zs ih =>
    show minR (if z < x then z else x) zs ∈ _ ∧ ∀ y ∈ _, minR (if z < x then z else x) zs ≤ y
    by_cases h : z < x
    · rw [if_pos h]
      obtain ⟨h1, h2⟩ := ih z
      refine ⟨List.mem_cons_of_mem _ h1, fun y hy => ?_⟩
      rcases List.mem_cons.mp hy with rfl | hy
      · have := h2 z List.mem_cons_self
        grind
      · exact h2 y hy
    · rw [if_neg h]
      obtain ⟨h1, h2⟩ := ih x
      refine ⟨?_, fun y hy => ?_⟩
      · rcases List.mem_cons.mp h1 with h1 | h1
        · rw [h1]; exact List.mem_cons_self
        · exact List.mem_cons_of_mem _ (List.mem_cons_of_mem _ h1)
      · rcases List.mem_cons.mp hy with rfl | hy
        · exact h2 y List.mem_cons_self
        · rcases List.mem_cons.mp hy with rfl | hy
          · have := h2 x List.mem_cons_self
            grind
          · exact h2 y (List.mem_cons_of_mem _ hy)
theorem least_nil (d : D) (st : Store) : m_least [.lst [], d] st = .ok d st := by
  simp only [m_least, b_least, evs, evk, evl, evf, show ∀ fa env st, iEnu fa env st = (fa env st).bind (fun ds s => match ds with | [d] => enuI d s | _ => .stuck) from fun _ _ _ => rfl, show ∀ s, enuI (.lst []) s = .ok (none, []) s from fun _ => rfl]
theorem least_rat {x : Rat} {xs : List Rat} {m : Nat} (hx : ∀ y ∈ x :: xs, Sz m y) (hm : m ≤ 4000) (d : D) (st : Store) : m_least [.lst ((x :: xs).map shD), d] st = .ok (shD (minR x xs)) st := by
  have hsz : ∀ i, Sz m (minR x (xs.take i)) := fun i => hx _ (by
    rcases List.mem_cons.mp (minR_spec x (xs.take i)).1 with h | h
    · rw [h]; exact List.mem_cons_self
    · exact List.mem_cons_of_mem _ (List.mem_of_mem_take h))
  obtain ⟨e, s', hf, -, rfl, hE⟩ := for_inv (g := tTu 2 (tCons' (tNm 3) (tCons' (tNm 4) (tNil')))) (b := sIf (eOr (eBin eqD (eVar 3) (eC (.int 0))) (eCall m_less (fun ds _ => ds) (aCons (eVar 4) (aCons (eVar 2) (aNil))) (aNil))) (sSet 2 (eVar 4)) (sNext))
    (fun i e s' => i ≤ xs.length + 1 ∧ s' = st ∧ ((i = 0 ∧ e = [some (.lst ((x :: xs).map shD)), some d, some d, none, none]) ∨ ∃ j o1 o2, i = j + 1 ∧ e = [some (.lst ((x :: xs).map shD)), some d, some (shD (minR x (xs.take j))), o1, o2]))
    (ds := enumD ((x :: xs).map shD)) (env := [some (.lst ((x :: xs).map shD)), some d, some d, none, none]) (st := st) ⟨by omega, rfl, .inl ⟨rfl, rfl⟩⟩ (by
      rintro i dd e s' hd ⟨-, rfl, hE⟩
      obtain ⟨y, hy, rfl⟩ := enumD_get hd
      rw [List.getElem?_map] at hy
      rcases hE with ⟨rfl, rfl⟩ | ⟨j, o1, o2, rfl, rfl⟩
      · cases hy
        refine ⟨_, _, [some (.lst ((x :: xs).map shD)), some d, some (shD x), some (.int ((0 : Nat) : Int)), some (shD x)], s', rfl, .inl ?_, by omega, rfl, .inr ⟨0, _, _, rfl, rfl⟩⟩
        simp only [evs, evk, evl, evo, show decide (((0 : Nat) : Int) = 0) = true by decide]
      · rw [List.getElem?_cons_succ] at hy
        cases hj : xs[j]? with
        | none => rw [hj] at hy; cases hy
        | some z =>
          rw [hj] at hy
          cases hy
          obtain ⟨hlt, hz⟩ := List.getElem?_eq_some_iff.mp hj
          have hn : ¬ (((j + 1 : Nat)) : Int) = 0 := by omega
          have key : minR x (xs.take (j + 1)) = if z < minR x (xs.take j) then z else minR x (xs.take j) := by
            rw [List.take_succ_eq_append_getElem hlt, hz]
            unfold minR
            rw [List.foldl_append]
            rfl
          refine ⟨_, _, [some (.lst ((x :: xs).map shD)), some d, some (shD (minR x (xs.take (j + 1)))), some (.int ((j + 1 : Nat) : Int)), some (shD z)], s', rfl, .inl ?_, by omega, rfl, .inr ⟨j + 1, _, _, rfl, rfl⟩⟩
          rw [key]
          by_cases hl : z < minR x (xs.take j)
          · simp only [evs, evk, evl, evo, decide_eq_false hn, less_rat (hx z (List.mem_cons_of_mem _ (List.mem_of_getElem? hj))) (hsz j) (by omega), decide_eq_true hl, if_pos hl]
          · simp only [evs, evk, evl, evo, decide_eq_false hn, less_rat (hx z (List.mem_cons_of_mem _ (List.mem_of_getElem? hj))) (hsz j) (by omega), decide_eq_false hl, if_neg hl])
  rw [enumD_len, List.length_map, List.length_cons] at hE
  rcases hE with ⟨h0, -⟩ | ⟨j, o1, o2, hj, rfl⟩
  · omega
  · have : j = xs.length := by omega
    subst this
    rw [List.take_length] at hf
    simp only [m_least, b_least, evs, evk, evl, show ∀ fa env st, iEnu fa env st = (fa env st).bind (fun ds s => match ds with | [d] => enuI d s | _ => .stuck) from fun _ _ _ => rfl, show ∀ ds s, enuI (.lst ds) s = .ok (none, enumD ds) s from fun _ _ => rfl, hf]
def maxR (x : Rat) (xs : List Rat) : Rat := xs.foldl (fun f x => if f < x then x else f) x
theorem maxR_spec (x : Rat) (xs : List Rat) : maxR x xs ∈ x :: xs ∧ ∀ y ∈ x :: xs, y ≤ maxR x xs := by
  induction xs generalizing x with
  | nil => exact ⟨List.mem_cons_self, fun y hy => by rw [List.mem_singleton.mp hy]; exact Rat.le_refl⟩
  | cons z zs ih =>
    show maxR (if x < z then z else x) zs ∈ _ ∧ ∀ y ∈ _, y ≤ maxR (if x < z then z else x) zs
    by_cases h : x < z
    · rw [if_pos h]
      obtain ⟨h1, h2⟩ := ih z
      refine ⟨List.mem_cons_of_mem _ h1, fun y hy => ?_⟩
      rcases List.mem_cons.mp hy with rfl | hy
      · have := h2 z List.mem_cons_self
        grind
      · exact h2 y hy
    · rw [if_neg h]
      obtain ⟨h1, h2⟩ := ih x
      refine ⟨?_, fun y hy => ?_⟩
      · rcases List.mem_cons.mp h1 with h1 | h1
        · rw [h1]; exact List.mem_cons_self
        · exact List.mem_cons_of_mem _ (List.mem_cons_of_mem _ h1)
      · rcases List.mem_cons.mp hy with rfl | hy
        · exact h2 y List.mem_cons_self
        · rcases List.mem_cons.mp hy with rfl | hy
          · have := h2 x List.mem_cons_self
            grind
          · exact h2 y (List.mem_cons_of_mem _ hy)
theorem greatest_nil (d : D) (st : Store) : m_greatest [.lst [], d] st = .ok d st := by
  simp only [m_greatest, b_greatest, evs, evk, evl, evf, show ∀ fa env st, iEnu fa env st = (fa env st).bind (fun ds s => match ds with | [d] => enuI d s | _ => .stuck) from fun _ _ _ => rfl, show ∀ s, enuI (.lst []) s = .ok (none, []) s from fun _ => rfl]
theorem greatest_rat {x : Rat} {xs : List Rat} {m : Nat} (hx : ∀ y ∈ x :: xs, Sz m y) (hm : m ≤ 4000) (d : D) (st : Store) : m_greatest [.lst ((x :: xs).map shD), d] st = .ok (shD (maxR x xs)) st := by
  have hsz : ∀ i, Sz m (maxR x (xs.take i)) := fun i => hx _ (by
    rcases List.mem_cons.mp (maxR_spec x (xs.take i)).1 with h | h
    · rw [h]; exact List.mem_cons_self
    · exact List.mem_cons_of_mem _ (List.mem_of_mem_take h))
  obtain ⟨e, s', hf, -, rfl, hE⟩ := for_inv (g := tTu 2 (tCons' (tNm 3) (tCons' (tNm 4) (tNil')))) (b := sIf (eOr (eBin eqD (eVar 3) (eC (.int 0))) (eCall m_less (fun ds _ => ds) (aCons (eVar 2) (aCons (eVar 4) (aNil))) (aNil))) (sSet 2 (eVar 4)) (sNext))
    (fun i e s' => i ≤ xs.length + 1 ∧ s' = st ∧ ((i = 0 ∧ e = [some (.lst ((x :: xs).map shD)), some d, some d, none, none]) ∨ ∃ j o1 o2, i = j + 1 ∧ e = [some (.lst ((x :: xs).map shD)), some d, some (shD (maxR x (xs.take j))), o1, o2]))
    (ds := enumD ((x :: xs).map shD)) (env := [some (.lst ((x :: xs).map shD)), some d, some d, none, none]) (st := st) ⟨by omega, rfl, .inl ⟨rfl, rfl⟩⟩ (by
      rintro i dd e s' hd ⟨-, rfl, hE⟩
      obtain ⟨y, hy, rfl⟩ := enumD_get hd
      rw [List.getElem?_map] at hy
      rcases hE with ⟨rfl, rfl⟩ | ⟨j, o1, o2, rfl, rfl⟩
      · cases hy
        refine ⟨_, _, [some (.lst ((x :: xs).map shD)), some d, some (shD x), some (.int ((0 : Nat) : Int)), some (shD x)], s', rfl, .inl ?_, by omega, rfl, .inr ⟨0, _, _, rfl, rfl⟩⟩
        simp only [evs, evk, evl, evo, show decide (((0 : Nat) : Int) = 0) = true by decide]
      · rw [List.getElem?_cons_succ] at hy
        cases hj : xs[j]? with
        | none => rw [hj] at hy; cases hy
        | some z =>
          rw [hj] at hy
          cases hy
          obtain ⟨hlt, hz⟩ := List.getElem?_eq_some_iff.mp hj
          have hn : ¬ (((j + 1 : Nat)) : Int) = 0 := by omega
          have key : maxR x (xs.take (j + 1)) = if maxR x (xs.take j) < z then z else maxR x (xs.take j) := by
            rw [List.take_succ_eq_append_getElem hlt, hz]
            unfold maxR
            rw [List.foldl_append]
            rfl
          refine ⟨_, _, [some (.lst ((x :: xs).map shD)), some d, some (shD (maxR x (xs.take (j + 1)))), some (.int ((j + 1 : Nat) : Int)), some (shD z)], s', rfl, .inl ?_, by omega, rfl, .inr ⟨j + 1, _, _, rfl, rfl⟩⟩
          rw [key]
          by_cases hl : maxR x (xs.take j) < z
          · simp only [evs, evk, evl, evo, decide_eq_false hn, less_rat (hsz j) (hx z (List.mem_cons_of_mem _ (List.mem_of_getElem? hj))) (by omega), decide_eq_true hl, if_pos hl]
          · simp only [evs, evk, evl, evo, decide_eq_false hn, less_rat (hsz j) (hx z (List.mem_cons_of_mem _ (List.mem_of_getElem? hj))) (by omega), decide_eq_false hl, if_neg hl])
  rw [enumD_len, List.length_map, List.length_cons] at hE
  rcases hE with ⟨h0, -⟩ | ⟨j, o1, o2, hj, rfl⟩
  · omega
  · have : j = xs.length := by omega
    subst this
    rw [List.take_length] at hf
    simp only [m_greatest, b_greatest, evs, evk, evl, show ∀ fa env st, iEnu fa env st = (fa env st).bind (fun ds s => match ds with | [d] => enuI d s | _ => .stuck) from fun _ _ _ => rfl, show ∀ ds s, enuI (.lst ds) s = .ok (none, enumD ds) s from fun _ _ => rfl, hf]
theorem low_key {a b a2 : Int} (hb : b ≠ 0) (h1 : a2.natAbs = a.natAbs) (h2 : a2 * b = a * (b.natAbs : Int)) : shD (Rat.divInt a b) = .tup [.int (a2 / (Int.gcd a b : Int)), .int ((b.natAbs : Int) / (Int.gcd a b : Int))] := by
  have hn : b.natAbs ≠ 0 := by omega
  have e : Rat.divInt a b = Rat.divInt a2 (b.natAbs : Int) := (Rat.divInt_eq_divInt_iff hb (by omega)).mpr h2.symm
  have e2 : Rat.divInt a2 (b.natAbs : Int) = Rat.normalize a2 b.natAbs hn := by
    show mkRat a2 b.natAbs = _
    unfold mkRat
    rw [dif_neg hn]
  have hg : Int.gcd a b = a2.natAbs.gcd b.natAbs := by
    rw [h1]
    rfl
  rw [e, e2, Rat.normalize_eq, hg]
  unfold shD
  rw [Int.natCast_ediv]
theorem low2_ev {a b : Int} (hb : b ≠ 0) (hs : b.natAbs < 2 ^ 8000) (st : Store) : m__law_low [.int a, .int b] st = .ok (shD (Rat.divInt a b)) st := by
  have ab : ∀ i : Int, (if i < 0 then -i else i) = (i.natAbs : Int) := fun i => by split <;> omega
  have hg0 : 0 < Int.gcd a b := Int.gcd_pos_of_ne_zero_right a hb
  have hgle : Int.gcd a b ≤ b.natAbs := Nat.le_of_dvd (by omega) (Nat.gcd_dvd_right _ _)
  have hglog : ((Int.gcd a b : Nat) : Int).natAbs.log2 < 9000 := by
    rw [Int.natAbs_natCast]
    exact Nat.lt_of_lt_of_le (log_lt (k := 8000) (by omega) (Nat.lt_of_le_of_lt hgle hs)) (by omega)
  have hg1 : (0 : Int) < (Int.gcd a b : Int) := by omega
  obtain ⟨e, s, hw, rfl, rfl⟩ := while_inv (c := eBin gtD (eVar 3) (eC (.int 0))) (b := sPar 2 3 (eVar 3) (eBin modD (eVar 2) (eVar 3)))
    (fun e s => s = st ∧ ∃ x y : Nat, e = [some (.int a), some (.int b), some (.int x), some (.int y), none] ∧ Nat.gcd x y = Int.gcd a b)
    (fun e s => s = st ∧ e = [some (.int a), some (.int b), some (.int (Int.gcd a b)), some (.int 0), none])
    (fun (e : F3.Env) _ => match e[3]? with | some (some (D.int y)) => y.toNat | _ => 0)
    (env := [some (.int a), some (.int b), some (.int a.natAbs), some (.int b.natAbs), none]) (st := st) ⟨rfl, a.natAbs, b.natAbs, rfl, rfl⟩ (by
      rintro e s ⟨rfl, x, y, rfl, hgcd⟩
      by_cases hy : y = 0
      · subst hy
        refine .inl ⟨s, ?_, rfl, ?_⟩
        · simp only [evs, evk, evl, evo, show decide ((0 : Int) < ((0 : Nat) : Int)) = false by decide]
        · rw [Nat.gcd_zero_right] at hgcd
          rw [hgcd]
          rfl
      · have hy0 : (0 : Int) < (y : Int) := by omega
        refine .inr ⟨s, [some (.int a), some (.int b), some (.int y), some (.int (((x % y : Nat)) : Int)), none], s, ?_, .inl ?_, ⟨rfl, y, x % y, rfl, ?_⟩, ?_⟩
        · simp only [evs, evk, evl, evo, decide_eq_true hy0]
        · simp only [evs, evk, evl, ev_mod _ hy0, Int.natCast_emod]
        · rw [← hgcd, Nat.gcd_comm y, Nat.gcd_comm x]
          exact (Nat.gcd_rec y x).symm
        · show (((x % y : Nat) : Int)).toNat < ((y : Nat) : Int).toNat
          rw [Int.toNat_natCast, Int.toNat_natCast]
          exact Nat.mod_lt _ (by omega))
  have hsg : ∃ g : Int, ixAt [D.int 1, D.int (-1)] (if decide (b < 0) then 1 else 0) = some (.int g) ∧ (g = 1 ∨ g = -1) ∧ g * b = (b.natAbs : Int) := by
    by_cases hn : b < 0
    · rw [decide_eq_true hn]
      exact ⟨-1, rfl, .inr rfl, by omega⟩
    · rw [decide_eq_false hn]
      exact ⟨1, rfl, .inl rfl, by omega⟩
  obtain ⟨g, hg, hg2, hgb⟩ := hsg
  have key := low_key (a := a) (a2 := g * a) hb (by
    rw [Int.natAbs_mul]
    rcases hg2 with rfl | rfl <;> simp) (by rw [Int.mul_comm g a, Int.mul_assoc, hgb])
  rw [key]
  simp only [m__law_low, b__law_low, evs, evk, evl, evu, evo, ev_intb, ab, hw, evn, if_true, ev_ixL, hg, Option.map_some, ev_mul _ (mul_l (i := g) (j := a) (by omega) (by omega)), ev_div _ hg1 hglog]
theorem p60 : (10 : Nat) ^ 60 < 2 ^ 200 := by decide +kernel
theorem ls_ev {st : Store} {c : Nat} (h : Pool st c) : ∃ x st', m__law_share [.ref c] st = .ok (shD x) st' ∧ Sz 200 x ∧ Psx st c st' := by
  obtain ⟨u, s1, e1, h1, p1⟩ := number_ev h
  obtain ⟨t, s2, e2, h2, p2⟩ := number_ev p1.pool
  obtain ⟨w, hw⟩ : ∃ w : Int, w = u + (if decide (u = 0) = true then 1 else 0) := ⟨_, rfl⟩
  have hw0 : w ≠ 0 ∧ w.natAbs ≤ 10 ^ 60 := by
    by_cases h0 : u = 0
    · rw [decide_eq_true h0] at hw
      simp at hw
      omega
    · rw [decide_eq_false h0] at hw
      simp at hw
      omega
  have b60 := p60
  have hws : w.natAbs < 2 ^ 200 := by omega
  refine ⟨Rat.divInt t w, s2, ?_, Sz.of_divInt hw0.1 (by omega) hws, p1.trans p2⟩
  have hh : ∀ (r : Res D) (e : F3.Env), fnF (ofR r e fun d s => .rt d s) = r := fun r e => by cases r <;> rfl
  simp only [m__law_share, b__law_share, evs, evk, evl, evo, ev_intb, e1, e2, ← hw, low2_ev hw0.1 (up_pow hws (show 200 ≤ 8000 by omega)), hh]
theorem over0_ev {x : Rat} (st : Store) : m_over [shD x, shD 0] st = .exn "ByNought" [] st := by
  show m_over [.tup [.int x.num, .int x.den], .tup [.int 0, .int 1]] st = _
  simp only [m_over, b_over, evs, evt, evk, evl, evo, ev_ixT, show ∀ x y : D, ixAt [x, y] 0 = some x from fun _ _ => rfl, Option.map_some, decide_true]
theorem nought_ev {x : Rat} (st : Store) : m__law_over_nought [shD x] st = .ok (.bl true) st := by
  simp only [m__law_over_nought, b__law_over_nought, evs, evt, evk, evl, show c_NOUGHT = shD 0 from rfl, over0_ev, show clause CS tb_ByNought "ByNought" = some true by decide, show ∀ s, isxD CS tb_ZeroDivisionError (.exc "ByNought" []) s = some (.bl true, s) from fun _ => rfl]
theorem sum_ev {xs : List Rat} (hx : ∀ x ∈ xs, Sz 200 x) (hl : xs.length ≤ 20) (st : Store) : m__law_sum [.lst (xs.map shD)] st = .ok (shD (tot xs)) st := by
  have szt : ∀ i, Sz 4100 (tot (xs.take i)) := fun i => (Sz.tot (m := 200) fun y hy => hx y (List.mem_of_mem_take hy)).mono (by
    have : (xs.take i).length ≤ 20 := by rw [List.length_take]; omega
    omega)
  obtain ⟨e, s', hf, rfl, o2, o3, rfl⟩ := for_inv (g := tTu 2 (tCons' (tNm 2) (tCons' (tNm 3) (tNil')))) (b := sSet 1 (eCall m__law_low (fun ds _ => ds) (aCons (eBin addD (eBin mulD (eBin ixD (eVar 1) (eC (.int 0))) (eVar 3)) (eBin mulD (eVar 2) (eBin ixD (eVar 1) (eC (.int 1))))) (aCons (eBin mulD (eBin ixD (eVar 1) (eC (.int 1))) (eVar 3)) (aNil))) (aNil)))
    (fun i e s' => s' = st ∧ ∃ o2 o3, e = [some (.lst (xs.map shD)), some (shD (tot (xs.take i))), o2, o3]) (ds := xs.map shD) (env := [some (.lst (xs.map shD)), some (shD 0), none, none]) (st := st) ⟨rfl, none, none, rfl⟩ (by
      rintro i dd e s' hd ⟨rfl, o2, o3, rfl⟩
      rw [List.getElem?_map] at hd
      cases hi : xs[i]? with
      | none => rw [hi] at hd; cases hd
      | some x =>
        rw [hi] at hd
        cases hd
        obtain ⟨hlt, hxi⟩ := List.getElem?_eq_some_iff.mp hi
        have hxs := hx x (List.mem_of_getElem? hi)
        have hs := szt i
        refine ⟨[some (.lst (xs.map shD)), some (shD (tot (xs.take i))), some (.int x.num), some (.int x.den)], s', [some (.lst (xs.map shD)), some (shD (tot (xs.take (i + 1)))), some (.int x.num), some (.int x.den)], s', rfl, .inl ?_, rfl, _, _, rfl⟩
        have key : Rat.divInt ((tot (xs.take i)).num * x.den + x.num * (tot (xs.take i)).den) ((tot (xs.take i)).den * x.den) = tot (xs.take (i + 1)) := by
          rw [add_divInt, List.take_succ_eq_append_getElem hlt, tot_app, hxi, tot_one]
        simp only [evs, evk, evl, shD_0, shD_1, ev_mul _ (mul_log (up_pow hs.nu (show 4100 ≤ 400000 by omega)) (up_pow hxs.den (show 200 ≤ 400000 by omega))), ev_mul _ (mul_log (up_pow hxs.nu (show 200 ≤ 400000 by omega)) (up_pow hs.den (show 4100 ≤ 400000 by omega))), ev_mul _ (mul_log (up_pow hs.den (show 4100 ≤ 400000 by omega)) (up_pow hxs.den (show 200 ≤ 400000 by omega))), evo, low2_ev (Int.mul_ne_zero (den_ne (tot (xs.take i))) (den_ne x)) (up_pow (abs_mul_lt hs.den hxs.den) (show 4100 + 200 ≤ 8000 by omega)), key])
  rw [List.length_map, List.take_length] at hf
  simp only [m__law_sum, b__law_sum, evs, evk, evl, evn, if_true, shD_00, hf]
theorem two_ev {x y : Rat} (hx : Sz 200 x) (hy : Sz 200 y) (st : Store) : m__law_two_right [shD x, shD y] st = .ok (.bl true) st := by
  have e1 := add_divInt x y
  have e2 := sub_divInt x y
  have e3 := mul_divInt x y
  have e4 := div_divInt x y
  have up : ∀ {z : Rat}, Sz 401 z → Sz 1900 z := fun h => h.mono (by omega)
  obtain ⟨pl, hpl⟩ := shw_shs (xs := [x + y, x - y, x * y]) st (fun z hz => by
    simp only [List.mem_cons, List.not_mem_nil, or_false] at hz
    rcases hz with rfl | rfl | rfl
    · exact up (hx.add hy)
    · exact up (hx.sub hy)
    · exact up ((hx.mul hy).mono (by omega))) (by simp)
  have hr := reprD_ok hpl (by omega)
  have hrb : ∀ b : Bool, reprD [.bl b] st = some (.str (PyData.bool b).shown, st) := fun b => reprD_ok (n := 1) ⟨rfl, rfl, rfl, by simp [PyData.depth], by simp [rW]⟩ (by omega)
  have hl : decide (x.num * y.den < y.num * x.den) = decide (x < y) := (decide_eq_decide.mpr (Rat.lt_iff x y)).symm
  have n0 : decide (y.num = 0) = decide (y = 0) := decide_eq_decide.mpr Rat.num_eq_zero
  have m1 := ev_mul st (mul_log (up_pow hx.nu (show 200 ≤ 400000 by omega)) (up_pow hy.den (show 200 ≤ 400000 by omega)))
  have m2 := ev_mul st (mul_log (up_pow hy.nu (show 200 ≤ 400000 by omega)) (up_pow hx.den (show 200 ≤ 400000 by omega)))
  have m3 := ev_mul st (mul_log (up_pow hx.den (show 200 ≤ 400000 by omega)) (up_pow hy.den (show 200 ≤ 400000 by omega)))
  have m4 := ev_mul st (mul_log (up_pow hx.nu (show 200 ≤ 400000 by omega)) (up_pow hy.nu (show 200 ≤ 400000 by omega)))
  have m5 := ev_mul st (mul_log (up_pow hx.den (show 200 ≤ 400000 by omega)) (up_pow hy.nu (show 200 ≤ 400000 by omega)))
  have hdd := up_pow (abs_mul_lt hx.den hy.den) (show 200 + 200 ≤ 8000 by omega)
  have hd0 := Int.mul_ne_zero (den_ne x) (den_ne y)
  have hr' : reprD [.lst [shD (x + y), shD (x - y), shD (x * y)]] st = some (.str pl.shown, st) := hr
  have tg : ∀ (z : Rat) (i j : Nat) (env : F3.Env), tTu 2 (tCons' (tNm i) (tCons' (tNm j) (tNil'))) (shD z) env st = some ((env.set i (some (.int z.num))).set j (some (.int z.den)), st) := fun _ _ _ _ => rfl
  by_cases h0 : y = 0
  · simp only [m__law_two_right, b__law_two_right, evs, evk, evl, evn, if_true, tg, m1, m2, m3, m4, evo, low2_ev hd0 hdd, e1, e2, e3, plus_rat hx hy (show 200 + 200 ≤ 8000 by omega), minus_rat hx hy (show 200 + 200 ≤ 8000 by omega), times_rat hx hy (show 200 + 200 ≤ 8000 by omega), hr', neS_same, less_rat hx hy (show 200 + 200 ≤ 8000 by omega), hl, hrb, nought_ev, n0, decide_eq_true h0]
  · have hq := reprD_ok (shw_sh (x := x / y) st ((hx.div hy h0).mono (by omega))) (by omega)
    have hd2 := Int.mul_ne_zero (den_ne x) (num_ne h0)
    have hdn := up_pow (abs_mul_lt hx.den hy.nu) (show 200 + 200 ≤ 8000 by omega)
    have es : ∀ z : Str, eqD (.str z) (.str z) st = some (.bl true, st) := fun z => by
      show (some (decide (z = z))).map (fun b => (D.bl b, st)) = _
      rw [decide_eq_true rfl]
      rfl
    simp only [m__law_two_right, b__law_two_right, evs, evk, evl, evn, if_true, tg, m1, m2, m3, m4, m5, evo, low2_ev hd0 hdd, low2_ev hd2 hdn, e1, e2, e3, e4, plus_rat hx hy (show 200 + 200 ≤ 8000 by omega), minus_rat hx hy (show 200 + 200 ≤ 8000 by omega), times_rat hx hy (show 200 + 200 ≤ 8000 by omega), over_rat hx hy (show 200 + 200 ≤ 8000 by omega) h0, hr', neS_same, less_rat hx hy (show 200 + 200 ≤ 8000 by omega), hl, hrb, nought_ev, n0, decide_eq_false h0, hq, es]
def pick (s : Int) (f x : Rat) : Rat := if 0 < s * (x.num * f.den - f.num * x.den) then x else f
theorem pick_neg (f x : Rat) : pick (-1) f x = if x < f then x else f := by
  unfold pick
  have : (0 < (-1 : Int) * (x.num * f.den - f.num * x.den)) ↔ x < f := by
    rw [Rat.lt_iff]
    omega
  by_cases h : x < f
  · rw [if_pos h, if_pos (this.mpr h)]
  · rw [if_neg h, if_neg (fun z => h (this.mp z))]
theorem pick_pos (f x : Rat) : pick 1 f x = if f < x then x else f := by
  unfold pick
  have : (0 < (1 : Int) * (x.num * f.den - f.num * x.den)) ↔ f < x := by
    rw [Rat.lt_iff]
    omega
  by_cases h : f < x
  · rw [if_pos h, if_pos (this.mpr h)]
  · rw [if_neg h, if_neg (fun z => h (this.mp z))]
theorem best_ev {x : Rat} {r : List Rat} {s : Int} (hs : s = 1 ∨ s = -1) (hx : ∀ y ∈ x :: r, Sz 200 y) (st : Store) : m__law_best [.lst ((x :: r).map shD), .int s] st = .ok (shD ((x :: r).foldl (pick s) x)) st := by
  have mem : ∀ (l : List Rat) (f : Rat), (∀ y ∈ l, y ∈ x :: r) → f ∈ x :: r → l.foldl (pick s) f ∈ x :: r := by
    intro l
    induction l with
    | nil => exact fun f _ h => h
    | cons z l ih =>
      intro f h1 h2
      refine ih _ (fun y hy => h1 y (List.mem_cons_of_mem _ hy)) ?_
      unfold pick
      split
      · exact h1 z List.mem_cons_self
      · exact h2
  generalize hL : x :: r = L at hx mem ⊢
  have hxL : x ∈ L := by rw [← hL]; exact List.mem_cons_self
  have h0 : ixD (.lst (L.map shD)) (.int 0) st = some (shD x, st) := by
    rw [← hL]
    rfl
  obtain ⟨e, s', hf, rfl, o3, rfl⟩ := for_inv (g := tNm 3) (b := sIf (eBin gtD (eBin mulD (eVar 1) (eBin subD (eBin mulD (eBin ixD (eVar 3) (eC (.int 0))) (eBin ixD (eVar 2) (eC (.int 1)))) (eBin mulD (eBin ixD (eVar 2) (eC (.int 0))) (eBin ixD (eVar 3) (eC (.int 1)))))) (eC (.int 0))) (sSet 2 (eVar 3)) (sNext))
    (fun i e s' => s' = st ∧ ∃ o3, e = [some (.lst (L.map shD)), some (.int s), some (shD ((L.take i).foldl (pick s) x)), o3]) (ds := L.map shD) (env := [some (.lst (L.map shD)), some (.int s), some (shD x), none]) (st := st) ⟨rfl, none, rfl⟩ (by
      rintro i dd e s' hd ⟨rfl, o3, rfl⟩
      rw [List.getElem?_map] at hd
      cases hi : L[i]? with
      | none => rw [hi] at hd; cases hd
      | some y =>
        rw [hi] at hd
        cases hd
        obtain ⟨hlt, hyi⟩ := List.getElem?_eq_some_iff.mp hi
        have hy := hx y (List.mem_of_getElem? hi)
        have hfs := hx _ (mem (L.take i) x (fun z hz => List.mem_of_mem_take hz) hxL)
        generalize hF : (L.take i).foldl (pick s) x = f at hfs
        have hn : (L.take (i + 1)).foldl (pick s) x = pick s f y := by
          rw [List.take_succ_eq_append_getElem hlt, List.foldl_append, hF, hyi]
          rfl
        refine ⟨_, _, [some (.lst (L.map shD)), some (.int s), some (shD (pick s f y)), some (shD y)], s', rfl, .inl ?_, rfl, _, by rw [hn]⟩
        have m1 := ev_mul s' (mul_log (up_pow hy.nu (show 200 ≤ 400000 by omega)) (up_pow hfs.den (show 200 ≤ 400000 by omega)))
        have m2 := ev_mul s' (mul_log (up_pow hfs.nu (show 200 ≤ 400000 by omega)) (up_pow hy.den (show 200 ≤ 400000 by omega)))
        have m3 := ev_mul s' (mul_l (i := s) (j := y.num * f.den - f.num * y.den) (by omega) (by omega))
        unfold pick
        by_cases hp : 0 < s * (y.num * f.den - f.num * y.den)
        · simp only [evs, evk, evl, evo, shD_0, shD_1, m1, m2, m3, decide_eq_true hp, if_pos hp]
        · simp only [evs, evk, evl, evo, shD_0, shD_1, m1, m2, m3, decide_eq_false hp, if_neg hp])
  rw [List.length_map, List.take_length] at hf
  simp only [m__law_best, b__law_best, evs, evk, evl, h0, hf]
theorem best_min {x : Rat} {r : List Rat} (hx : ∀ y ∈ x :: r, Sz 200 y) (st : Store) : m__law_best [.lst ((x :: r).map shD), .int (-1)] st = .ok (shD (minR x r)) st := by
  rw [best_ev (.inr rfl) hx]
  have : (x :: r).foldl (pick (-1)) x = minR x r := by
    rw [show pick (-1) = fun f x => if x < f then x else f from funext fun f => funext fun x => pick_neg f x, List.foldl_cons, if_neg (by grind)]
    rfl
  rw [this]
theorem best_max {x : Rat} {r : List Rat} (hx : ∀ y ∈ x :: r, Sz 200 y) (st : Store) : m__law_best [.lst ((x :: r).map shD), .int 1] st = .ok (shD (maxR x r)) st := by
  rw [best_ev (.inl rfl) hx]
  have : (x :: r).foldl (pick 1) x = maxR x r := by
    rw [show pick 1 = fun f x => if f < x then x else f from funext fun f => funext fun x => pick_pos f x, List.foldl_cons, if_neg (by grind)]
    rfl
  rw [this]
theorem pyD_sh (x : Rat) (st : Store) : pyD st (shD x) = some (.tuple [.int x.num, .int x.den]) := rfl
theorem pyL_sh (st : Store) : ∀ xs : List Rat, pyL st (xs.map shD) = some (xs.map fun x => .tuple [.int x.num, .int x.den])
  | [] => by simp [pyL]
  | x :: xs => by
    show ((pyD st (shD x)).bind fun p => (pyL st (xs.map shD)).map (p :: ·)) = _
    rw [pyL_sh st xs]
    rfl
theorem pyD_shs (xs : List Rat) (st : Store) : pyD st (.lst (xs.map shD)) = some (.list (xs.map fun x => .tuple [.int x.num, .int x.den])) := by
  show (pyL st (xs.map shD)).map PyData.list = _
  rw [pyL_sh]
  rfl
theorem lay_sh : ∀ xs : List Rat, PyData.canLayAll0 (xs.map fun x => .tuple [.int x.num, .int x.den]) = true ∧ PyData.depthAll (xs.map fun x => .tuple [.int x.num, .int x.den]) ≤ 1
  | [] => ⟨by simp [PyData.canLayAll0], by simp [PyData.depthAll]⟩
  | x :: xs => by
    obtain ⟨h1, h2⟩ := lay_sh xs
    refine ⟨?_, ?_⟩
    · simp only [List.map_cons, PyData.canLayAll0, PyData.canLay0, h1, Bool.and_self]
    · simp only [List.map_cons, PyData.depthAll, PyData.depth]
      omega
theorem shaped_shs (xs : List Rat) : SeqAt.shaped (.list (xs.map fun x => .tuple [.int x.num, .int x.den])) = true := by
  obtain ⟨h1, h2⟩ := lay_sh xs
  unfold SeqAt.shaped
  simp only [PyData.canLay0, PyData.depth, h1, Bool.true_and]
  exact decide_eq_true (by omega)
theorem eq_nil (xs : List Rat) (st : Store) : eqD (.lst (xs.map shD)) (.lst []) st = some (.bl (decide (xs = [])), st) := by
  have h1 := pyD_shs xs st
  have h2 := pyD_shs [] st
  show (((pyD st (.lst (xs.map shD))).bind fun p => (pyD st (.lst [])).bind fun q => if SeqAt.shaped p = true ∧ SeqAt.shaped q = true then some (PyData.eqv p q) else none).map fun b => (D.bl b, st)) = _
  rw [h1, show pyD st (.lst []) = some (.list []) from h2]
  simp only [Option.bind, shaped_shs, show SeqAt.shaped (.list []) = true from shaped_shs [], and_self, if_true, Option.map_some]
  cases xs with
  | nil => simp [PyData.eqv, PyData.eqvAll]
  | cons x xs => simp [PyData.eqv, PyData.eqvAll]
theorem addL {a b : List D} (h : a.length + b.length ≤ 100000) (st : Store) : addD (.lst a) (.lst b) st = some (.lst (a ++ b), st) := if_pos h
theorem ne_nil (xs : List Rat) (st : Store) : neD (.lst (xs.map shD)) (.lst []) st = some (.bl (!decide (xs = [])), st) := by
  have h := eq_nil xs st
  unfold eqD at h
  unfold neD
  cases e : eqB (.lst (xs.map shD)) (.lst []) st with
  | none => rw [e] at h; cases h
  | some b =>
    rw [e] at h
    have : b = decide (xs = []) := by
      have h2 := congrArg (fun o : Option (D × Store) => o.map (·.1)) h
      simpa using h2
    rw [this]
    rfl
theorem many_ev {xs : List Rat} {f : Rat} {o : D} (hx : ∀ x ∈ xs, Sz 200 x) (hf : Sz 200 f) (hl : xs.length ≤ 7) (st : Store) (ho : ∃ p, Shw st o p 1) : m__law_many_right [.lst (xs.map shD), shD f, o] st = .ok (.bl true) st := by
  have up : ∀ {z : Rat}, Sz 200 z → Sz 1900 z := fun h => h.mono (by omega)
  obtain ⟨pr, hpr⟩ := shw_shs (xs := xs) st (fun z hz => up (hx z hz)) (by omega)
  have hr := reprD_ok hpr (by omega)
  have hlen : xs.length * (200 + 1) ≤ 1407 := by omega
  have hst : Sz 1408 (tot xs) := (Sz.tot hx).mono (by omega)
  have t1 := total_lst (s := 0) Sz.zero hx (by omega) st
  have t2 := total_lst hf hx (by omega) st
  have z0 : ∀ r : Rat, 0 + r = r := fun r => by grind
  have r1 := reprD_ok (shw_sh (x := tot xs) st (hst.mono (by omega))) (by omega)
  have r2 := reprD_ok (shw_sh (x := f + tot xs) st ((hf.add hst).mono (by omega))) (by omega)
  have s1 := sum_ev hx (by omega) st
  have s2 : m__law_sum [.lst (shD f :: xs.map shD)] st = .ok (shD (f + tot xs)) st := sum_ev (xs := f :: xs) (fun y hy => by
    rcases List.mem_cons.mp hy with rfl | hy
    · exact hf
    · exact hx y hy) (by rw [List.length_cons]; omega) st
  have ad := addL (a := [shD f]) (b := xs.map shD) (by rw [List.length_map, List.length_singleton]; omega) st
  have es : ∀ z : Str, eqD (.str z) (.str z) st = some (.bl true, st) := fun z => by
    show (some (decide (z = z))).map (fun b => (D.bl b, st)) = _
    rw [decide_eq_true rfl]
    rfl
  obtain ⟨po, hpo⟩ := shw_lst (ds := [o, o]) (fun d hd => by
    simp only [List.mem_cons, List.not_mem_nil, or_false] at hd
    rcases hd with rfl | rfl <;> exact ho) (by simp)
  have ro := reprD_ok hpo (by omega)
  obtain ⟨pn, hpn⟩ := shw_lst (st := st) (ds := [.non, .non]) (fun d hd => by
    simp only [List.mem_cons, List.not_mem_nil, or_false] at hd
    rcases hd with rfl | rfl <;> exact ⟨.none, rfl, rfl, rfl, by simp [PyData.depth], by simp [rW]⟩) (by simp)
  have rn := reprD_ok hpn (by omega)
  have g1 : ∀ d : D, g_total_1 [d] [] = [d, shD 0] := fun _ => rfl
  have g2 : ∀ a b : D, g_total_0_start_some [] [a, b] = [b, a] := fun _ _ => rfl
  have g3 : ∀ d : D, g_least_1 [d] [] = [d, .non] := fun _ => rfl
  have g4 : ∀ d : D, g_greatest_1 [d] [] = [d, .non] := fun _ => rfl
  have g5 : ∀ d e : D, g_least_1_default [d] [e] = [d, e] := fun _ _ => rfl
  have g6 : ∀ d e : D, g_greatest_0_default_some [] [d, e] = [e, d] := fun _ _ => rfl
  by_cases h0 : xs = []
  · subst h0
    simp only [List.map_nil] at *
    simp only [m__law_many_right, b__law_many_right, evs, evk, evl, evu, evn, if_true, hr, g1, t1, z0, r1, s1, neS_same, g2, t2, r2, ad, s2, show neD (.lst []) (.lst []) st = some (.bl false, st) from ne_nil [] st, g5, g6, least_nil, greatest_nil, ro, g3, g4, rn, es]
  · obtain ⟨x, r, rfl⟩ : ∃ x r, xs = x :: r := by
      cases xs with
      | nil => exact absurd rfl h0
      | cons x r => exact ⟨x, r, rfl⟩
    have b1 := best_min hx st
    have b2 := best_max hx st
    have l1 := fun d => least_rat hx (by omega) d st
    have l2 := fun d => greatest_rat hx (by omega) d st
    obtain ⟨pm, hpm⟩ := shw_shs (xs := [minR x r, maxR x r]) st (fun z hz => by
      simp only [List.mem_cons, List.not_mem_nil, or_false] at hz
      rcases hz with rfl | rfl
      · exact up (hx _ (minR_spec x r).1)
      · exact up (hx _ (maxR_spec x r).1)) (by simp)
    have rm : reprD [.lst [shD (minR x r), shD (maxR x r)]] st = some (.str pm.shown, st) := reprD_ok hpm (by omega)
    simp only [m__law_many_right, b__law_many_right, evs, evk, evl, evu, evn, if_true, hr, g1, t1, z0, r1, s1, neS_same, g2, t2, r2, ad, s2, ne_nil, decide_eq_false h0, Bool.not_false, b1, b2, g5, g6, l1, l2, rm, g3, g4, es]
theorem rows_ev {a0 a1 a2 a3 a4 a5 a7 : D} {o8 : Option D} {f : Rat} {its : List D} (h3 : a3 = shD f) (hf : Sz 200 f) (h : ∀ d ∈ its, ∃ ys : List Rat, d = .lst (ys.map shD) ∧ (∀ y ∈ ys, Sz 200 y) ∧ ys.length ≤ 7) (st : Store) (ho : ∃ p, Shw st a7 p 1) {o6 : Option D} :
    ∃ o', forL (tNm 8) (sIf (eNot (eCall m__law_many_right (fun ds _ => ds) (aCons (eVar 8) (aCons (eVar 3) (aCons (eVar 7) (aNil)))) (aNil))) (sRet (eC (.bl false))) (sNext)) its [some a0, some a1, some a2, some a3, some a4, some a5, o6, some a7, o8] st = .nx [some a0, some a1, some a2, some a3, some a4, some a5, o6, some a7, o'] st := by
  obtain ⟨e, s, hf2, o', rfl, rfl⟩ := for_inv (g := tNm 8) (b := (sIf (eNot (eCall m__law_many_right (fun ds _ => ds) (aCons (eVar 8) (aCons (eVar 3) (aCons (eVar 7) (aNil)))) (aNil))) (sRet (eC (.bl false))) (sNext)))
    (fun _ e s => ∃ o', e = [some a0, some a1, some a2, some a3, some a4, some a5, o6, some a7, o'] ∧ s = st) (ds := its) (env := [some a0, some a1, some a2, some a3, some a4, some a5, o6, some a7, o8]) (st := st) ⟨o8, rfl, rfl⟩ (by
      rintro i d e s hd ⟨o', rfl, rfl⟩
      obtain ⟨ys, rfl, hy, hl⟩ := h d (List.mem_of_getElem? hd)
      refine ⟨_, _, [some a0, some a1, some a2, some a3, some a4, some a5, o6, some a7, some (.lst (ys.map shD))], s, rfl, .inl ?_, _, rfl, rfl⟩
      subst h3
      simp only [evs, evk, evl, many_ev hy hf hl s ho])
  exact ⟨o', hf2⟩
theorem law_true (ns : List Int) (h : ns.length ≤ 63) : ∃ st', m_law [.lst (ns.map D.int)] [] = .ok (.bl true) st' := by
  have hlen : ∀ st, lenD [.lst (ns.map D.int)] st = some (.int ns.length, st) := fun st => by
    show some (D.int ((ns.map D.int).length : Nat), st) = _
    rw [List.length_map]
  obtain ⟨z, hz, hz1⟩ : ∃ z : Nat, (if (if (ns.length : Int) < 40 then (ns.length : Int) else 40) > 1 then (if (ns.length : Int) < 40 then (ns.length : Int) else 40) else 1) = (z : Int) ∧ z ≤ 40 := by
    refine ⟨(if (if (ns.length : Int) < 40 then (ns.length : Int) else 40) > 1 then (if (ns.length : Int) < 40 then (ns.length : Int) else 40) else 1).toNat, ?_, ?_⟩ <;> (split <;> split <;> omega)
  have hb : ∃ b, b_law = sSeq (sFor (iRange1 (aCons (eFn max2D (aCons (eC (.int 1)) (aCons (eFn min2D (aCons (eC (.int 40)) (aCons (eFn lenD (aCons (eVar 0) (aNil))) (aNil)))) (aNil)))) (aNil))) (tNm 1) b) (sRet (eC (.bl true))) ∧ ∃ e s, forL (tNm 1) b (intsD 0 z) [some (.lst (ns.map D.int)), none, none, none, none, none, none, none, none] [] = .nx e s := by
    refine ⟨_, rfl, ?_⟩
    refine (fun ⟨e, s, hf, _⟩ => ⟨e, s, hf⟩) (for_inv (g := tNm 1) (fun _ e _ => ∃ o1 o2 o3 o4 o5 o6 o7 o8, e = [some (.lst (ns.map D.int)), o1, o2, o3, o4, o5, o6, o7, o8]) (ds := intsD 0 z) ⟨none, none, none, none, none, none, none, none, rfl⟩ ?_)
    rintro i d e st hd ⟨o1, o2, o3, o4, o5, o6, o7, o8, rfl⟩
    obtain ⟨hi, rfl⟩ := intsD_get hd
    obtain ⟨a, b, e1⟩ := pool_ev ns i st
    have e1' : m__law_pool [.lst (ns.map D.int), .int (0 + (i : Int))] st = .ok (.ref st.length) (st ++ [.lst [.int a, .int b]]) := by
      rw [Int.zero_add]
      exact e1
    have P0 : Pool (st ++ [.lst [.int a, .int b]]) st.length := ⟨a, b, by simp⟩
    obtain ⟨x, s1, e2, hx, p1⟩ := ls_ev P0
    obtain ⟨y0, s2, e3, hy0, p2⟩ := ls_ev p1.pool
    obtain ⟨q, s3, e4, l4, u4, p3⟩ := take_ev p2.pool (n := 4) (by omega) (by decide)
    obtain ⟨r, s4, e5, l5, u5, p4⟩ := take_ev p3.pool (n := 6) (by omega) (by decide)
    obtain ⟨k, rfl⟩ : ∃ k : Nat, r = (k : Int) := Int.eq_ofNat_of_zero_le l5
    have hr : rng1 [.int (k : Int)] s4 = .ok (none, intsD 0 k) s4 := by
      rw [rng1_ok _ (show -(2 ^ 62) ≤ (k : Int) ∧ (k : Int) < 2 ^ 62 by omega), Int.toNat_natCast]
    have hcomp : ∀ (y : Rat), ∃ (ys : List Rat) (s5 : Store), lcL (none, intsD 0 k) (tNm 6) eYes (eCall m__law_share (fun ds _ => ds) (aCons (eVar 2) (aNil)) (aNil)) [6] [some (.lst (ns.map D.int)), some (.int (0 + (i : Int))), some (.ref st.length), some (shD x), some (shD y), o5, o6, o7, o8] (intsD 0 k) [] s4 = .ok (ys.map shD) s5 ∧ (∀ y ∈ ys, Sz 200 y) ∧ ys.length ≤ k ∧ Psx s4 st.length s5 := fun y => by
      obtain ⟨acc, s5, hlc, ys, rfl, hy, hyl, p5⟩ := lc_inv (w := (none, intsD 0 k)) (g := tNm 6) (t := eYes) (e := eCall m__law_share (fun ds _ => ds) (aCons (eVar 2) (aNil)) (aNil)) (vs := [6]) (env := [some (.lst (ns.map D.int)), some (.int (0 + (i : Int))), some (.ref st.length), some (shD x), some (shD y), o5, o6, o7, o8])
        (fun j acc s' => ∃ ys : List Rat, acc = ys.map shD ∧ (∀ y ∈ ys, Sz 200 y) ∧ ys.length ≤ j ∧ Psx s4 st.length s') (ds := intsD 0 k) (st := s4) (fun j acc s' _ => trivial) ⟨[], rfl, by simp, by simp, Psx.of p4.pool⟩ (by
          rintro j dd acc s' hd ⟨ys, rfl, hy, hyl, ps⟩
          obtain ⟨x, s3, e3, hx, p3⟩ := ls_ev ps.pool
          refine ⟨_, s', rfl, .inr ⟨s', shD x, s3, rfl, ?_, ys ++ [x], by rw [List.map_append]; rfl, fun y hm => ?_, by rw [List.length_append, List.length_singleton]; omega, ps.trans p3⟩⟩
          · simp only [wipeE, evs, evk, evl, e3]
          · rcases List.mem_append.mp hm with hm | hm
            · exact hy y hm
            · rw [List.mem_singleton.mp hm]
              exact hx) (by rw [intsD_len]; omega)
      rw [intsD_len] at hyl
      exact ⟨ys, s5, hlc, hy, hyl, p5⟩
    have hodd : ∀ (r : Int), 0 ≤ r → r < 8 → ∃ o, ixAt [D.non, .int 0, shD 0, shD x, .str "none", .lst [], .tup [], .bl true] r = some o ∧ ∀ st, ∃ p, Shw st o p 1 := fun r l u => by
      obtain rfl | rfl | rfl | rfl | rfl | rfl | rfl | rfl : r = 0 ∨ r = 1 ∨ r = 2 ∨ r = 3 ∨ r = 4 ∨ r = 5 ∨ r = 6 ∨ r = 7 := by omega
      · exact ⟨_, rfl, fun st => ⟨_, rfl, rfl, rfl, by simp [PyData.depth], by simp [rW]⟩⟩
      · exact ⟨_, rfl, fun st => ⟨_, rfl, rfl, rfl, by simp [PyData.depth], by simp [rW]⟩⟩
      · exact ⟨_, rfl, fun st => ⟨_, shw_sh st (Sz.zero.mono (by omega))⟩⟩
      · exact ⟨_, rfl, fun st => ⟨_, shw_sh st (hx.mono (by omega))⟩⟩
      · exact ⟨_, rfl, fun st => ⟨_, rfl, by simp only [PyData.canLay0]; decide +kernel, rfl, by simp [PyData.depth], by simp only [rW]; decide +kernel⟩⟩
      · exact ⟨_, rfl, fun st => ⟨.list [], by simp [pyD, pyL], rfl, rfl, by simp [PyData.depth, PyData.depthAll], by simp [rW, rWs]⟩⟩
      · exact ⟨_, rfl, fun st => ⟨.tuple [], by simp [pyD, pyL], rfl, rfl, by simp [PyData.depth, PyData.depthAll], by simp [rW, rWs]⟩⟩
      · exact ⟨_, rfl, fun st => ⟨_, rfl, rfl, rfl, by simp [PyData.depth], by simp [rW]⟩⟩
    have fin : ∀ (y : Rat), Sz 200 y → ∃ (ys : List Rat) (s5 : Store) (r8 : Int) (s6 : Store) (o : D) (o8' : Option D), lcL (none, intsD 0 k) (tNm 6) eYes (eCall m__law_share (fun ds _ => ds) (aCons (eVar 2) (aNil)) (aNil)) [6] [some (.lst (ns.map D.int)), some (.int (0 + (i : Int))), some (.ref st.length), some (shD x), some (shD y), o5, o6, o7, o8] (intsD 0 k) [] s4 = .ok (ys.map shD) s5 ∧
        m__law_take [.ref st.length, .int 8] s5 = .ok (.int r8) s6 ∧ ixAt [D.non, .int 0, shD 0, shD x, .str "none", .lst [], .tup [], .bl true] r8 = some o ∧ addD (.lst (ys.map shD)) (.lst [shD x, shD x]) s6 = some (.lst (ys.map shD ++ [shD x, shD x]), s6) ∧
        forL (tNm 8) (sIf (eNot (eCall m__law_many_right (fun ds _ => ds) (aCons (eVar 8) (aCons (eVar 3) (aCons (eVar 7) (aNil)))) (aNil))) (sRet (eC (.bl false))) (sNext)) [.lst (ys.map shD), .lst (ys.map shD ++ [shD x, shD x]), .lst [], .lst [shD x], .lst [shD y, shD x]] [some (.lst (ns.map D.int)), some (.int (0 + (i : Int))), some (.ref st.length), some (shD x), some (shD y), some (.lst (ys.map shD)), o6, some o, o8] s6 = .nx [some (.lst (ns.map D.int)), some (.int (0 + (i : Int))), some (.ref st.length), some (shD x), some (shD y), some (.lst (ys.map shD)), o6, some o, o8'] s6 := fun y hy => by
      obtain ⟨ys, s5, hlc, hys, hyl, p5⟩ := hcomp y
      obtain ⟨r8, s6, e8, l8, u8, p6⟩ := take_ev p5.pool (n := 8) (by omega) (by decide)
      obtain ⟨o, ho, hsw⟩ := hodd r8 l8 u8
      obtain ⟨o8', hl⟩ := rows_ev (a0 := .lst (ns.map D.int)) (a1 := .int (0 + (i : Int))) (a2 := .ref st.length) (a4 := shD y) (a5 := .lst (ys.map shD)) (a7 := o) (o8 := o8) (o6 := o6) (f := x) rfl hx (its := [.lst (ys.map shD), .lst (ys.map shD ++ [shD x, shD x]), .lst [], .lst [shD x], .lst [shD y, shD x]]) (fun d hd => by
        simp only [List.mem_cons, List.not_mem_nil, or_false] at hd
        rcases hd with rfl | rfl | rfl | rfl | rfl
        · exact ⟨ys, rfl, hys, by omega⟩
        · exact ⟨ys ++ [x, x], by rw [List.map_append]; rfl, fun z hz => by
            rcases List.mem_append.mp hz with hz | hz
            · exact hys z hz
            · simp only [List.mem_cons, List.not_mem_nil, or_false, or_self] at hz
              rw [hz]; exact hx, by rw [List.length_append]; simp only [List.length_cons, List.length_nil]; omega⟩
        · exact ⟨[], rfl, by simp, by simp⟩
        · exact ⟨[x], rfl, fun z hz => by rw [List.mem_singleton.mp hz]; exact hx, by simp⟩
        · exact ⟨[y, x], rfl, fun z hz => by
            simp only [List.mem_cons, List.not_mem_nil, or_false] at hz
            rcases hz with rfl | rfl
            · exact hy
            · exact hx, by simp⟩) s6 (hsw s6)
      exact ⟨ys, s5, r8, s6, o, o8', hlc, e8, ho, addL (by rw [List.length_map]; simp only [List.length_cons, List.length_nil]; omega) s6, hl⟩
    by_cases hq : q = 0
    · obtain ⟨ys, s5, r8, s6, o, o8', f1, f2, f3, f4, f5⟩ := fin x hx
      refine ⟨_, _, [some (.lst (ns.map D.int)), some (.int (0 + (i : Int))), some (.ref st.length), some (shD x), some (shD x), some (.lst (ys.map shD)), o6, some o, o8'], s6, rfl, .inl ?_, _, _, _, _, _, _, _, _, rfl⟩
      simp only [evs, evr, evk, evl, evo, e1', e2, e3, e4, decide_eq_true hq, two_ev hx hx, e5, hr, f1, f2, evn, if_true, shD_00, ev_ixL, f3, Option.map_some, f4, f5]
    · obtain ⟨ys, s5, r8, s6, o, o8', f1, f2, f3, f4, f5⟩ := fin y0 hy0
      refine ⟨_, _, [some (.lst (ns.map D.int)), some (.int (0 + (i : Int))), some (.ref st.length), some (shD x), some (shD y0), some (.lst (ys.map shD)), o6, some o, o8'], s6, rfl, .inl ?_, _, _, _, _, _, _, _, _, rfl⟩
      simp only [evs, evr, evk, evl, evo, e1', e2, e3, e4, decide_eq_false hq, two_ev hx hy0, two_ev hy0 hx, e5, hr, f1, f2, evn, if_true, shD_00, ev_ixL, f3, Option.map_some, f4, f5]
  obtain ⟨b, hb, e, s, hf⟩ := hb
  refine ⟨s, ?_⟩
  simp only [m_law, hb, evs, evr, evk, evl, evo, hlen, hz, rng1_ok _ (show -(2 ^ 62) ≤ (z : Int) ∧ (z : Int) < 2 ^ 62 by omega), Int.toNat_natCast, hf]
end K02

set_option maxHeartbeats 4000000
namespace K02
open PySem PySem.Spec PyProof.Rows L2 F3
def top (i : Nat) : Stmt := PySem.Challenge.pw_virtualturns_k02_shares_reckoned.main.body.getD i (.Pass ⟨0, 0, 0, 0⟩)
abbrev s_lowest : Stmt := top 4
abbrev N_lowest : List Str := ["top", "bottom", "one", "other"]
abbrev P_lowest : List Str := ["top", "bottom"]
theorem sc_lowest : FnScope N_lowest P_lowest (defScope s_lowest) := ⟨rfl, rfl, rfl, by decide +kernel, rfl, by decide +kernel, by decide +kernel⟩
abbrev s_plus : Stmt := top 5
abbrev N_plus : List Str := ["one", "other"]
abbrev P_plus : List Str := ["one", "other"]
theorem sc_plus : FnScope N_plus P_plus (defScope s_plus) := ⟨rfl, rfl, rfl, by decide +kernel, rfl, by decide +kernel, by decide +kernel⟩
abbrev s_minus : Stmt := top 6
abbrev N_minus : List Str := ["one", "other"]
abbrev P_minus : List Str := ["one", "other"]
theorem sc_minus : FnScope N_minus P_minus (defScope s_minus) := ⟨rfl, rfl, rfl, by decide +kernel, rfl, by decide +kernel, by decide +kernel⟩
abbrev s_times : Stmt := top 7
abbrev N_times : List Str := ["one", "other"]
abbrev P_times : List Str := ["one", "other"]
theorem sc_times : FnScope N_times P_times (defScope s_times) := ⟨rfl, rfl, rfl, by decide +kernel, rfl, by decide +kernel, by decide +kernel⟩
abbrev s_over : Stmt := top 8
abbrev N_over : List Str := ["one", "other"]
abbrev P_over : List Str := ["one", "other"]
theorem sc_over : FnScope N_over P_over (defScope s_over) := ⟨rfl, rfl, rfl, by decide +kernel, rfl, by decide +kernel, by decide +kernel⟩
abbrev s_less : Stmt := top 9
abbrev N_less : List Str := ["one", "other"]
abbrev P_less : List Str := ["one", "other"]
theorem sc_less : FnScope N_less P_less (defScope s_less) := ⟨rfl, rfl, rfl, by decide +kernel, rfl, by decide +kernel, by decide +kernel⟩
abbrev s_total : Stmt := top 10
abbrev N_total : List Str := ["some", "start", "found", "one"]
abbrev P_total : List Str := ["some", "start"]
theorem sc_total : FnScope N_total P_total (defScope s_total) := ⟨rfl, rfl, rfl, by decide +kernel, rfl, by decide +kernel, by decide +kernel⟩
abbrev s_least : Stmt := top 11
abbrev N_least : List Str := ["some", "default", "found", "place", "one"]
abbrev P_least : List Str := ["some", "default"]
theorem sc_least : FnScope N_least P_least (defScope s_least) := ⟨rfl, rfl, rfl, by decide +kernel, rfl, by decide +kernel, by decide +kernel⟩
abbrev s_greatest : Stmt := top 12
abbrev N_greatest : List Str := ["some", "default", "found", "place", "one"]
abbrev P_greatest : List Str := ["some", "default"]
theorem sc_greatest : FnScope N_greatest P_greatest (defScope s_greatest) := ⟨rfl, rfl, rfl, by decide +kernel, rfl, by decide +kernel, by decide +kernel⟩
abbrev s__law_pool : Stmt := top 14
abbrev N__law_pool : List Str := ["_law_script", "_law_k", "_law_cell", "_law_seed"]
abbrev P__law_pool : List Str := ["_law_script", "_law_k"]
theorem sc__law_pool : FnScope N__law_pool P__law_pool (defScope s__law_pool) := ⟨rfl, rfl, rfl, by decide +kernel, rfl, by decide +kernel, by decide +kernel⟩
abbrev s__law_take : Stmt := top 15
abbrev N__law_take : List Str := ["_law_pool_here", "_law_size", "_law_found"]
abbrev P__law_take : List Str := ["_law_pool_here", "_law_size"]
theorem sc__law_take : FnScope N__law_take P__law_take (defScope s__law_take) := ⟨rfl, rfl, rfl, by decide +kernel, rfl, by decide +kernel, by decide +kernel⟩
abbrev s__law_number : Stmt := top 16
abbrev N__law_number : List Str := ["_law_pool_here", "_law_size", "_law_nines", "_law_found", "_law_turn"]
abbrev P__law_number : List Str := ["_law_pool_here"]
theorem sc__law_number : FnScope N__law_number P__law_number (defScope s__law_number) := ⟨rfl, rfl, rfl, by decide +kernel, rfl, by decide +kernel, by decide +kernel⟩
abbrev s__law_low : Stmt := top 17
abbrev N__law_low : List Str := ["_law_upper", "_law_lower", "_law_one", "_law_other", "_law_sign"]
abbrev P__law_low : List Str := ["_law_upper", "_law_lower"]
theorem sc__law_low : FnScope N__law_low P__law_low (defScope s__law_low) := ⟨rfl, rfl, rfl, by decide +kernel, rfl, by decide +kernel, by decide +kernel⟩
abbrev s__law_share : Stmt := top 18
abbrev N__law_share : List Str := ["_law_pool_here", "_law_lower"]
abbrev P__law_share : List Str := ["_law_pool_here"]
theorem sc__law_share : FnScope N__law_share P__law_share (defScope s__law_share) := ⟨rfl, rfl, rfl, by decide +kernel, rfl, by decide +kernel, by decide +kernel⟩
abbrev s__law_over_nought : Stmt := top 19
abbrev N__law_over_nought : List Str := ["_law_one", "_law_kept", "e"]
abbrev P__law_over_nought : List Str := ["_law_one"]
theorem sc__law_over_nought : FnScope N__law_over_nought P__law_over_nought (defScope s__law_over_nought) := ⟨rfl, rfl, rfl, by decide +kernel, rfl, by decide +kernel, by decide +kernel⟩
abbrev s__law_two_right : Stmt := top 20
abbrev N__law_two_right : List Str := ["_law_one", "_law_other", "_law_a", "_law_b", "_law_c", "_law_d", "_law_due"]
abbrev P__law_two_right : List Str := ["_law_one", "_law_other"]
theorem sc__law_two_right : FnScope N__law_two_right P__law_two_right (defScope s__law_two_right) := ⟨rfl, rfl, rfl, by decide +kernel, rfl, by decide +kernel, by decide +kernel⟩
abbrev s__law_sum : Stmt := top 21
abbrev N__law_sum : List Str := ["_law_row", "_law_found", "_law_upper", "_law_lower"]
abbrev P__law_sum : List Str := ["_law_row"]
theorem sc__law_sum : FnScope N__law_sum P__law_sum (defScope s__law_sum) := ⟨rfl, rfl, rfl, by decide +kernel, rfl, by decide +kernel, by decide +kernel⟩
abbrev s__law_best : Stmt := top 22
abbrev N__law_best : List Str := ["_law_row", "_law_sign", "_law_found", "_law_one"]
abbrev P__law_best : List Str := ["_law_row", "_law_sign"]
theorem sc__law_best : FnScope N__law_best P__law_best (defScope s__law_best) := ⟨rfl, rfl, rfl, by decide +kernel, rfl, by decide +kernel, by decide +kernel⟩
abbrev s__law_many_right : Stmt := top 23
abbrev N__law_many_right : List Str := ["_law_row", "_law_first", "_law_odd", "_law_kept", "_law_due", "_law_bare"]
abbrev P__law_many_right : List Str := ["_law_row", "_law_first", "_law_odd"]
theorem sc__law_many_right : FnScope N__law_many_right P__law_many_right (defScope s__law_many_right) := ⟨rfl, rfl, rfl, by decide +kernel, rfl, by decide +kernel, by decide +kernel⟩
abbrev s_law : Stmt := top 24
abbrev N_law : List Str := ["_law_script", "_law_k", "_law_pool_here", "_law_one", "_law_other", "_law_ahead", "_law_turn", "_law_odd", "_law_row"]
abbrev P_law : List Str := ["_law_script"]
theorem sc_law : FnScope N_law P_law (defScope s_law) := ⟨rfl, rfl, rfl, by decide +kernel, rfl, by decide +kernel, by decide +kernel⟩
section
variable {P : Program} {w : World} {K : PySem.W.Frag} {mg : Str → Option Value} {base : Heap} {cl : String → Addr} {f : Addr} {fd : FuncData}
theorem kB__law_best_2 (F : FunD K "_law_best" "_law_best" (defArgs s__law_best) (defBody s__law_best) (defScope s__law_best) [] [] f fd) : KB K cl fd P__law_best 2 [] (fun ds _ => ds) := kb_p F fun _ _ _ _ _ _ us hl => match us, hl with | [_, _], _ => rfl
theorem kB__law_low_2 (F : FunD K "_law_low" "_law_low" (defArgs s__law_low) (defBody s__law_low) (defScope s__law_low) [] [] f fd) : KB K cl fd P__law_low 2 [] (fun ds _ => ds) := kb_p F fun _ _ _ _ _ _ us hl => match us, hl with | [_, _], _ => rfl
theorem kB__law_many_right_3 (F : FunD K "_law_many_right" "_law_many_right" (defArgs s__law_many_right) (defBody s__law_many_right) (defScope s__law_many_right) [] [] f fd) : KB K cl fd P__law_many_right 3 [] (fun ds _ => ds) := kb_p F fun _ _ _ _ _ _ us hl => match us, hl with | [_, _, _], _ => rfl
theorem kB__law_number_1 (F : FunD K "_law_number" "_law_number" (defArgs s__law_number) (defBody s__law_number) (defScope s__law_number) [] [] f fd) : KB K cl fd P__law_number 1 [] (fun ds _ => ds) := kb_p F fun _ _ _ _ _ _ us hl => match us, hl with | [_], _ => rfl
theorem kB__law_over_nought_1 (F : FunD K "_law_over_nought" "_law_over_nought" (defArgs s__law_over_nought) (defBody s__law_over_nought) (defScope s__law_over_nought) [] [] f fd) : KB K cl fd P__law_over_nought 1 [] (fun ds _ => ds) := kb_p F fun _ _ _ _ _ _ us hl => match us, hl with | [_], _ => rfl
theorem kB__law_pool_2 (F : FunD K "_law_pool" "_law_pool" (defArgs s__law_pool) (defBody s__law_pool) (defScope s__law_pool) [] [] f fd) : KB K cl fd P__law_pool 2 [] (fun ds _ => ds) := kb_p F fun _ _ _ _ _ _ us hl => match us, hl with | [_, _], _ => rfl
theorem kB__law_share_1 (F : FunD K "_law_share" "_law_share" (defArgs s__law_share) (defBody s__law_share) (defScope s__law_share) [] [] f fd) : KB K cl fd P__law_share 1 [] (fun ds _ => ds) := kb_p F fun _ _ _ _ _ _ us hl => match us, hl with | [_], _ => rfl
theorem kB__law_sum_1 (F : FunD K "_law_sum" "_law_sum" (defArgs s__law_sum) (defBody s__law_sum) (defScope s__law_sum) [] [] f fd) : KB K cl fd P__law_sum 1 [] (fun ds _ => ds) := kb_p F fun _ _ _ _ _ _ us hl => match us, hl with | [_], _ => rfl
theorem kB__law_take_2 (F : FunD K "_law_take" "_law_take" (defArgs s__law_take) (defBody s__law_take) (defScope s__law_take) [] [] f fd) : KB K cl fd P__law_take 2 [] (fun ds _ => ds) := kb_p F fun _ _ _ _ _ _ us hl => match us, hl with | [_, _], _ => rfl
theorem kB__law_two_right_2 (F : FunD K "_law_two_right" "_law_two_right" (defArgs s__law_two_right) (defBody s__law_two_right) (defScope s__law_two_right) [] [] f fd) : KB K cl fd P__law_two_right 2 [] (fun ds _ => ds) := kb_p F fun _ _ _ _ _ _ us hl => match us, hl with | [_, _], _ => rfl
theorem kB_greatest_0_default_some (F : FunD K "greatest" "greatest" (defArgs s_greatest) (defBody s_greatest) (defScope s_greatest) [] [("default", .non)] f fd) : KB K cl fd P_greatest 0 ["default", "some"] g_greatest_0_default_some := kb_0 F 0 ["default", "some"] [] [.w 1, .w 0] (dm := []) (gD := g_greatest_0_default_some) (fun _ z => by cases z) (fun _ _ => .nil) (by decide) rfl (fun ds es h1 h2 => match ds, es, h1, h2 with | [], [_, _], _, _ => rfl) (fun Dk kV doc pm an cdv ct us mv ws l1 l3 l4 hk => match us, mv, ws, l1, l3, l4 with | [], [], [_, _], _, _, _ => rfl)
theorem kB_greatest_1 (F : FunD K "greatest" "greatest" (defArgs s_greatest) (defBody s_greatest) (defScope s_greatest) [] [("default", .non)] f fd) : KB K cl fd P_greatest 1 [] g_greatest_1 := kb_0 F 1 [] [("default", .non)] [.u 0, .m 0] (dm := [.non]) (gD := g_greatest_1) (by simp) (fun _ _ => .cons .non (.nil)) (by decide) rfl (fun ds es h1 h2 => match ds, es, h1, h2 with | [_], [], _, _ => rfl) (fun Dk kV doc pm an cdv ct us mv ws l1 l3 l4 hk => by
    obtain rfl := hk (by simp)
    exact match us, mv, ws, l1, l3, l4 with | [_], [_], [], _, _, _ => ⟨_, _, _, _, _, _, rfl, rfl, rfl⟩)
theorem kB_least_1 (F : FunD K "least" "least" (defArgs s_least) (defBody s_least) (defScope s_least) [] [("default", .non)] f fd) : KB K cl fd P_least 1 [] g_least_1 := kb_0 F 1 [] [("default", .non)] [.u 0, .m 0] (dm := [.non]) (gD := g_least_1) (by simp) (fun _ _ => .cons .non (.nil)) (by decide) rfl (fun ds es h1 h2 => match ds, es, h1, h2 with | [_], [], _, _ => rfl) (fun Dk kV doc pm an cdv ct us mv ws l1 l3 l4 hk => by
    obtain rfl := hk (by simp)
    exact match us, mv, ws, l1, l3, l4 with | [_], [_], [], _, _, _ => ⟨_, _, _, _, _, _, rfl, rfl, rfl⟩)
theorem kB_least_1_default (F : FunD K "least" "least" (defArgs s_least) (defBody s_least) (defScope s_least) [] [("default", .non)] f fd) : KB K cl fd P_least 1 ["default"] g_least_1_default := kb_0 F 1 ["default"] [] [.u 0, .w 0] (dm := []) (gD := g_least_1_default) (fun _ z => by cases z) (fun _ _ => .nil) (by decide) rfl (fun ds es h1 h2 => match ds, es, h1, h2 with | [_], [_], _, _ => rfl) (fun Dk kV doc pm an cdv ct us mv ws l1 l3 l4 hk => match us, mv, ws, l1, l3, l4 with | [_], [], [_], _, _, _ => rfl)
theorem kB_less_2 (F : FunD K "less" "less" (defArgs s_less) (defBody s_less) (defScope s_less) [] [] f fd) : KB K cl fd P_less 2 [] (fun ds _ => ds) := kb_p F fun _ _ _ _ _ _ us hl => match us, hl with | [_, _], _ => rfl
theorem kB_lowest_2 (F : FunD K "lowest" "lowest" (defArgs s_lowest) (defBody s_lowest) (defScope s_lowest) [] [] f fd) : KB K cl fd P_lowest 2 [] (fun ds _ => ds) := kb_p F fun _ _ _ _ _ _ us hl => match us, hl with | [_, _], _ => rfl
theorem kB_minus_2 (F : FunD K "minus" "minus" (defArgs s_minus) (defBody s_minus) (defScope s_minus) [] [] f fd) : KB K cl fd P_minus 2 [] (fun ds _ => ds) := kb_p F fun _ _ _ _ _ _ us hl => match us, hl with | [_, _], _ => rfl
theorem kB_over_2 (F : FunD K "over" "over" (defArgs s_over) (defBody s_over) (defScope s_over) [] [] f fd) : KB K cl fd P_over 2 [] (fun ds _ => ds) := kb_p F fun _ _ _ _ _ _ us hl => match us, hl with | [_, _], _ => rfl
theorem kB_plus_2 (F : FunD K "plus" "plus" (defArgs s_plus) (defBody s_plus) (defScope s_plus) [] [] f fd) : KB K cl fd P_plus 2 [] (fun ds _ => ds) := kb_p F fun _ _ _ _ _ _ us hl => match us, hl with | [_, _], _ => rfl
theorem kB_times_2 (F : FunD K "times" "times" (defArgs s_times) (defBody s_times) (defScope s_times) [] [] f fd) : KB K cl fd P_times 2 [] (fun ds _ => ds) := kb_p F fun _ _ _ _ _ _ us hl => match us, hl with | [_, _], _ => rfl
theorem kB_total_0_start_some (F : FunD K "total" "total" (defArgs s_total) (defBody s_total) (defScope s_total) [] [("start", .ref (He.ga K "NOUGHT"))] f fd) (h_NOUGHT : mg "NOUGHT" = some (.ref (He.ga K "NOUGHT")) ∧ RelV (.ref (He.ga K "NOUGHT")) (.ref (He.ga K "NOUGHT")) ∧ ∀ as H, Sh K cl as H (.ref (He.ga K "NOUGHT")) c_NOUGHT) : KB K cl fd P_total 0 ["start", "some"] g_total_0_start_some := kb_0 F 0 ["start", "some"] [] [.w 1, .w 0] (dm := []) (gD := g_total_0_start_some) (fun _ z => by cases z) (fun _ _ => .nil) (by decide) rfl (fun ds es h1 h2 => match ds, es, h1, h2 with | [], [_, _], _, _ => rfl) (fun Dk kV doc pm an cdv ct us mv ws l1 l3 l4 hk => match us, mv, ws, l1, l3, l4 with | [], [], [_, _], _, _, _ => rfl)
theorem kB_total_1 (F : FunD K "total" "total" (defArgs s_total) (defBody s_total) (defScope s_total) [] [("start", .ref (He.ga K "NOUGHT"))] f fd) (h_NOUGHT : mg "NOUGHT" = some (.ref (He.ga K "NOUGHT")) ∧ RelV (.ref (He.ga K "NOUGHT")) (.ref (He.ga K "NOUGHT")) ∧ ∀ as H, Sh K cl as H (.ref (He.ga K "NOUGHT")) c_NOUGHT) : KB K cl fd P_total 1 [] g_total_1 := kb_0 F 1 [] [("start", .ref (He.ga K "NOUGHT"))] [.u 0, .m 0] (dm := [c_NOUGHT]) (gD := g_total_1) (by simp) (fun _ _ => .cons (h_NOUGHT.2.2 _ _) (.nil)) (by decide) rfl (fun ds es h1 h2 => match ds, es, h1, h2 with | [_], [], _, _ => rfl) (fun Dk kV doc pm an cdv ct us mv ws l1 l3 l4 hk => by
    obtain rfl := hk (by simp)
    exact match us, mv, ws, l1, l3, l4 with | [_], [_], [], _, _, _ => ⟨_, _, _, _, _, _, rfl, rfl, rfl⟩)
theorem ok_lowest (F : FunD K "lowest" "lowest" (defArgs s_lowest) (defBody s_lowest) (defScope s_lowest) [] [] f fd)
    (n_abs : mg "abs" = none) : FnG P w K mg base 1 f fd P_lowest (spF K cl P_lowest.length m_lowest) := FunD.okF F sc_lowest rfl fun cdv A outer s H E hr => by
  have tk : Takes (cxOf (L2.CX P w) P w K mg base N_lowest "lowest" (defScope s_lowest) f cdv A outer s H E) (fun c d _ H' => E c d H') := takes_of rfl rfl rfl rfl
  exact (fs_cons (fs_par (i := 2) (j := 3) rfl sc_lowest.nd rfl rfl (by decide) (Or.inl rfl) (Or.inl rfl) (fe_callB call_abs ok_abs rfl n_abs (by decide +kernel) (fa_cons (fe_var 0) fa_nil)) (fe_callB call_abs ok_abs rfl n_abs (by decide +kernel) (fa_cons (fe_var 1) fa_nil)) (fun h => ps_par rfl sc_lowest.nd rfl rfl (by decide) rfl rfl h rfl)) (fs_cons (fs_while (passes_of rfl) (ft_cmp op_gt ok_gt (fe_var 3) fe_int (nomark _)) (fs_one (fs_par (i := 2) (j := 3) rfl sc_lowest.nd rfl rfl (by decide) (Or.inl rfl) (Or.inl rfl) (fe_var 3) (fe_bin op_mod ok_mod (fe_var 2) (fe_var 3)) (fun h => ps_par rfl sc_lowest.nd rfl rfl (by decide) rfl rfl h rfl)))) (fs_cons (fs_if (ft_cmp op_lt ok_lt (fe_var 1) fe_int (nomark _)) (fs_one (fs_par (i := 0) (j := 1) rfl sc_lowest.nd rfl rfl (by decide) (Or.inl rfl) (Or.inl rfl) (fe_bin op_sub ok_sub fe_int (fe_var 0)) (fe_bin op_sub ok_sub fe_int (fe_var 1)) (fun h => ps_par rfl sc_lowest.nd rfl rfl (by decide) rfl rfl h rfl))) fs_nil) (fs_one (fs_ret (fe_tup (fa_cons (fe_bin op_fdivW ok_fdiv (fe_var 0) (fe_var 2)) (fa_cons (fe_bin op_fdivW ok_fdiv (fe_var 1) (fe_var 2)) fa_nil))))))))
theorem ok_plus (F : FunD K "plus" "plus" (defArgs s_plus) (defBody s_plus) (defScope s_plus) [] [] f fd)
    {f_lowest : Addr} {fd_lowest : FuncData} (C_lowest : Cal P w K mg base cl 1 "lowest" f_lowest fd_lowest P_lowest m_lowest)
    (B_lowest_2 : KB K cl fd_lowest P_lowest 2 [] (fun ds _ => ds)) : FnG P w K mg base 2 f fd P_plus (spF K cl P_plus.length m_plus) := FunD.okF F sc_plus rfl fun cdv A outer s H E hr => by
  have tk : Takes (cxOf (L2.CX P w) P w K mg base N_plus "plus" (defScope s_plus) f cdv A outer s H E) (fun c d _ H' => E c d H') := takes_of rfl rfl rfl rfl
  exact (fs_one (fs_ret (fe_call (k := 1) (C_lowest.G) (hr.mono (by decide)) tk rfl C_lowest.g C_lowest.kp B_lowest_2 (fa_cons (fe_bin op_addX ok_add (fe_bin op_mulX ok_mul (fe_ix ix_seq ok_ix (fe_var 0) fe_int (fun _ _ => rfl)) (fe_ix ix_seq ok_ix (fe_var 1) fe_int (fun _ _ => rfl))) (fe_bin op_mulX ok_mul (fe_ix ix_seq ok_ix (fe_var 1) fe_int (fun _ _ => rfl)) (fe_ix ix_seq ok_ix (fe_var 0) fe_int (fun _ _ => rfl)))) (fa_cons (fe_bin op_mulX ok_mul (fe_ix ix_seq ok_ix (fe_var 0) fe_int (fun _ _ => rfl)) (fe_ix ix_seq ok_ix (fe_var 1) fe_int (fun _ _ => rfl))) fa_nil)))))
theorem ok_minus (F : FunD K "minus" "minus" (defArgs s_minus) (defBody s_minus) (defScope s_minus) [] [] f fd)
    {f_lowest : Addr} {fd_lowest : FuncData} (C_lowest : Cal P w K mg base cl 1 "lowest" f_lowest fd_lowest P_lowest m_lowest)
    (B_lowest_2 : KB K cl fd_lowest P_lowest 2 [] (fun ds _ => ds)) : FnG P w K mg base 2 f fd P_minus (spF K cl P_minus.length m_minus) := FunD.okF F sc_minus rfl fun cdv A outer s H E hr => by
  have tk : Takes (cxOf (L2.CX P w) P w K mg base N_minus "minus" (defScope s_minus) f cdv A outer s H E) (fun c d _ H' => E c d H') := takes_of rfl rfl rfl rfl
  exact (fs_one (fs_ret (fe_call (k := 1) (C_lowest.G) (hr.mono (by decide)) tk rfl C_lowest.g C_lowest.kp B_lowest_2 (fa_cons (fe_bin op_sub ok_sub (fe_bin op_mulX ok_mul (fe_ix ix_seq ok_ix (fe_var 0) fe_int (fun _ _ => rfl)) (fe_ix ix_seq ok_ix (fe_var 1) fe_int (fun _ _ => rfl))) (fe_bin op_mulX ok_mul (fe_ix ix_seq ok_ix (fe_var 1) fe_int (fun _ _ => rfl)) (fe_ix ix_seq ok_ix (fe_var 0) fe_int (fun _ _ => rfl)))) (fa_cons (fe_bin op_mulX ok_mul (fe_ix ix_seq ok_ix (fe_var 0) fe_int (fun _ _ => rfl)) (fe_ix ix_seq ok_ix (fe_var 1) fe_int (fun _ _ => rfl))) fa_nil)))))
theorem ok_times (F : FunD K "times" "times" (defArgs s_times) (defBody s_times) (defScope s_times) [] [] f fd)
    {f_lowest : Addr} {fd_lowest : FuncData} (C_lowest : Cal P w K mg base cl 1 "lowest" f_lowest fd_lowest P_lowest m_lowest)
    (B_lowest_2 : KB K cl fd_lowest P_lowest 2 [] (fun ds _ => ds)) : FnG P w K mg base 2 f fd P_times (spF K cl P_times.length m_times) := FunD.okF F sc_times rfl fun cdv A outer s H E hr => by
  have tk : Takes (cxOf (L2.CX P w) P w K mg base N_times "times" (defScope s_times) f cdv A outer s H E) (fun c d _ H' => E c d H') := takes_of rfl rfl rfl rfl
  exact (fs_one (fs_ret (fe_call (k := 1) (C_lowest.G) (hr.mono (by decide)) tk rfl C_lowest.g C_lowest.kp B_lowest_2 (fa_cons (fe_bin op_mulX ok_mul (fe_ix ix_seq ok_ix (fe_var 0) fe_int (fun _ _ => rfl)) (fe_ix ix_seq ok_ix (fe_var 1) fe_int (fun _ _ => rfl))) (fa_cons (fe_bin op_mulX ok_mul (fe_ix ix_seq ok_ix (fe_var 0) fe_int (fun _ _ => rfl)) (fe_ix ix_seq ok_ix (fe_var 1) fe_int (fun _ _ => rfl))) fa_nil)))))
theorem ok_over (F : FunD K "over" "over" (defArgs s_over) (defBody s_over) (defScope s_over) [] [] f fd)
    {f_lowest : Addr} {fd_lowest : FuncData} (C_lowest : Cal P w K mg base cl 1 "lowest" f_lowest fd_lowest P_lowest m_lowest)
    (B_lowest_2 : KB K cl fd_lowest P_lowest 2 [] (fun ds _ => ds))
    (E_ByNought : Exc0 K mg cl "ByNought") : FnG P w K mg base 2 f fd P_over (spF K cl P_over.length m_over) := FunD.okF F sc_over rfl fun cdv A outer s H E hr => by
  have tk : Takes (cxOf (L2.CX P w) P w K mg base N_over "over" (defScope s_over) f cdv A outer s H E) (fun c d _ H' => E c d H') := takes_of rfl rfl rfl rfl
  exact (fs_cons (fs_if (ft_cmp (op_eqX hr.rm.units) ok_eq (fe_ix ix_seq ok_ix (fe_var 1) fe_int (fun _ _ => rfl)) fe_int (nomark _)) (fs_one (fs_raise0 rfl tk E_ByNought rfl)) fs_nil) (fs_one (fs_ret (fe_call (k := 1) (C_lowest.G) (hr.mono (by decide)) tk rfl C_lowest.g C_lowest.kp B_lowest_2 (fa_cons (fe_bin op_mulX ok_mul (fe_ix ix_seq ok_ix (fe_var 0) fe_int (fun _ _ => rfl)) (fe_ix ix_seq ok_ix (fe_var 1) fe_int (fun _ _ => rfl))) (fa_cons (fe_bin op_mulX ok_mul (fe_ix ix_seq ok_ix (fe_var 0) fe_int (fun _ _ => rfl)) (fe_ix ix_seq ok_ix (fe_var 1) fe_int (fun _ _ => rfl))) fa_nil))))))
theorem ok_less (F : FunD K "less" "less" (defArgs s_less) (defBody s_less) (defScope s_less) [] [] f fd) : FnG P w K mg base 1 f fd P_less (spF K cl P_less.length m_less) := FunD.okF F sc_less rfl fun cdv A outer s H E hr => by
  have tk : Takes (cxOf (L2.CX P w) P w K mg base N_less "less" (defScope s_less) f cdv A outer s H E) (fun c d _ H' => E c d H') := takes_of rfl rfl rfl rfl
  exact (fs_one (fs_ret (fe_cmp op_lt ok_lt (fe_bin op_mulX ok_mul (fe_ix ix_seq ok_ix (fe_var 0) fe_int (fun _ _ => rfl)) (fe_ix ix_seq ok_ix (fe_var 1) fe_int (fun _ _ => rfl))) (fe_bin op_mulX ok_mul (fe_ix ix_seq ok_ix (fe_var 1) fe_int (fun _ _ => rfl)) (fe_ix ix_seq ok_ix (fe_var 0) fe_int (fun _ _ => rfl))) (nomark _))))
theorem ok_total (F : FunD K "total" "total" (defArgs s_total) (defBody s_total) (defScope s_total) [] [("start", .ref (He.ga K "NOUGHT"))] f fd)
    {f_plus : Addr} {fd_plus : FuncData} (C_plus : Cal P w K mg base cl 2 "plus" f_plus fd_plus P_plus m_plus)
    (B_plus_2 : KB K cl fd_plus P_plus 2 [] (fun ds _ => ds)) : FnG P w K mg base 3 f fd P_total (spF K cl P_total.length m_total) := FunD.okF F sc_total rfl fun cdv A outer s H E hr => by
  have tk : Takes (cxOf (L2.CX P w) P w K mg base N_total "total" (defScope s_total) f cdv A outer s H E) (fun c d _ H' => E c d H') := takes_of rfl rfl rfl rfl
  exact (fs_cons (fs_set (i := 2) sc_total.nd rfl (by first | exact Or.inl rfl | exact Or.inr rfl) (fe_var 1)) (fs_cons (fs_for (passes_of rfl) rfl (fi_lst (fe_var 0)) (fg_name (i := 3) sc_total.nd rfl (by first | exact Or.inl rfl | exact Or.inr rfl)) (fs_one (fs_set (i := 2) sc_total.nd rfl (by first | exact Or.inl rfl | exact Or.inr rfl) (fe_call (k := 2) (C_plus.G) (hr.mono (by decide)) tk rfl C_plus.g C_plus.kp B_plus_2 (fa_cons (fe_var 2) (fa_cons (fe_var 3) fa_nil))))) (fun h1 h2 h3 => ps_for (passes_of rfl) rfl h1 h2 h3)) (fs_one (fs_ret (fe_var 2)))))
theorem ok_least (F : FunD K "least" "least" (defArgs s_least) (defBody s_least) (defScope s_least) [] [("default", .non)] f fd)
    {f_less : Addr} {fd_less : FuncData} (C_less : Cal P w K mg base cl 1 "less" f_less fd_less P_less m_less)
    (B_less_2 : KB K cl fd_less P_less 2 [] (fun ds _ => ds))
    (n_enumerate : mg "enumerate" = none) : FnG P w K mg base 2 f fd P_least (spF K cl P_least.length m_least) := FunD.okF F sc_least rfl fun cdv A outer s H E hr => by
  have tk : Takes (cxOf (L2.CX P w) P w K mg base N_least "least" (defScope s_least) f cdv A outer s H E) (fun c d _ H' => E c d H') := takes_of rfl rfl rfl rfl
  exact (fs_cons (fs_set (i := 2) sc_least.nd rfl (by first | exact Or.inl rfl | exact Or.inr rfl) (fe_var 1)) (fs_cons (fs_for (passes_of rfl) rfl (fi_enu rfl n_enumerate (fa_cons (fe_var 0) fa_nil)) (fg_tup (n := 2) (fun h => pg_tup rfl h) (fgs_cons (fg_name (i := 3) sc_least.nd rfl (by first | exact Or.inl rfl | exact Or.inr rfl)) (fgs_cons (fg_name (i := 4) sc_least.nd rfl (by first | exact Or.inl rfl | exact Or.inr rfl)) fgs_nil (fun h1 h2 => pgs_cons h1 h2)) (fun h1 h2 => pgs_cons h1 h2))) (fs_one (fs_if (ft_w (fw_or (ft_cmp (op_eqX hr.rm.units) ok_eq (fe_var 3) fe_int (nomark _)) (fw_or1 (ft_val (fe_call (k := 1) (C_less.G) (hr.mono (by decide)) tk rfl C_less.g C_less.kp B_less_2 (fa_cons (fe_var 4) (fa_cons (fe_var 2) fa_nil))))))) (fs_one (fs_set (i := 2) sc_least.nd rfl (by first | exact Or.inl rfl | exact Or.inr rfl) (fe_var 4))) fs_nil)) (fun h1 h2 h3 => ps_for (passes_of rfl) rfl h1 h2 h3)) (fs_one (fs_ret (fe_var 2)))))
theorem ok_greatest (F : FunD K "greatest" "greatest" (defArgs s_greatest) (defBody s_greatest) (defScope s_greatest) [] [("default", .non)] f fd)
    {f_less : Addr} {fd_less : FuncData} (C_less : Cal P w K mg base cl 1 "less" f_less fd_less P_less m_less)
    (B_less_2 : KB K cl fd_less P_less 2 [] (fun ds _ => ds))
    (n_enumerate : mg "enumerate" = none) : FnG P w K mg base 2 f fd P_greatest (spF K cl P_greatest.length m_greatest) := FunD.okF F sc_greatest rfl fun cdv A outer s H E hr => by
  have tk : Takes (cxOf (L2.CX P w) P w K mg base N_greatest "greatest" (defScope s_greatest) f cdv A outer s H E) (fun c d _ H' => E c d H') := takes_of rfl rfl rfl rfl
  exact (fs_cons (fs_set (i := 2) sc_greatest.nd rfl (by first | exact Or.inl rfl | exact Or.inr rfl) (fe_var 1)) (fs_cons (fs_for (passes_of rfl) rfl (fi_enu rfl n_enumerate (fa_cons (fe_var 0) fa_nil)) (fg_tup (n := 2) (fun h => pg_tup rfl h) (fgs_cons (fg_name (i := 3) sc_greatest.nd rfl (by first | exact Or.inl rfl | exact Or.inr rfl)) (fgs_cons (fg_name (i := 4) sc_greatest.nd rfl (by first | exact Or.inl rfl | exact Or.inr rfl)) fgs_nil (fun h1 h2 => pgs_cons h1 h2)) (fun h1 h2 => pgs_cons h1 h2))) (fs_one (fs_if (ft_w (fw_or (ft_cmp (op_eqX hr.rm.units) ok_eq (fe_var 3) fe_int (nomark _)) (fw_or1 (ft_val (fe_call (k := 1) (C_less.G) (hr.mono (by decide)) tk rfl C_less.g C_less.kp B_less_2 (fa_cons (fe_var 2) (fa_cons (fe_var 4) fa_nil))))))) (fs_one (fs_set (i := 2) sc_greatest.nd rfl (by first | exact Or.inl rfl | exact Or.inr rfl) (fe_var 4))) fs_nil)) (fun h1 h2 h3 => ps_for (passes_of rfl) rfl h1 h2 h3)) (fs_one (fs_ret (fe_var 2)))))
theorem ok__law_pool (F : FunD K "_law_pool" "_law_pool" (defArgs s__law_pool) (defBody s__law_pool) (defScope s__law_pool) [] [] f fd)
    (n_int : mg "int" = none) : FnG P w K mg base 1 f fd P__law_pool (spF K cl P__law_pool.length m__law_pool) := FunD.okF F sc__law_pool rfl fun cdv A outer s H E hr => by
  have tk : Takes (cxOf (L2.CX P w) P w K mg base N__law_pool "_law_pool" (defScope s__law_pool) f cdv A outer s H E) (fun c d _ H' => E c d H') := takes_of rfl rfl rfl rfl
  exact (fs_cons (fs_set (i := 2) sc__law_pool.nd rfl (by first | exact Or.inl rfl | exact Or.inr rfl) (fe_ix ix_seq ok_ix (fe_bin op_addX ok_add (fe_sl (fe_var 0) (fo_some (fe_var 1)) (fo_some (fe_bin op_addX ok_add (fe_var 1) fe_int))) (fe_lst (fa_cons fe_int fa_nil))) fe_int (fun _ _ => rfl))) (fs_cons (fs_set (i := 3) sc__law_pool.nd rfl (by first | exact Or.inl rfl | exact Or.inr rfl) (fe_bin op_mod ok_mod (fe_bin op_mulX ok_mul (fe_bin op_addX ok_add (fe_bin op_addX ok_add (fe_bin op_mod ok_mod (fe_var 2) fe_int) (fe_bin op_mulX ok_mul fe_int (fe_var 1))) fe_int) fe_int) fe_int)) (fs_one (fs_ret (fe_cel (fa_cons (fe_bin op_mulX ok_mul (fe_var 2) (fe_callTy call_int1 ok_int rfl n_int (by decide +kernel) (fa_cons (fe_cmp op_ge ok_ge (fe_var 2) (fe_bin op_pow ok_pow fe_int fe_int) (nomark _)) fa_nil))) (fa_cons (fe_var 3) fa_nil)))))))
theorem ok__law_take (F : FunD K "_law_take" "_law_take" (defArgs s__law_take) (defBody s__law_take) (defScope s__law_take) [] [] f fd) : FnG P w K mg base 1 f fd P__law_take (spF K cl P__law_take.length m__law_take) := FunD.okF F sc__law_take rfl fun cdv A outer s H E hr => by
  have tk : Takes (cxOf (L2.CX P w) P w K mg base N__law_take "_law_take" (defScope s__law_take) f cdv A outer s H E) (fun c d _ H' => E c d H') := takes_of rfl rfl rfl rfl
  exact (fs_cons (fs_if (ft_cmp op_gt ok_gt (fe_ix ix_seq ok_ix (fe_var 0) fe_int (fun _ _ => rfl)) fe_int (nomark _)) (fs_cons (fs_set (i := 2) sc__law_take.nd rfl (by first | exact Or.inl rfl | exact Or.inr rfl) (fe_bin op_mod ok_mod (fe_ix ix_seq ok_ix (fe_var 0) fe_int (fun _ _ => rfl)) (fe_var 1))) (fs_cons (fs_asg (fun h g => ps_asg h g) (fe_bin op_fdivW ok_fdiv (fe_ix ix_seq ok_ix (fe_var 0) fe_int (fun _ _ => rfl)) (fe_var 1)) (fg_sub (fe_var 0) fe_int (fun h1 h2 => pg_sub h1 h2 set_list))) (fs_one (fs_ret (fe_var 2))))) fs_nil) (fs_cons (fs_asg (fun h g => ps_asg h g) (fe_bin op_mod ok_mod (fe_bin op_addX ok_add (fe_bin op_mulX ok_mul (fe_ix ix_seq ok_ix (fe_var 0) fe_int (fun _ _ => rfl)) fe_int) fe_int) fe_int) (fg_sub (fe_var 0) fe_int (fun h1 h2 => pg_sub h1 h2 set_list))) (fs_one (fs_ret (fe_bin op_mod ok_mod (fe_bin op_fdivW ok_fdiv (fe_bin op_mod ok_mod (fe_bin op_mulX ok_mul (fe_ix ix_seq ok_ix (fe_var 0) fe_int (fun _ _ => rfl)) (fe_ix ix_seq ok_ix (fe_var 0) fe_int (fun _ _ => rfl))) fe_int) fe_int) (fe_var 1))))))
theorem ok__law_number (F : FunD K "_law_number" "_law_number" (defArgs s__law_number) (defBody s__law_number) (defScope s__law_number) [] [] f fd)
    {f__law_take : Addr} {fd__law_take : FuncData} (C__law_take : Cal P w K mg base cl 1 "_law_take" f__law_take fd__law_take P__law_take m__law_take)
    (B__law_take_2 : KB K cl fd__law_take P__law_take 2 [] (fun ds _ => ds))
    (n_int : mg "int" = none)
    (n_range : mg "range" = none) : FnG P w K mg base 2 f fd P__law_number (spF K cl P__law_number.length m__law_number) := FunD.okF F sc__law_number rfl fun cdv A outer s H E hr => by
  have tk : Takes (cxOf (L2.CX P w) P w K mg base N__law_number "_law_number" (defScope s__law_number) f cdv A outer s H E) (fun c d _ H' => E c d H') := takes_of rfl rfl rfl rfl
  exact (fs_cons (fs_set (i := 1) sc__law_number.nd rfl (by first | exact Or.inl rfl | exact Or.inr rfl) (fe_ix ix_seq ok_ix (fe_lst (fa_cons fe_int (fa_cons fe_int (fa_cons fe_int (fa_cons fe_int (fa_cons fe_int (fa_cons fe_int fa_nil))))))) (fe_call (k := 1) (C__law_take.G) (hr.mono (by decide)) tk rfl C__law_take.g C__law_take.kp B__law_take_2 (fa_cons (fe_var 0) (fa_cons fe_int fa_nil))) (fun _ _ => rfl))) (fs_cons (fs_set (i := 2) sc__law_number.nd rfl (by first | exact Or.inl rfl | exact Or.inr rfl) (fe_callTy call_int1 ok_int rfl n_int (by decide +kernel) (fa_cons (fe_cmp (op_eqX hr.rm.units) ok_eq (fe_call (k := 1) (C__law_take.G) (hr.mono (by decide)) tk rfl C__law_take.g C__law_take.kp B__law_take_2 (fa_cons (fe_var 0) (fa_cons fe_int fa_nil))) fe_int (nomark _)) fa_nil))) (fs_cons (fs_set (i := 3) sc__law_number.nd rfl (by first | exact Or.inl rfl | exact Or.inr rfl) fe_int) (fs_cons (fs_for (passes_of rfl) rfl (fi_range1 rfl n_range (fa_cons (fe_var 1) fa_nil)) (fg_name (i := 4) sc__law_number.nd rfl (by first | exact Or.inl rfl | exact Or.inr rfl)) (fs_one (fs_set (i := 3) sc__law_number.nd rfl (by first | exact Or.inl rfl | exact Or.inr rfl) (fe_bin op_addX ok_add (fe_bin op_mulX ok_mul (fe_var 3) fe_int) (fe_ix ix_seq ok_ix (fe_lst (fa_cons (fe_call (k := 1) (C__law_take.G) (hr.mono (by decide)) tk rfl C__law_take.g C__law_take.kp B__law_take_2 (fa_cons (fe_var 0) (fa_cons fe_int fa_nil))) (fa_cons fe_int fa_nil))) (fe_var 2) (fun _ _ => rfl))))) (fun h1 h2 h3 => ps_for (passes_of rfl) rfl h1 h2 h3)) (fs_one (fs_ret (fe_bin op_mulX ok_mul (fe_var 3) (fe_ix ix_seq ok_ix (fe_lst (fa_cons fe_int (fa_cons fe_int (fa_cons (fe_un un_neg ok_neg fe_int) fa_nil)))) (fe_call (k := 1) (C__law_take.G) (hr.mono (by decide)) tk rfl C__law_take.g C__law_take.kp B__law_take_2 (fa_cons (fe_var 0) (fa_cons fe_int fa_nil))) (fun _ _ => rfl)))))))))
theorem ok__law_low (F : FunD K "_law_low" "_law_low" (defArgs s__law_low) (defBody s__law_low) (defScope s__law_low) [] [] f fd)
    (n_abs : mg "abs" = none)
    (n_int : mg "int" = none) : FnG P w K mg base 1 f fd P__law_low (spF K cl P__law_low.length m__law_low) := FunD.okF F sc__law_low rfl fun cdv A outer s H E hr => by
  have tk : Takes (cxOf (L2.CX P w) P w K mg base N__law_low "_law_low" (defScope s__law_low) f cdv A outer s H E) (fun c d _ H' => E c d H') := takes_of rfl rfl rfl rfl
  exact (fs_cons (fs_set (i := 2) sc__law_low.nd rfl (by first | exact Or.inl rfl | exact Or.inr rfl) (fe_callB call_abs ok_abs rfl n_abs (by decide +kernel) (fa_cons (fe_var 0) fa_nil))) (fs_cons (fs_set (i := 3) sc__law_low.nd rfl (by first | exact Or.inl rfl | exact Or.inr rfl) (fe_callB call_abs ok_abs rfl n_abs (by decide +kernel) (fa_cons (fe_var 1) fa_nil))) (fs_cons (fs_while (passes_of rfl) (ft_cmp op_gt ok_gt (fe_var 3) fe_int (nomark _)) (fs_one (fs_par (i := 2) (j := 3) rfl sc__law_low.nd rfl rfl (by decide) (Or.inl rfl) (Or.inl rfl) (fe_var 3) (fe_bin op_mod ok_mod (fe_var 2) (fe_var 3)) (fun h => ps_par rfl sc__law_low.nd rfl rfl (by decide) rfl rfl h rfl)))) (fs_cons (fs_set (i := 4) sc__law_low.nd rfl (by first | exact Or.inl rfl | exact Or.inr rfl) (fe_ix ix_seq ok_ix (fe_lst (fa_cons fe_int (fa_cons (fe_un un_neg ok_neg fe_int) fa_nil))) (fe_callTy call_int1 ok_int rfl n_int (by decide +kernel) (fa_cons (fe_cmp op_lt ok_lt (fe_var 1) fe_int (nomark _)) fa_nil)) (fun _ _ => rfl))) (fs_one (fs_ret (fe_tup (fa_cons (fe_bin op_fdivW ok_fdiv (fe_bin op_mulX ok_mul (fe_var 4) (fe_var 0)) (fe_var 2)) (fa_cons (fe_bin op_fdivW ok_fdiv (fe_callB call_abs ok_abs rfl n_abs (by decide +kernel) (fa_cons (fe_var 1) fa_nil)) (fe_var 2)) fa_nil)))))))))
theorem ok__law_share (F : FunD K "_law_share" "_law_share" (defArgs s__law_share) (defBody s__law_share) (defScope s__law_share) [] [] f fd)
    {f__law_number : Addr} {fd__law_number : FuncData} (C__law_number : Cal P w K mg base cl 2 "_law_number" f__law_number fd__law_number P__law_number m__law_number)
    {f__law_low : Addr} {fd__law_low : FuncData} (C__law_low : Cal P w K mg base cl 1 "_law_low" f__law_low fd__law_low P__law_low m__law_low)
    (B__law_low_2 : KB K cl fd__law_low P__law_low 2 [] (fun ds _ => ds))
    (B__law_number_1 : KB K cl fd__law_number P__law_number 1 [] (fun ds _ => ds))
    (n_int : mg "int" = none) : FnG P w K mg base 3 f fd P__law_share (spF K cl P__law_share.length m__law_share) := FunD.okF F sc__law_share rfl fun cdv A outer s H E hr => by
  have tk : Takes (cxOf (L2.CX P w) P w K mg base N__law_share "_law_share" (defScope s__law_share) f cdv A outer s H E) (fun c d _ H' => E c d H') := takes_of rfl rfl rfl rfl
  exact (fs_cons (fs_set (i := 1) sc__law_share.nd rfl (by first | exact Or.inl rfl | exact Or.inr rfl) (fe_call (k := 2) (C__law_number.G) (hr.mono (by decide)) tk rfl C__law_number.g C__law_number.kp B__law_number_1 (fa_cons (fe_var 0) fa_nil))) (fs_one (fs_ret (fe_call (k := 1) (C__law_low.G) (hr.mono (by decide)) tk rfl C__law_low.g C__law_low.kp B__law_low_2 (fa_cons (fe_call (k := 2) (C__law_number.G) (hr.mono (by decide)) tk rfl C__law_number.g C__law_number.kp B__law_number_1 (fa_cons (fe_var 0) fa_nil)) (fa_cons (fe_bin op_addX ok_add (fe_var 1) (fe_callTy call_int1 ok_int rfl n_int (by decide +kernel) (fa_cons (fe_cmp (op_eqX hr.rm.units) ok_eq (fe_var 1) fe_int (nomark _)) fa_nil))) fa_nil))))))
theorem ok__law_over_nought (F : FunD K "_law_over_nought" "_law_over_nought" (defArgs s__law_over_nought) (defBody s__law_over_nought) (defScope s__law_over_nought) [] [] f fd)
    {f_over : Addr} {fd_over : FuncData} (C_over : Cal P w K mg base cl 2 "over" f_over fd_over P_over m_over)
    (B_over_2 : KB K cl fd_over P_over 2 [] (fun ds _ => ds))
    (n_isinstance : mg "isinstance" = none)
    (n_ZeroDivisionError : mg "ZeroDivisionError" = none)
    (h_NOUGHT : mg "NOUGHT" = some (.ref (He.ga K "NOUGHT")) ∧ RelV (.ref (He.ga K "NOUGHT")) (.ref (He.ga K "NOUGHT")) ∧ ∀ as H, Sh K cl as H (.ref (He.ga K "NOUGHT")) c_NOUGHT)
    (E_ByNought : Exc0 K mg cl "ByNought")
    (O_ByNought : ClO K cl (.ref (cl "ByNought")) CS tb_ByNought)
    (KB_ZeroDivisionError : KitO K cl (.type "ZeroDivisionError") CS tb_ZeroDivisionError) : FnG P w K mg base 3 f fd P__law_over_nought (spF K cl P__law_over_nought.length m__law_over_nought) := FunD.okF F sc__law_over_nought rfl fun cdv A outer s H E hr => by
  have tk : Takes (cxOf (L2.CX P w) P w K mg base N__law_over_nought "_law_over_nought" (defScope s__law_over_nought) f cdv A outer s H E) (fun c d _ H' => E c d H') := takes_of rfl rfl rfl rfl
  exact (fs_cons (fs_set (i := 1) sc__law_over_nought.nd rfl (by first | exact Or.inl rfl | exact Or.inr rfl) fe_non) (fs_cons (fs_try (i := 2) rfl rfl rfl sc__law_over_nought.nd rfl rfl ⟨rfl, by decide, .inl E_ByNought.g⟩ tk O_ByNought (fun W pn xe tk hp => (fs_one (fs_expr (fe_call (k := 2) (C_over.G) (show Rm 2 _ from ⟨Room.mono hr.rm (show 2 ≤ 2 by decide), hr.gd⟩) tk rfl C_over.g C_over.kp B_over_2 (fa_cons (fe_var 0) (fa_cons (fe_glob rfl h_NOUGHT.1 h_NOUGHT.2.1 (fun as H st _ => h_NOUGHT.2.2 as H)) fa_nil)))))) (fun a pn => (fs_one (fs_set (i := 1) sc__law_over_nought.nd rfl (by first | exact Or.inl rfl | exact Or.inr rfl) (fe_var 2))))) (fs_one (fs_ret (fe_isxb rfl n_isinstance rfl n_ZeroDivisionError (by decide +kernel) KB_ZeroDivisionError (fe_var 1))))))
theorem ok__law_two_right (F : FunD K "_law_two_right" "_law_two_right" (defArgs s__law_two_right) (defBody s__law_two_right) (defScope s__law_two_right) [] [] f fd)
    {f__law_low : Addr} {fd__law_low : FuncData} (C__law_low : Cal P w K mg base cl 1 "_law_low" f__law_low fd__law_low P__law_low m__law_low)
    {f_times : Addr} {fd_times : FuncData} (C_times : Cal P w K mg base cl 2 "times" f_times fd_times P_times m_times)
    {f_minus : Addr} {fd_minus : FuncData} (C_minus : Cal P w K mg base cl 2 "minus" f_minus fd_minus P_minus m_minus)
    {f_plus : Addr} {fd_plus : FuncData} (C_plus : Cal P w K mg base cl 2 "plus" f_plus fd_plus P_plus m_plus)
    {f_less : Addr} {fd_less : FuncData} (C_less : Cal P w K mg base cl 1 "less" f_less fd_less P_less m_less)
    {f__law_over_nought : Addr} {fd__law_over_nought : FuncData} (C__law_over_nought : Cal P w K mg base cl 3 "_law_over_nought" f__law_over_nought fd__law_over_nought P__law_over_nought m__law_over_nought)
    {f_over : Addr} {fd_over : FuncData} (C_over : Cal P w K mg base cl 2 "over" f_over fd_over P_over m_over)
    (B__law_low_2 : KB K cl fd__law_low P__law_low 2 [] (fun ds _ => ds))
    (B__law_over_nought_1 : KB K cl fd__law_over_nought P__law_over_nought 1 [] (fun ds _ => ds))
    (B_less_2 : KB K cl fd_less P_less 2 [] (fun ds _ => ds))
    (B_minus_2 : KB K cl fd_minus P_minus 2 [] (fun ds _ => ds))
    (B_over_2 : KB K cl fd_over P_over 2 [] (fun ds _ => ds))
    (B_plus_2 : KB K cl fd_plus P_plus 2 [] (fun ds _ => ds))
    (B_times_2 : KB K cl fd_times P_times 2 [] (fun ds _ => ds))
    (n_repr : mg "repr" = none) : FnG P w K mg base 4 f fd P__law_two_right (spF K cl P__law_two_right.length m__law_two_right) := FunD.okF F sc__law_two_right rfl fun cdv A outer s H E hr => by
  have tk : Takes (cxOf (L2.CX P w) P w K mg base N__law_two_right "_law_two_right" (defScope s__law_two_right) f cdv A outer s H E) (fun c d _ H' => E c d H') := takes_of rfl rfl rfl rfl
  exact (fs_cons (fs_asg (fun h g => ps_asg h g) (fe_var 0) (fg_tup (n := 2) (fun h => pg_tup rfl h) (fgs_cons (fg_name (i := 2) sc__law_two_right.nd rfl (by first | exact Or.inl rfl | exact Or.inr rfl)) (fgs_cons (fg_name (i := 3) sc__law_two_right.nd rfl (by first | exact Or.inl rfl | exact Or.inr rfl)) fgs_nil (fun h1 h2 => pgs_cons h1 h2)) (fun h1 h2 => pgs_cons h1 h2)))) (fs_cons (fs_asg (fun h g => ps_asg h g) (fe_var 1) (fg_tup (n := 2) (fun h => pg_tup rfl h) (fgs_cons (fg_name (i := 4) sc__law_two_right.nd rfl (by first | exact Or.inl rfl | exact Or.inr rfl)) (fgs_cons (fg_name (i := 5) sc__law_two_right.nd rfl (by first | exact Or.inl rfl | exact Or.inr rfl)) fgs_nil (fun h1 h2 => pgs_cons h1 h2)) (fun h1 h2 => pgs_cons h1 h2)))) (fs_cons (fs_set (i := 6) sc__law_two_right.nd rfl (by first | exact Or.inl rfl | exact Or.inr rfl) (fe_lst (fa_cons (fe_call (k := 1) (C__law_low.G) (hr.mono (by decide)) tk rfl C__law_low.g C__law_low.kp B__law_low_2 (fa_cons (fe_bin op_addX ok_add (fe_bin op_mulX ok_mul (fe_var 2) (fe_var 5)) (fe_bin op_mulX ok_mul (fe_var 4) (fe_var 3))) (fa_cons (fe_bin op_mulX ok_mul (fe_var 3) (fe_var 5)) fa_nil))) (fa_cons (fe_call (k := 1) (C__law_low.G) (hr.mono (by decide)) tk rfl C__law_low.g C__law_low.kp B__law_low_2 (fa_cons (fe_bin op_sub ok_sub (fe_bin op_mulX ok_mul (fe_var 2) (fe_var 5)) (fe_bin op_mulX ok_mul (fe_var 4) (fe_var 3))) (fa_cons (fe_bin op_mulX ok_mul (fe_var 3) (fe_var 5)) fa_nil))) (fa_cons (fe_call (k := 1) (C__law_low.G) (hr.mono (by decide)) tk rfl C__law_low.g C__law_low.kp B__law_low_2 (fa_cons (fe_bin op_mulX ok_mul (fe_var 2) (fe_var 4)) (fa_cons (fe_bin op_mulX ok_mul (fe_var 3) (fe_var 5)) fa_nil))) fa_nil))))) (fs_cons (fs_if (ft_cmp (op_neX hr.rm.units) ok_ne (fe_callB (call_reprD hr.gd hr.rm.units) ok_repr rfl n_repr (by decide +kernel) (fa_cons (fe_lst (fa_cons (fe_call (k := 2) (C_plus.G) (hr.mono (by decide)) tk rfl C_plus.g C_plus.kp B_plus_2 (fa_cons (fe_var 0) (fa_cons (fe_var 1) fa_nil))) (fa_cons (fe_call (k := 2) (C_minus.G) (hr.mono (by decide)) tk rfl C_minus.g C_minus.kp B_minus_2 (fa_cons (fe_var 0) (fa_cons (fe_var 1) fa_nil))) (fa_cons (fe_call (k := 2) (C_times.G) (hr.mono (by decide)) tk rfl C_times.g C_times.kp B_times_2 (fa_cons (fe_var 0) (fa_cons (fe_var 1) fa_nil))) fa_nil)))) fa_nil)) (fe_callB (call_reprD hr.gd hr.rm.units) ok_repr rfl n_repr (by decide +kernel) (fa_cons (fe_var 6) fa_nil)) (nomark _)) (fs_one (fs_ret fe_bl)) fs_nil) (fs_cons (fs_if (ft_w (fw_or (ft_cmp (op_neX hr.rm.units) ok_ne (fe_callB (call_reprD hr.gd hr.rm.units) ok_repr rfl n_repr (by decide +kernel) (fa_cons (fe_call (k := 1) (C_less.G) (hr.mono (by decide)) tk rfl C_less.g C_less.kp B_less_2 (fa_cons (fe_var 0) (fa_cons (fe_var 1) fa_nil))) fa_nil)) (fe_callB (call_reprD hr.gd hr.rm.units) ok_repr rfl n_repr (by decide +kernel) (fa_cons (fe_cmp op_lt ok_lt (fe_bin op_mulX ok_mul (fe_var 2) (fe_var 5)) (fe_bin op_mulX ok_mul (fe_var 4) (fe_var 3)) (nomark _)) fa_nil)) (nomark _)) (fw_or1 (ft_not (ft_val (fe_call (k := 3) (C__law_over_nought.G) (hr.mono (by decide)) tk rfl C__law_over_nought.g C__law_over_nought.kp B__law_over_nought_1 (fa_cons (fe_var 0) fa_nil))))))) (fs_one (fs_ret fe_bl)) fs_nil) (fs_one (fs_ret (fe_or (fe_cmp (op_eqX hr.rm.units) ok_eq (fe_var 4) fe_int (nomark _)) (fe_one (fe_cmp (op_eqX hr.rm.units) ok_eq (fe_callB (call_reprD hr.gd hr.rm.units) ok_repr rfl n_repr (by decide +kernel) (fa_cons (fe_call (k := 2) (C_over.G) (hr.mono (by decide)) tk rfl C_over.g C_over.kp B_over_2 (fa_cons (fe_var 0) (fa_cons (fe_var 1) fa_nil))) fa_nil)) (fe_callB (call_reprD hr.gd hr.rm.units) ok_repr rfl n_repr (by decide +kernel) (fa_cons (fe_call (k := 1) (C__law_low.G) (hr.mono (by decide)) tk rfl C__law_low.g C__law_low.kp B__law_low_2 (fa_cons (fe_bin op_mulX ok_mul (fe_var 2) (fe_var 5)) (fa_cons (fe_bin op_mulX ok_mul (fe_var 3) (fe_var 4)) fa_nil))) fa_nil)) (nomark _)))))))))))
theorem ok__law_sum (F : FunD K "_law_sum" "_law_sum" (defArgs s__law_sum) (defBody s__law_sum) (defScope s__law_sum) [] [] f fd)
    {f__law_low : Addr} {fd__law_low : FuncData} (C__law_low : Cal P w K mg base cl 1 "_law_low" f__law_low fd__law_low P__law_low m__law_low)
    (B__law_low_2 : KB K cl fd__law_low P__law_low 2 [] (fun ds _ => ds)) : FnG P w K mg base 2 f fd P__law_sum (spF K cl P__law_sum.length m__law_sum) := FunD.okF F sc__law_sum rfl fun cdv A outer s H E hr => by
  have tk : Takes (cxOf (L2.CX P w) P w K mg base N__law_sum "_law_sum" (defScope s__law_sum) f cdv A outer s H E) (fun c d _ H' => E c d H') := takes_of rfl rfl rfl rfl
  exact (fs_cons (fs_set (i := 1) sc__law_sum.nd rfl (by first | exact Or.inl rfl | exact Or.inr rfl) (fe_tup (fa_cons fe_int (fa_cons fe_int fa_nil)))) (fs_cons (fs_for (passes_of rfl) rfl (fi_lst (fe_var 0)) (fg_tup (n := 2) (fun h => pg_tup rfl h) (fgs_cons (fg_name (i := 2) sc__law_sum.nd rfl (by first | exact Or.inl rfl | exact Or.inr rfl)) (fgs_cons (fg_name (i := 3) sc__law_sum.nd rfl (by first | exact Or.inl rfl | exact Or.inr rfl)) fgs_nil (fun h1 h2 => pgs_cons h1 h2)) (fun h1 h2 => pgs_cons h1 h2))) (fs_one (fs_set (i := 1) sc__law_sum.nd rfl (by first | exact Or.inl rfl | exact Or.inr rfl) (fe_call (k := 1) (C__law_low.G) (hr.mono (by decide)) tk rfl C__law_low.g C__law_low.kp B__law_low_2 (fa_cons (fe_bin op_addX ok_add (fe_bin op_mulX ok_mul (fe_ix ix_seq ok_ix (fe_var 1) fe_int (fun _ _ => rfl)) (fe_var 3)) (fe_bin op_mulX ok_mul (fe_var 2) (fe_ix ix_seq ok_ix (fe_var 1) fe_int (fun _ _ => rfl)))) (fa_cons (fe_bin op_mulX ok_mul (fe_ix ix_seq ok_ix (fe_var 1) fe_int (fun _ _ => rfl)) (fe_var 3)) fa_nil))))) (fun h1 h2 h3 => ps_for (passes_of rfl) rfl h1 h2 h3)) (fs_one (fs_ret (fe_var 1)))))
theorem ok__law_best (F : FunD K "_law_best" "_law_best" (defArgs s__law_best) (defBody s__law_best) (defScope s__law_best) [] [] f fd) : FnG P w K mg base 1 f fd P__law_best (spF K cl P__law_best.length m__law_best) := FunD.okF F sc__law_best rfl fun cdv A outer s H E hr => by
  have tk : Takes (cxOf (L2.CX P w) P w K mg base N__law_best "_law_best" (defScope s__law_best) f cdv A outer s H E) (fun c d _ H' => E c d H') := takes_of rfl rfl rfl rfl
  exact (fs_cons (fs_set (i := 2) sc__law_best.nd rfl (by first | exact Or.inl rfl | exact Or.inr rfl) (fe_ix ix_seq ok_ix (fe_var 0) fe_int (fun _ _ => rfl))) (fs_cons (fs_for (passes_of rfl) rfl (fi_lst (fe_var 0)) (fg_name (i := 3) sc__law_best.nd rfl (by first | exact Or.inl rfl | exact Or.inr rfl)) (fs_one (fs_if (ft_cmp op_gt ok_gt (fe_bin op_mulX ok_mul (fe_var 1) (fe_bin op_sub ok_sub (fe_bin op_mulX ok_mul (fe_ix ix_seq ok_ix (fe_var 3) fe_int (fun _ _ => rfl)) (fe_ix ix_seq ok_ix (fe_var 2) fe_int (fun _ _ => rfl))) (fe_bin op_mulX ok_mul (fe_ix ix_seq ok_ix (fe_var 2) fe_int (fun _ _ => rfl)) (fe_ix ix_seq ok_ix (fe_var 3) fe_int (fun _ _ => rfl))))) fe_int (nomark _)) (fs_one (fs_set (i := 2) sc__law_best.nd rfl (by first | exact Or.inl rfl | exact Or.inr rfl) (fe_var 3))) fs_nil)) (fun h1 h2 h3 => ps_for (passes_of rfl) rfl h1 h2 h3)) (fs_one (fs_ret (fe_var 2)))))
theorem ok__law_many_right (F : FunD K "_law_many_right" "_law_many_right" (defArgs s__law_many_right) (defBody s__law_many_right) (defScope s__law_many_right) [] [] f fd)
    {f_total : Addr} {fd_total : FuncData} (C_total : Cal P w K mg base cl 3 "total" f_total fd_total P_total m_total)
    {f__law_sum : Addr} {fd__law_sum : FuncData} (C__law_sum : Cal P w K mg base cl 2 "_law_sum" f__law_sum fd__law_sum P__law_sum m__law_sum)
    {f__law_best : Addr} {fd__law_best : FuncData} (C__law_best : Cal P w K mg base cl 1 "_law_best" f__law_best fd__law_best P__law_best m__law_best)
    {f_greatest : Addr} {fd_greatest : FuncData} (C_greatest : Cal P w K mg base cl 2 "greatest" f_greatest fd_greatest P_greatest m_greatest)
    {f_least : Addr} {fd_least : FuncData} (C_least : Cal P w K mg base cl 2 "least" f_least fd_least P_least m_least)
    (B__law_best_2 : KB K cl fd__law_best P__law_best 2 [] (fun ds _ => ds))
    (B__law_sum_1 : KB K cl fd__law_sum P__law_sum 1 [] (fun ds _ => ds))
    (B_greatest_0_default_some : KB K cl fd_greatest P_greatest 0 ["default", "some"] g_greatest_0_default_some)
    (B_greatest_1 : KB K cl fd_greatest P_greatest 1 [] g_greatest_1)
    (B_least_1 : KB K cl fd_least P_least 1 [] g_least_1)
    (B_least_1_default : KB K cl fd_least P_least 1 ["default"] g_least_1_default)
    (B_total_0_start_some : KB K cl fd_total P_total 0 ["start", "some"] g_total_0_start_some)
    (B_total_1 : KB K cl fd_total P_total 1 [] g_total_1)
    (n_repr : mg "repr" = none) : FnG P w K mg base 4 f fd P__law_many_right (spF K cl P__law_many_right.length m__law_many_right) := FunD.okF F sc__law_many_right rfl fun cdv A outer s H E hr => by
  have tk : Takes (cxOf (L2.CX P w) P w K mg base N__law_many_right "_law_many_right" (defScope s__law_many_right) f cdv A outer s H E) (fun c d _ H' => E c d H') := takes_of rfl rfl rfl rfl
  exact (fs_cons (fs_set (i := 3) sc__law_many_right.nd rfl (by first | exact Or.inl rfl | exact Or.inr rfl) (fe_callB (call_reprD hr.gd hr.rm.units) ok_repr rfl n_repr (by decide +kernel) (fa_cons (fe_var 0) fa_nil))) (fs_cons (fs_if (ft_cmp (op_neX hr.rm.units) ok_ne (fe_callB (call_reprD hr.gd hr.rm.units) ok_repr rfl n_repr (by decide +kernel) (fa_cons (fe_call (k := 3) (C_total.G) (hr.mono (by decide)) tk rfl C_total.g C_total.kp B_total_1 (fa_cons (fe_var 0) fa_nil)) fa_nil)) (fe_callB (call_reprD hr.gd hr.rm.units) ok_repr rfl n_repr (by decide +kernel) (fa_cons (fe_call (k := 2) (C__law_sum.G) (hr.mono (by decide)) tk rfl C__law_sum.g C__law_sum.kp B__law_sum_1 (fa_cons (fe_var 0) fa_nil)) fa_nil)) (nomark _)) (fs_one (fs_ret fe_bl)) fs_nil) (fs_cons (fs_if (ft_cmp (op_neX hr.rm.units) ok_ne (fe_callB (call_reprD hr.gd hr.rm.units) ok_repr rfl n_repr (by decide +kernel) (fa_cons (fe_callK0 (k := 3) (C_total.G) (hr.mono (by decide)) tk rfl C_total.g C_total.kp B_total_0_start_some (fk_cons (fe_var 1) (fk_cons (fe_var 0) fk_nil))) fa_nil)) (fe_callB (call_reprD hr.gd hr.rm.units) ok_repr rfl n_repr (by decide +kernel) (fa_cons (fe_call (k := 2) (C__law_sum.G) (hr.mono (by decide)) tk rfl C__law_sum.g C__law_sum.kp B__law_sum_1 (fa_cons (fe_bin op_addX ok_add (fe_lst (fa_cons (fe_var 1) fa_nil)) (fe_var 0)) fa_nil)) fa_nil)) (nomark _)) (fs_one (fs_ret fe_bl)) fs_nil) (fs_cons (fs_set (i := 4) sc__law_many_right.nd rfl (by first | exact Or.inl rfl | exact Or.inr rfl) (fe_lst (fa_cons (fe_var 2) (fa_cons (fe_var 2) fa_nil)))) (fs_cons (fs_set (i := 5) sc__law_many_right.nd rfl (by first | exact Or.inl rfl | exact Or.inr rfl) (fe_lst (fa_cons fe_non (fa_cons fe_non fa_nil)))) (fs_cons (fs_if (ft_cmp (op_neX hr.rm.units) ok_ne (fe_var 0) (fe_lst fa_nil) (nomark _)) (fs_cons (fs_set (i := 4) sc__law_many_right.nd rfl (by first | exact Or.inl rfl | exact Or.inr rfl) (fe_lst (fa_cons (fe_call (k := 1) (C__law_best.G) (hr.mono (by decide)) tk rfl C__law_best.g C__law_best.kp B__law_best_2 (fa_cons (fe_var 0) (fa_cons (fe_un un_neg ok_neg fe_int) fa_nil))) (fa_cons (fe_call (k := 1) (C__law_best.G) (hr.mono (by decide)) tk rfl C__law_best.g C__law_best.kp B__law_best_2 (fa_cons (fe_var 0) (fa_cons fe_int fa_nil))) fa_nil)))) (fs_one (fs_set (i := 5) sc__law_many_right.nd rfl (by first | exact Or.inl rfl | exact Or.inr rfl) (fe_var 4)))) fs_nil) (fs_cons (fs_if (ft_cmp (op_neX hr.rm.units) ok_ne (fe_callB (call_reprD hr.gd hr.rm.units) ok_repr rfl n_repr (by decide +kernel) (fa_cons (fe_lst (fa_cons (fe_callK (k := 2) (C_least.G) (hr.mono (by decide)) tk rfl C_least.g C_least.kp B_least_1_default (fa_cons (fe_var 0) fa_nil) (fk_cons (fe_var 2) fk_nil)) (fa_cons (fe_callK0 (k := 2) (C_greatest.G) (hr.mono (by decide)) tk rfl C_greatest.g C_greatest.kp B_greatest_0_default_some (fk_cons (fe_var 2) (fk_cons (fe_var 0) fk_nil))) fa_nil))) fa_nil)) (fe_callB (call_reprD hr.gd hr.rm.units) ok_repr rfl n_repr (by decide +kernel) (fa_cons (fe_var 4) fa_nil)) (nomark _)) (fs_one (fs_ret fe_bl)) fs_nil) (fs_one (fs_ret (fe_and (fe_cmp (op_eqX hr.rm.units) ok_eq (fe_callB (call_reprD hr.gd hr.rm.units) ok_repr rfl n_repr (by decide +kernel) (fa_cons (fe_lst (fa_cons (fe_call (k := 2) (C_least.G) (hr.mono (by decide)) tk rfl C_least.g C_least.kp B_least_1 (fa_cons (fe_var 0) fa_nil)) (fa_cons (fe_call (k := 2) (C_greatest.G) (hr.mono (by decide)) tk rfl C_greatest.g C_greatest.kp B_greatest_1 (fa_cons (fe_var 0) fa_nil)) fa_nil))) fa_nil)) (fe_callB (call_reprD hr.gd hr.rm.units) ok_repr rfl n_repr (by decide +kernel) (fa_cons (fe_var 5) fa_nil)) (nomark _)) (fe_one (fe_cmp (op_eqX hr.rm.units) ok_eq (fe_callB (call_reprD hr.gd hr.rm.units) ok_repr rfl n_repr (by decide +kernel) (fa_cons (fe_var 0) fa_nil)) (fe_var 3) (nomark _)))))))))))))
theorem ok_law (F : FunD K "law" "law" (defArgs s_law) (defBody s_law) (defScope s_law) [] [] f fd)
    {f__law_pool : Addr} {fd__law_pool : FuncData} (C__law_pool : Cal P w K mg base cl 1 "_law_pool" f__law_pool fd__law_pool P__law_pool m__law_pool)
    {f__law_share : Addr} {fd__law_share : FuncData} (C__law_share : Cal P w K mg base cl 3 "_law_share" f__law_share fd__law_share P__law_share m__law_share)
    {f__law_take : Addr} {fd__law_take : FuncData} (C__law_take : Cal P w K mg base cl 1 "_law_take" f__law_take fd__law_take P__law_take m__law_take)
    {f__law_two_right : Addr} {fd__law_two_right : FuncData} (C__law_two_right : Cal P w K mg base cl 4 "_law_two_right" f__law_two_right fd__law_two_right P__law_two_right m__law_two_right)
    {f__law_many_right : Addr} {fd__law_many_right : FuncData} (C__law_many_right : Cal P w K mg base cl 4 "_law_many_right" f__law_many_right fd__law_many_right P__law_many_right m__law_many_right)
    (B__law_many_right_3 : KB K cl fd__law_many_right P__law_many_right 3 [] (fun ds _ => ds))
    (B__law_pool_2 : KB K cl fd__law_pool P__law_pool 2 [] (fun ds _ => ds))
    (B__law_share_1 : KB K cl fd__law_share P__law_share 1 [] (fun ds _ => ds))
    (B__law_take_2 : KB K cl fd__law_take P__law_take 2 [] (fun ds _ => ds))
    (B__law_two_right_2 : KB K cl fd__law_two_right P__law_two_right 2 [] (fun ds _ => ds))
    (n_len : mg "len" = none)
    (n_min : mg "min" = none)
    (n_max : mg "max" = none)
    (n_range : mg "range" = none) : FnG P w K mg base 5 f fd P_law (spF K cl P_law.length m_law) := FunD.okF F sc_law rfl fun cdv A outer s H E hr => by
  have tk : Takes (cxOf (L2.CX P w) P w K mg base N_law "law" (defScope s_law) f cdv A outer s H E) (fun c d _ H' => E c d H') := takes_of rfl rfl rfl rfl
  exact (fs_cons (fs_for (passes_of rfl) rfl (fi_range1 rfl n_range (fa_cons (fe_callB (call_max2 rfl) ok_max2 rfl n_max (by decide +kernel) (fa_cons fe_int (fa_cons (fe_callB (call_min2 rfl) ok_min2 rfl n_min (by decide +kernel) (fa_cons fe_int (fa_cons (fe_callB call_len ok_len rfl n_len (by decide +kernel) (fa_cons (fe_var 0) fa_nil)) fa_nil))) fa_nil))) fa_nil)) (fg_name (i := 1) sc_law.nd rfl (by first | exact Or.inl rfl | exact Or.inr rfl)) (fs_cons (fs_set (i := 2) sc_law.nd rfl (by first | exact Or.inl rfl | exact Or.inr rfl) (fe_call (k := 1) (C__law_pool.G) (hr.mono (by decide)) tk rfl C__law_pool.g C__law_pool.kp B__law_pool_2 (fa_cons (fe_var 0) (fa_cons (fe_var 1) fa_nil)))) (fs_cons (fs_set (i := 3) sc_law.nd rfl (by first | exact Or.inl rfl | exact Or.inr rfl) (fe_call (k := 3) (C__law_share.G) (hr.mono (by decide)) tk rfl C__law_share.g C__law_share.kp B__law_share_1 (fa_cons (fe_var 2) fa_nil))) (fs_cons (fs_set (i := 4) sc_law.nd rfl (by first | exact Or.inl rfl | exact Or.inr rfl) (fe_call (k := 3) (C__law_share.G) (hr.mono (by decide)) tk rfl C__law_share.g C__law_share.kp B__law_share_1 (fa_cons (fe_var 2) fa_nil))) (fs_cons (fs_if (ft_cmp (op_eqX hr.rm.units) ok_eq (fe_call (k := 1) (C__law_take.G) (hr.mono (by decide)) tk rfl C__law_take.g C__law_take.kp B__law_take_2 (fa_cons (fe_var 2) (fa_cons fe_int fa_nil))) fe_int (nomark _)) (fs_one (fs_set (i := 4) sc_law.nd rfl (by first | exact Or.inl rfl | exact Or.inr rfl) (fe_var 3))) fs_nil) (fs_cons (fs_if (ft_w (fw_or (ft_not (ft_val (fe_call (k := 4) (C__law_two_right.G) (hr.mono (by decide)) tk rfl C__law_two_right.g C__law_two_right.kp B__law_two_right_2 (fa_cons (fe_var 3) (fa_cons (fe_var 4) fa_nil))))) (fw_or1 (ft_not (ft_val (fe_call (k := 4) (C__law_two_right.G) (hr.mono (by decide)) tk rfl C__law_two_right.g C__law_two_right.kp B__law_two_right_2 (fa_cons (fe_var 4) (fa_cons (fe_var 3) fa_nil)))))))) (fs_one (fs_ret fe_bl)) fs_nil) (fs_cons (fs_setLc (i := 5) (own := [("_law_turn", 6)]) (gt := (gName 6)) rfl sc_law.nd rfl rfl (sw_true rfl rfl rfl (by decide +kernel)) (fi_range1 rfl n_range (fa_cons (fe_call (k := 1) (C__law_take.G) (hr.mono (by decide)) tk rfl C__law_take.g C__law_take.kp B__law_take_2 (fa_cons (fe_var 2) (fa_cons fe_int fa_nil))) fa_nil)) (blkOk_by (own := [("_law_turn", 6)]) (N := N_law) (sc := defScope s_law) (by decide +kernel)) (tgw_name (by decide)) (fun _ _ _ _ _ => (pg_name (i := 6) sc_law.nd rfl (Or.inl rfl))) (fun _ _ _ _ _ => fts_nil) (fun _ _ _ _ _ => (fe_call (k := 3) (C__law_share.G) (show Rm 3 _ from ⟨Room.mono hr.rm (show 3 ≤ 4 by decide), hr.gd⟩) takes0 rfl C__law_share.g C__law_share.kp B__law_share_1 (fa_cons (fe_var 2) fa_nil)))) (fs_cons (fs_set (i := 7) sc_law.nd rfl (by first | exact Or.inl rfl | exact Or.inr rfl) (fe_ix ix_seq ok_ix (fe_lst (fa_cons fe_non (fa_cons fe_int (fa_cons (fe_tup (fa_cons fe_int (fa_cons fe_int fa_nil))) (fa_cons (fe_var 3) (fa_cons fe_str (fa_cons (fe_lst fa_nil) (fa_cons (fe_tup fa_nil) (fa_cons fe_bl fa_nil))))))))) (fe_call (k := 1) (C__law_take.G) (hr.mono (by decide)) tk rfl C__law_take.g C__law_take.kp B__law_take_2 (fa_cons (fe_var 2) (fa_cons fe_int fa_nil))) (fun _ _ => rfl))) (fs_one (fs_for (passes_of rfl) rfl (fi_lst (fe_lst (fa_cons (fe_var 5) (fa_cons (fe_bin op_addX ok_add (fe_var 5) (fe_lst (fa_cons (fe_var 3) (fa_cons (fe_var 3) fa_nil)))) (fa_cons (fe_lst fa_nil) (fa_cons (fe_lst (fa_cons (fe_var 3) fa_nil)) (fa_cons (fe_lst (fa_cons (fe_var 4) (fa_cons (fe_var 3) fa_nil))) fa_nil))))))) (fg_name (i := 8) sc_law.nd rfl (by first | exact Or.inl rfl | exact Or.inr rfl)) (fs_one (fs_if (ft_not (ft_val (fe_call (k := 4) (C__law_many_right.G) (hr.mono (by decide)) tk rfl C__law_many_right.g C__law_many_right.kp B__law_many_right_3 (fa_cons (fe_var 8) (fa_cons (fe_var 3) (fa_cons (fe_var 7) fa_nil)))))) (fs_one (fs_ret fe_bl)) fs_nil)) (fun h1 h2 h3 => ps_for (passes_of rfl) rfl h1 h2 h3)))))))))) (fun h1 h2 h3 => ps_for (passes_of rfl) rfl h1 h2 h3)) (fs_one (fs_ret fe_bl)))
end
end K02

set_option maxHeartbeats 4000000
namespace K02
open PySem PySem.Spec PyProof.Rows L2 F3
def d_lowest : He.DefD := ⟨("lowest", none), "lowest", "lowest", defArgs s_lowest, defBody s_lowest, defScope s_lowest, [], []⟩
def d_plus : He.DefD := ⟨("plus", none), "plus", "plus", defArgs s_plus, defBody s_plus, defScope s_plus, [], []⟩
def d_minus : He.DefD := ⟨("minus", none), "minus", "minus", defArgs s_minus, defBody s_minus, defScope s_minus, [], []⟩
def d_times : He.DefD := ⟨("times", none), "times", "times", defArgs s_times, defBody s_times, defScope s_times, [], []⟩
def d_over : He.DefD := ⟨("over", none), "over", "over", defArgs s_over, defBody s_over, defScope s_over, [], []⟩
def d_less : He.DefD := ⟨("less", none), "less", "less", defArgs s_less, defBody s_less, defScope s_less, [], []⟩
def d_total : He.DefD := ⟨("total", none), "total", "total", defArgs s_total, defBody s_total, defScope s_total, [], [("start", .glo "NOUGHT")]⟩
def d_least : He.DefD := ⟨("least", none), "least", "least", defArgs s_least, defBody s_least, defScope s_least, [], [("default", .non)]⟩
def d_greatest : He.DefD := ⟨("greatest", none), "greatest", "greatest", defArgs s_greatest, defBody s_greatest, defScope s_greatest, [], [("default", .non)]⟩
def d__law_pool : He.DefD := ⟨("_law_pool", none), "_law_pool", "_law_pool", defArgs s__law_pool, defBody s__law_pool, defScope s__law_pool, [], []⟩
def d__law_take : He.DefD := ⟨("_law_take", none), "_law_take", "_law_take", defArgs s__law_take, defBody s__law_take, defScope s__law_take, [], []⟩
def d__law_number : He.DefD := ⟨("_law_number", none), "_law_number", "_law_number", defArgs s__law_number, defBody s__law_number, defScope s__law_number, [], []⟩
def d__law_low : He.DefD := ⟨("_law_low", none), "_law_low", "_law_low", defArgs s__law_low, defBody s__law_low, defScope s__law_low, [], []⟩
def d__law_share : He.DefD := ⟨("_law_share", none), "_law_share", "_law_share", defArgs s__law_share, defBody s__law_share, defScope s__law_share, [], []⟩
def d__law_over_nought : He.DefD := ⟨("_law_over_nought", none), "_law_over_nought", "_law_over_nought", defArgs s__law_over_nought, defBody s__law_over_nought, defScope s__law_over_nought, [], []⟩
def d__law_two_right : He.DefD := ⟨("_law_two_right", none), "_law_two_right", "_law_two_right", defArgs s__law_two_right, defBody s__law_two_right, defScope s__law_two_right, [], []⟩
def d__law_sum : He.DefD := ⟨("_law_sum", none), "_law_sum", "_law_sum", defArgs s__law_sum, defBody s__law_sum, defScope s__law_sum, [], []⟩
def d__law_best : He.DefD := ⟨("_law_best", none), "_law_best", "_law_best", defArgs s__law_best, defBody s__law_best, defScope s__law_best, [], []⟩
def d__law_many_right : He.DefD := ⟨("_law_many_right", none), "_law_many_right", "_law_many_right", defArgs s__law_many_right, defBody s__law_many_right, defScope s__law_many_right, [], []⟩
def d_law : He.DefD := ⟨("law", none), "law", "law", defArgs s_law, defBody s_law, defScope s_law, [], []⟩
def fns : List He.DefD := [d_lowest, d_plus, d_minus, d_times, d_over, d_less, d_total, d_least, d_greatest, d__law_pool, d__law_take, d__law_number, d__law_low, d__law_share, d__law_over_nought, d__law_two_right, d__law_sum, d__law_best, d__law_many_right, d_law]
def fas : List He.Fa := [.glo "lowest", .glo "plus", .glo "minus", .glo "times", .glo "over", .glo "less", .glo "total", .glo "least", .glo "greatest", .glo "_law_pool", .glo "_law_take", .glo "_law_number", .glo "_law_low", .glo "_law_share", .glo "_law_over_nought", .glo "_law_two_right", .glo "_law_sum", .glo "_law_best", .glo "_law_many_right", .glo "law", .free "abs", .free "enumerate", .free "int", .free "range", .free "isinstance", .free "ZeroDivisionError", .free "repr", .free "len", .free "min", .free "max", .glo "NOUGHT", .glo "ByNought"]
def exs (K : PySem.W.Frag) : Bool := He.tupB K "NOUGHT" [.int 0, .int 1] && exc0B K "ByNought" [.type "ZeroDivisionError", .type "ArithmeticError", .type "Exception", .type "BaseException", .type "object"] "ZeroDivisionError.__new__" && cloB K (.ref (gaC K "ByNought")) CS tb_ByNought && kitB2 K (.type "ZeroDivisionError") CS tb_ZeroDivisionError
abbrev R : PySem.W.OpenRow := PySem.W.OpenLaw.row PySem.Challenge.rw_virtualturns_k02_shares_reckoned
abbrev hk : PySem.W.Hook := He.hookX 5 fas fns [] [] exs
def ob (s : PySem.W.SharedT) : He.AlX := He.obsX 5 fas fns [] [] exs (HandSHeadRun.getT s)
theorem ob_eq (s : PySem.W.SharedT) : ob s = hk.obs s.abs := He.obsX_eq (HandSHeadRun.getT_eq s)
def loose0 : List PySem.Str := ["ByNought", "NOUGHT", "lowest", "plus", "minus", "times", "over", "less", "total", "least", "greatest", "_law_pool", "_law_take", "_law_number", "_law_low", "_law_share", "_law_over_nought", "_law_two_right", "_law_sum", "_law_best", "_law_many_right"]
def looses : List PySem.Str := loose0
theorem run (w : World) : HandSHeadRun.RunEq R (PySem.W.view R.prog [24]) hk ob 4000 looses w := by
  intro os
  kernel_rfl
theorem facts {P : Program} {w : World} {K : PySem.W.Frag} {h : Heap} {mg : Str → Option Value} {f : Addr} (X : K.In h) (G : h.Ns mainGlobals mg) (hfa : mg ("law" : Str) = some (.ref f)) (c : He.SaysX fas fns [] [] exs w h K) :
    ∃ fd : FuncData, (∀ (s : Shared) (u : Value), BindsTo s fd ⟨[u], []⟩ [("_law_script", u)]) ∧ ∀ base : Heap, K.In base → base.Ns mainGlobals mg → FnG P w K mg base 5 f fd ["_law_script"] (spF K (fun x => He.ga K (Str.ofString x)) 1 m_law) := by
  have cd := c.t.d
  obtain ⟨fd_lowest, F_lowest⟩ := cd.def_ 0 (d := d_lowest) rfl
  obtain ⟨fd_plus, F_plus⟩ := cd.def_ 1 (d := d_plus) rfl
  obtain ⟨fd_minus, F_minus⟩ := cd.def_ 2 (d := d_minus) rfl
  obtain ⟨fd_times, F_times⟩ := cd.def_ 3 (d := d_times) rfl
  obtain ⟨fd_over, F_over⟩ := cd.def_ 4 (d := d_over) rfl
  obtain ⟨fd_less, F_less⟩ := cd.def_ 5 (d := d_less) rfl
  obtain ⟨fd_total, F_total⟩ := cd.def_ 6 (d := d_total) rfl
  obtain ⟨fd_least, F_least⟩ := cd.def_ 7 (d := d_least) rfl
  obtain ⟨fd_greatest, F_greatest⟩ := cd.def_ 8 (d := d_greatest) rfl
  obtain ⟨fd__law_pool, F__law_pool⟩ := cd.def_ 9 (d := d__law_pool) rfl
  obtain ⟨fd__law_take, F__law_take⟩ := cd.def_ 10 (d := d__law_take) rfl
  obtain ⟨fd__law_number, F__law_number⟩ := cd.def_ 11 (d := d__law_number) rfl
  obtain ⟨fd__law_low, F__law_low⟩ := cd.def_ 12 (d := d__law_low) rfl
  obtain ⟨fd__law_share, F__law_share⟩ := cd.def_ 13 (d := d__law_share) rfl
  obtain ⟨fd__law_over_nought, F__law_over_nought⟩ := cd.def_ 14 (d := d__law_over_nought) rfl
  obtain ⟨fd__law_two_right, F__law_two_right⟩ := cd.def_ 15 (d := d__law_two_right) rfl
  obtain ⟨fd__law_sum, F__law_sum⟩ := cd.def_ 16 (d := d__law_sum) rfl
  obtain ⟨fd__law_best, F__law_best⟩ := cd.def_ 17 (d := d__law_best) rfl
  obtain ⟨fd__law_many_right, F__law_many_right⟩ := cd.def_ 18 (d := d__law_many_right) rfl
  obtain ⟨fd_law, F_law⟩ := cd.def_ 19 (d := d_law) rfl
  have g_lowest := He.glo_ok X G (cd.fact 0 (f := .glo "lowest") rfl)
  have g_plus := He.glo_ok X G (cd.fact 1 (f := .glo "plus") rfl)
  have g_minus := He.glo_ok X G (cd.fact 2 (f := .glo "minus") rfl)
  have g_times := He.glo_ok X G (cd.fact 3 (f := .glo "times") rfl)
  have g_over := He.glo_ok X G (cd.fact 4 (f := .glo "over") rfl)
  have g_less := He.glo_ok X G (cd.fact 5 (f := .glo "less") rfl)
  have g_total := He.glo_ok X G (cd.fact 6 (f := .glo "total") rfl)
  have g_least := He.glo_ok X G (cd.fact 7 (f := .glo "least") rfl)
  have g_greatest := He.glo_ok X G (cd.fact 8 (f := .glo "greatest") rfl)
  have g__law_pool := He.glo_ok X G (cd.fact 9 (f := .glo "_law_pool") rfl)
  have g__law_take := He.glo_ok X G (cd.fact 10 (f := .glo "_law_take") rfl)
  have g__law_number := He.glo_ok X G (cd.fact 11 (f := .glo "_law_number") rfl)
  have g__law_low := He.glo_ok X G (cd.fact 12 (f := .glo "_law_low") rfl)
  have g__law_share := He.glo_ok X G (cd.fact 13 (f := .glo "_law_share") rfl)
  have g__law_over_nought := He.glo_ok X G (cd.fact 14 (f := .glo "_law_over_nought") rfl)
  have g__law_two_right := He.glo_ok X G (cd.fact 15 (f := .glo "_law_two_right") rfl)
  have g__law_sum := He.glo_ok X G (cd.fact 16 (f := .glo "_law_sum") rfl)
  have g__law_best := He.glo_ok X G (cd.fact 17 (f := .glo "_law_best") rfl)
  have g__law_many_right := He.glo_ok X G (cd.fact 18 (f := .glo "_law_many_right") rfl)
  have g_law := He.glo_ok X G (cd.fact 19 (f := .glo "law") rfl)
  have n_abs := He.free_ok X G (cd.fact 20 (f := .free "abs") rfl)
  have n_enumerate := He.free_ok X G (cd.fact 21 (f := .free "enumerate") rfl)
  have n_int := He.free_ok X G (cd.fact 22 (f := .free "int") rfl)
  have n_range := He.free_ok X G (cd.fact 23 (f := .free "range") rfl)
  have n_isinstance := He.free_ok X G (cd.fact 24 (f := .free "isinstance") rfl)
  have n_ZeroDivisionError := He.free_ok X G (cd.fact 25 (f := .free "ZeroDivisionError") rfl)
  have n_repr := He.free_ok X G (cd.fact 26 (f := .free "repr") rfl)
  have n_len := He.free_ok X G (cd.fact 27 (f := .free "len") rfl)
  have n_min := He.free_ok X G (cd.fact 28 (f := .free "min") rfl)
  have n_max := He.free_ok X G (cd.fact 29 (f := .free "max") rfl)
  have g_NOUGHT := He.glo_ok X G (cd.fact 30 (f := .glo "NOUGHT") rfl)
  have g_ByNought := He.glo_ok X G (cd.fact 31 (f := .glo "ByNought") rfl)
  let cl : String → Addr := fun x => He.ga K (Str.ofString x)
  have hex : exs K = true := c.more
  unfold exs at hex
  simp only [Bool.and_eq_true] at hex
  have h_NOUGHT : mg "NOUGHT" = some (.ref (He.ga K "NOUGHT")) ∧ RelV (.ref (He.ga K "NOUGHT")) (.ref (He.ga K "NOUGHT")) ∧ ∀ as H, Sh K cl as H (.ref (He.ga K "NOUGHT")) c_NOUGHT := ⟨g_NOUGHT, rfl, fun as H => .tup (.inr fun H => He.tupB_ok hex.1.1.1 H) (.cons (.int _) (.cons (.int _) (.nil)))⟩
  have E_ByNought := (exc0_of PySem.F.excBase_ZeroDivisionError g_ByNought hex.1.1.2 : Exc0 K mg cl "ByNought")
  have O_ByNought := (clo_of hex.1.2 : ClO K cl (.ref (cl "ByNought")) CS tb_ByNought)
  have KB_ZeroDivisionError := (kit_of2 hex.2 : KitO K cl (.type "ZeroDivisionError") CS tb_ZeroDivisionError)
  have B__law_best_2 := kB__law_best_2 (cl := cl) F__law_best
  have B__law_low_2 := kB__law_low_2 (cl := cl) F__law_low
  have B__law_many_right_3 := kB__law_many_right_3 (cl := cl) F__law_many_right
  have B__law_number_1 := kB__law_number_1 (cl := cl) F__law_number
  have B__law_over_nought_1 := kB__law_over_nought_1 (cl := cl) F__law_over_nought
  have B__law_pool_2 := kB__law_pool_2 (cl := cl) F__law_pool
  have B__law_share_1 := kB__law_share_1 (cl := cl) F__law_share
  have B__law_sum_1 := kB__law_sum_1 (cl := cl) F__law_sum
  have B__law_take_2 := kB__law_take_2 (cl := cl) F__law_take
  have B__law_two_right_2 := kB__law_two_right_2 (cl := cl) F__law_two_right
  have B_greatest_0_default_some := kB_greatest_0_default_some (cl := cl) F_greatest
  have B_greatest_1 := kB_greatest_1 (cl := cl) F_greatest
  have B_least_1 := kB_least_1 (cl := cl) F_least
  have B_least_1_default := kB_least_1_default (cl := cl) F_least
  have B_less_2 := kB_less_2 (cl := cl) F_less
  have B_lowest_2 := kB_lowest_2 (cl := cl) F_lowest
  have B_minus_2 := kB_minus_2 (cl := cl) F_minus
  have B_over_2 := kB_over_2 (cl := cl) F_over
  have B_plus_2 := kB_plus_2 (cl := cl) F_plus
  have B_times_2 := kB_times_2 (cl := cl) F_times
  have B_total_0_start_some := kB_total_0_start_some (cl := cl) F_total h_NOUGHT
  have B_total_1 := kB_total_1 (cl := cl) F_total h_NOUGHT
  have ef := hfa.symm.trans g_law
  cases ef
  refine ⟨fd_law, fun s u => FunD.bindsA (ps := ["_law_script"]) F_law (fun _ _ _ _ _ _ us hl => match us, hl with | [_], _ => rfl) s [u] rfl, fun base hb hn => ?_⟩
  have C_lowest : Cal P w K mg base cl 1 "lowest" _ fd_lowest P_lowest m_lowest := ⟨ok_lowest (P := P) (w := w) (base := base) (cl := cl) F_lowest n_abs, g_lowest, F_lowest.kp⟩
  have C_plus : Cal P w K mg base cl 2 "plus" _ fd_plus P_plus m_plus := ⟨ok_plus (P := P) (w := w) (base := base) (cl := cl) F_plus C_lowest B_lowest_2, g_plus, F_plus.kp⟩
  have C_minus : Cal P w K mg base cl 2 "minus" _ fd_minus P_minus m_minus := ⟨ok_minus (P := P) (w := w) (base := base) (cl := cl) F_minus C_lowest B_lowest_2, g_minus, F_minus.kp⟩
  have C_times : Cal P w K mg base cl 2 "times" _ fd_times P_times m_times := ⟨ok_times (P := P) (w := w) (base := base) (cl := cl) F_times C_lowest B_lowest_2, g_times, F_times.kp⟩
  have C_over : Cal P w K mg base cl 2 "over" _ fd_over P_over m_over := ⟨ok_over (P := P) (w := w) (base := base) (cl := cl) F_over C_lowest B_lowest_2 E_ByNought, g_over, F_over.kp⟩
  have C_less : Cal P w K mg base cl 1 "less" _ fd_less P_less m_less := ⟨ok_less (P := P) (w := w) (base := base) (cl := cl) F_less, g_less, F_less.kp⟩
  have C_total : Cal P w K mg base cl 3 "total" _ fd_total P_total m_total := ⟨ok_total (P := P) (w := w) (base := base) (cl := cl) F_total C_plus B_plus_2, g_total, F_total.kp⟩
  have C_least : Cal P w K mg base cl 2 "least" _ fd_least P_least m_least := ⟨ok_least (P := P) (w := w) (base := base) (cl := cl) F_least C_less B_less_2 n_enumerate, g_least, F_least.kp⟩
  have C_greatest : Cal P w K mg base cl 2 "greatest" _ fd_greatest P_greatest m_greatest := ⟨ok_greatest (P := P) (w := w) (base := base) (cl := cl) F_greatest C_less B_less_2 n_enumerate, g_greatest, F_greatest.kp⟩
  have C__law_pool : Cal P w K mg base cl 1 "_law_pool" _ fd__law_pool P__law_pool m__law_pool := ⟨ok__law_pool (P := P) (w := w) (base := base) (cl := cl) F__law_pool n_int, g__law_pool, F__law_pool.kp⟩
  have C__law_take : Cal P w K mg base cl 1 "_law_take" _ fd__law_take P__law_take m__law_take := ⟨ok__law_take (P := P) (w := w) (base := base) (cl := cl) F__law_take, g__law_take, F__law_take.kp⟩
  have C__law_number : Cal P w K mg base cl 2 "_law_number" _ fd__law_number P__law_number m__law_number := ⟨ok__law_number (P := P) (w := w) (base := base) (cl := cl) F__law_number C__law_take B__law_take_2 n_int n_range, g__law_number, F__law_number.kp⟩
  have C__law_low : Cal P w K mg base cl 1 "_law_low" _ fd__law_low P__law_low m__law_low := ⟨ok__law_low (P := P) (w := w) (base := base) (cl := cl) F__law_low n_abs n_int, g__law_low, F__law_low.kp⟩
  have C__law_share : Cal P w K mg base cl 3 "_law_share" _ fd__law_share P__law_share m__law_share := ⟨ok__law_share (P := P) (w := w) (base := base) (cl := cl) F__law_share C__law_number C__law_low B__law_low_2 B__law_number_1 n_int, g__law_share, F__law_share.kp⟩
  have C__law_over_nought : Cal P w K mg base cl 3 "_law_over_nought" _ fd__law_over_nought P__law_over_nought m__law_over_nought := ⟨ok__law_over_nought (P := P) (w := w) (base := base) (cl := cl) F__law_over_nought C_over B_over_2 n_isinstance n_ZeroDivisionError h_NOUGHT E_ByNought O_ByNought KB_ZeroDivisionError, g__law_over_nought, F__law_over_nought.kp⟩
  have C__law_two_right : Cal P w K mg base cl 4 "_law_two_right" _ fd__law_two_right P__law_two_right m__law_two_right := ⟨ok__law_two_right (P := P) (w := w) (base := base) (cl := cl) F__law_two_right C__law_low C_times C_minus C_plus C_less C__law_over_nought C_over B__law_low_2 B__law_over_nought_1 B_less_2 B_minus_2 B_over_2 B_plus_2 B_times_2 n_repr, g__law_two_right, F__law_two_right.kp⟩
  have C__law_sum : Cal P w K mg base cl 2 "_law_sum" _ fd__law_sum P__law_sum m__law_sum := ⟨ok__law_sum (P := P) (w := w) (base := base) (cl := cl) F__law_sum C__law_low B__law_low_2, g__law_sum, F__law_sum.kp⟩
  have C__law_best : Cal P w K mg base cl 1 "_law_best" _ fd__law_best P__law_best m__law_best := ⟨ok__law_best (P := P) (w := w) (base := base) (cl := cl) F__law_best, g__law_best, F__law_best.kp⟩
  have C__law_many_right : Cal P w K mg base cl 4 "_law_many_right" _ fd__law_many_right P__law_many_right m__law_many_right := ⟨ok__law_many_right (P := P) (w := w) (base := base) (cl := cl) F__law_many_right C_total C__law_sum C__law_best C_greatest C_least B__law_best_2 B__law_sum_1 B_greatest_0_default_some B_greatest_1 B_least_1 B_least_1_default B_total_0_start_some B_total_1 n_repr, g__law_many_right, F__law_many_right.kp⟩
  exact ok_law (P := P) (w := w) (base := base) (cl := cl) F_law C__law_pool C__law_share C__law_take C__law_two_right C__law_many_right B__law_many_right_3 B__law_pool_2 B__law_share_1 B__law_take_2 B__law_two_right_2 n_len n_min n_max n_range
end K02
open PySem PySem.W PySem.Calls PyProof.Rows
theorem PySem.Challenge.cw_virtualturns_k02_shares_reckoned_holds : PySem.Challenge.rw_virtualturns_k02_shares_reckoned.Holds := by
  w_on; o_law
  refine HandSHeadRun.head_any (r := OpenLaw.row PySem.Challenge.rw_virtualturns_k02_shares_reckoned) (q := view (OpenLaw.row PySem.Challenge.rw_virtualturns_k02_shares_reckoned).prog [24]) (H := K02.hk) (ob := K02.ob) (M := 4000) (loose := K02.looses) (d := HandSHeadRun.topDef (OpenLaw.row PySem.Challenge.rw_virtualturns_k02_shares_reckoned).prog 24) (kwd := []) K02.ob_eq
    (by kernel_rfl) (fun s => by kernel_rfl) K02.run (by kernel_rfl) (by kernel_rfl) (by kernel_rfl) (by rfl) (by first | assumption | decide +kernel) (by decide +kernel) ⟨rfl, rfl, rfl, rfl, rfl, by decide +kernel⟩ ?hw ?hc
  case hw => w_witness2
  case hc =>
    refine F3.walk_F (l := PySem.Challenge.rw_virtualturns_k02_shares_reckoned) (n := 63) (k := 5) (x := "_law_script") rfl (by decide) (by kernel_rfl) ⟨rfl, by decide, by decide⟩ ?F
    intro w mg fa h Y G hmg0
    obtain ⟨K, KX, c⟩ := Y
    have hmg : mg ("law" : PySem.Str) = some (.ref fa) := by
      have e : (HandSHeadRun.topDef (OpenLaw.row PySem.Challenge.rw_virtualturns_k02_shares_reckoned).prog 24).name = ("law" : PySem.Str) := by kernel_rfl
      rw [← e]
      exact hmg0
    obtain ⟨fd, hb, hF⟩ := K02.facts (P := (PySem.Challenge.rw_virtualturns_k02_shares_reckoned).prog) (w := w) KX G hmg c
    exact ⟨K, fd, _, K02.m_law, KX, hb, K02.law_true, hF⟩
