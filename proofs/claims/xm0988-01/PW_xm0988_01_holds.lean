import PyProof.Rows.All
import Wide.All
import OpenK.AllK
import Wide.FinOn
import PySem.Challenge.RW_xm0988_01
set_option Elab.async false
set_option genSizeOf false
section
open PySem PySem.W PyProof.Rows PySem.Calls
set_option autoImplicit false
namespace Mine

/-- data: what a value of the law's run stands for -/
inductive D where
  | none
  | bool (b : Bool)
  | int (i : Int)
  | list (l : List D)
  | tup (l : List D)
  | rng (a b c : Int)

mutual
inductive Rep (h : Heap) (P : Addr → Prop) : Value → D → Prop
  | none : Rep h P .none .none
  | bool (b : Bool) : Rep h P (.bool b) (.bool b)
  | int (i : Int) (t : Tok) : Rep h P (.int i t) (.int i)
  | list {a : Addr} {vs : List Value} {n : Nat} {ds : List D} : P a → h.get? a = some { cls := .type "list", data := .seq vs.toArray n } → RepL h P vs ds → Rep h P (.ref a) (.list ds)
  | tup {a : Addr} {vs : List Value} {n : Nat} {ds : List D} : P a → h.get? a = some { cls := .type "tuple", data := .seq vs.toArray n } → RepL h P vs ds → Rep h P (.ref a) (.tup ds)
  | rng {r : Addr} {a b c : Int} {t u v : Tok} : P r → IsRange h r a b c t u v → Rep h P (.ref r) (.rng a b c)
inductive RepL (h : Heap) (P : Addr → Prop) : List Value → List D → Prop
  | nil : RepL h P [] []
  | cons {v : Value} {d : D} {vs : List Value} {ds : List D} : Rep h P v d → RepL h P vs ds → RepL h P (v :: vs) (d :: ds)
end

mutual
theorem Rep.mono {h h' : Heap} {P P' : Addr → Prop} (hk : ∀ b o, P b → h.get? b = some o → P' b ∧ h'.get? b = some o) : ∀ {v : Value} {d : D}, Rep h P v d → Rep h' P' v d
  | _, _, .none => .none
  | _, _, .bool b => .bool b
  | _, _, .int i t => .int i t
  | _, _, .list hp ho r => .list (hk _ _ hp ho).1 (hk _ _ hp ho).2 (RepL.mono hk r)
  | _, _, .tup hp ho r => .tup (hk _ _ hp ho).1 (hk _ _ hp ho).2 (RepL.mono hk r)
  | _, _, .rng hp ho => .rng (hk _ _ hp ho).1 (hk _ _ hp ho).2
theorem RepL.mono {h h' : Heap} {P P' : Addr → Prop} (hk : ∀ b o, P b → h.get? b = some o → P' b ∧ h'.get? b = some o) : ∀ {vs : List Value} {ds : List D}, RepL h P vs ds → RepL h' P' vs ds
  | _, _, .nil => .nil
  | _, _, .cons r rs => .cons (Rep.mono hk r) (RepL.mono hk rs)
end

theorem Rep.int_inv {h : Heap} {P : Addr → Prop} {v : Value} {x : Int} (r : Rep h P v (.int x)) : ∃ t, v = .int x t := by cases r; exact ⟨_, rfl⟩
theorem Rep.bool_inv {h : Heap} {P : Addr → Prop} {v : Value} {b : Bool} (r : Rep h P v (.bool b)) : v = .bool b := by cases r; rfl
theorem Rep.list_inv {h : Heap} {P : Addr → Prop} {v : Value} {ds : List D} (r : Rep h P v (.list ds)) : ∃ a vs n, v = .ref a ∧ P a ∧ h.get? a = some { cls := .type "list", data := .seq vs.toArray n } ∧ RepL h P vs ds := by cases r with | list p e l => exact ⟨_, _, _, rfl, p, e, l⟩
theorem Rep.tup_inv {h : Heap} {P : Addr → Prop} {v : Value} {ds : List D} (r : Rep h P v (.tup ds)) : ∃ a vs n, v = .ref a ∧ P a ∧ h.get? a = some { cls := .type "tuple", data := .seq vs.toArray n } ∧ RepL h P vs ds := by cases r with | tup p e l => exact ⟨_, _, _, rfl, p, e, l⟩
theorem RepL.nil_inv {h : Heap} {P : Addr → Prop} {vs : List Value} (r : RepL h P vs []) : vs = [] := by cases r; rfl
theorem RepL.cons_inv {h : Heap} {P : Addr → Prop} {vs : List Value} {d : D} {ds : List D} (r : RepL h P vs (d :: ds)) : ∃ v ws, vs = v :: ws ∧ Rep h P v d ∧ RepL h P ws ds := by cases r with | cons a b => exact ⟨_, _, rfl, a, b⟩
theorem RepL.two_inv {h : Heap} {P : Addr → Prop} {vs : List Value} {y z : D} (r : RepL h P vs [y, z]) : ∃ v u, vs = [v, u] ∧ Rep h P v y ∧ Rep h P u z := by
  obtain ⟨v, ws, rfl, r1, r⟩ := r.cons_inv
  obtain ⟨u, ws, rfl, r2, r⟩ := r.cons_inv
  obtain rfl := r.nil_inv
  exact ⟨v, u, rfl, r1, r2⟩
theorem RepL.three_inv {h : Heap} {P : Addr → Prop} {vs : List Value} {x y z : D} (r : RepL h P vs [x, y, z]) : ∃ v u t, vs = [v, u, t] ∧ Rep h P v x ∧ Rep h P u y ∧ Rep h P t z := by
  obtain ⟨v, ws, rfl, r1, r⟩ := r.cons_inv
  obtain ⟨u, t, rfl, r2, r3⟩ := r.two_inv
  exact ⟨v, u, t, rfl, r1, r2, r3⟩

section
variable {h : Heap} {P : Addr → Prop} {vs ws : List Value} {ds es : List D}
theorem RepL.length (r : RepL h P vs ds) : vs.length = ds.length := by
  induction vs generalizing ds with
  | nil => cases r; rfl
  | cons v vs ih => cases r with | cons _ r => rw [List.length_cons, List.length_cons, ih r]
theorem RepL.append (r : RepL h P vs ds) (k : RepL h P ws es) : RepL h P (vs ++ ws) (ds ++ es) := by
  induction vs generalizing ds with
  | nil => cases r; exact k
  | cons v vs ih => cases r with | cons a r => exact .cons a (ih r)
theorem RepL.get (r : RepL h P vs ds) {i : Nat} {d : D} (hd : ds[i]? = some d) : ∃ v, vs[i]? = some v ∧ Rep h P v d := by
  induction vs generalizing ds i with
  | nil => cases r; simp at hd
  | cons v vs ih =>
    cases r with
    | cons a r =>
      cases i with
      | zero => simp at hd; subst hd; exact ⟨v, rfl, a⟩
      | succ i => simpa using ih r (by simpa using hd)
theorem RepL.get' (r : RepL h P vs ds) {i : Nat} {v : Value} (hv : vs[i]? = some v) : ∃ d, ds[i]? = some d ∧ Rep h P v d := by
  induction vs generalizing ds i with
  | nil => simp at hv
  | cons w vs ih =>
    cases r with
    | cons a r =>
      cases i with
      | zero => simp at hv; subst hv; exact ⟨_, rfl, a⟩
      | succ i => simpa using ih r (by simpa using hv)
theorem RepL.take (r : RepL h P vs ds) (k : Nat) : RepL h P (vs.take k) (ds.take k) := by
  induction vs generalizing ds k with
  | nil => cases r; simpa using RepL.nil
  | cons v vs ih =>
    cases r with
    | cons a r => cases k with
      | zero => exact .nil
      | succ k => exact .cons a (ih r k)
theorem RepL.drop (r : RepL h P vs ds) (k : Nat) : RepL h P (vs.drop k) (ds.drop k) := by
  induction vs generalizing ds k with
  | nil => cases r; simpa using RepL.nil
  | cons v vs ih =>
    cases r with
    | cons a r => cases k with
      | zero => exact .cons a r
      | succ k => exact ih r k
theorem RepL.set (r : RepL h P vs ds) {v : Value} {d : D} (a : Rep h P v d) (k : Nat) : RepL h P (vs.set k v) (ds.set k d) := by
  induction vs generalizing ds k with
  | nil => cases r; simpa using RepL.nil
  | cons v vs ih =>
    cases r with
    | cons b r => cases k with
      | zero => exact .cons a r
      | succ k => exact .cons b (ih r k)
theorem RepL.reverse (r : RepL h P vs ds) : RepL h P vs.reverse ds.reverse := by
  induction vs generalizing ds with
  | nil => cases r; simpa using RepL.nil
  | cons v vs ih =>
    cases r with
    | cons a r => simpa using (ih r).append (.cons a .nil)
theorem RepL.ints (r : RepL h P vs (es.map id)) : RepL h P vs es := by simpa using r
end

/-- a list of ints -/
noncomputable def di (ns : List Int) : List D := ns.map .int
theorem RepL.intsAre {h : Heap} {P : Addr → Prop} {vs : List Value} {ns : List Int} (r : RepL h P vs (di ns)) : IntsAre vs ns := by
  induction ns generalizing vs with
  | nil => cases r; exact IntsAre.nil
  | cons n ns ih => cases r with | cons a r => cases a; exact IntsAre.cons _ _ (ih r)

/-- a local name's cell: nothing known, a shared datum, a list that this frame alone holds -/
inductive Cell where
  | no
  | sh (d : D)
  | ow (l : List D)
noncomputable abbrev St := Nat → Cell
noncomputable def upd {β : Type} (σ : Nat → β) (i : Nat) (c : β) : Nat → β := fun j => if j = i then c else σ j
@[simp] theorem upd_self {β : Type} (σ : Nat → β) (i : Nat) (c : β) : upd σ i c i = c := if_pos rfl
theorem upd_ne {β : Type} (σ : Nat → β) {i j : Nat} (c : β) (h : j ≠ i) : upd σ i c j = σ j := if_neg h

/-- where the held lists lie; what is set apart (iterators at work, a list that a comprehension fills) -/
structure Al where
  ad : Nat → Addr
  its : List Addr
noncomputable def Al.put (α : Al) (i : Nat) (a : Addr) : Al := { α with ad := upd α.ad i a }
theorem put_self (α : Al) (i : Nat) (a : Addr) : (α.put i a).ad i = a := upd_self ..
theorem put_ne (α : Al) {i j : Nat} (a : Addr) (h : j ≠ i) : (α.put i a).ad j = α.ad j := upd_ne _ _ h
theorem put_its (α : Al) (i : Nat) (a : Addr) : (α.put i a).its = α.its := rfl

structure Fm where
  A : Around
  env : Env
  names : List Str
  entry : Heap
  old : Addr → Prop
  bx : Option Addr
  bi : Nat

/-- an address that this frame may show and never turns -/
structure Pr (fr : Fm) (α : Al) (σ : St) (b : Addr) : Prop where
  old : fr.old b ∨ fr.entry.get? b = none
  loc : b ≠ fr.env.locals
  cell : ∀ x c, fr.env.cells.lookup x = some c → b ≠ c
  own : ∀ i l, σ i = .ow l → b ≠ α.ad i
  its : b ∉ α.its

noncomputable def Look (env : Env) (h : Heap) (x : Str) (v : Value) : Prop :=
  (env.kindOf x = some .local ∧ ∃ m, h.Ns env.locals m ∧ m x = some v) ∨
  ((env.kindOf x = some .cell ∨ env.kindOf x = some .free) ∧ ∃ c, env.cells.lookup x = some c ∧ h.IsCell c (some v))

noncomputable abbrev lst (vs : List Value) (n : Nat) : Obj := { cls := .type "list", data := .seq vs.toArray n }
noncomputable abbrev tpl (vs : List Value) (n : Nat) : Obj := { cls := .type "tuple", data := .seq vs.toArray n }

structure Inv (fr : Fm) (α : Al) (σ : St) (h : Heap) : Prop where
  ns : ∃ m, h.Ns fr.env.locals m
  cells : ∀ x c, fr.env.cells.lookup x = some c → ∃ w, h.IsCell c w
  keep : ∀ b o, fr.bx ≠ some b → fr.entry.get? b = some o → h.get? b = some o
  box : ∀ a, fr.bx = some a → α.ad fr.bi = a ∧ ∃ l, σ fr.bi = .ow l
  var : ∀ i x, fr.names[i]? = some x → ∀ d, σ i = .sh d → ∃ v, Look fr.env h x v ∧ Rep h (Pr fr α σ) v d
  ovar : ∀ i x, fr.names[i]? = some x → ∀ l, σ i = .ow l → Look fr.env h x (.ref (α.ad i))
  own : ∀ i l, σ i = .ow l → (fr.entry.get? (α.ad i) = none ∨ fr.bx = some (α.ad i)) ∧ ∃ vs n, h.get? (α.ad i) = some (lst vs n) ∧ RepL h (Pr fr α σ) vs l
  its : ∀ b ∈ α.its, (∃ o, h.get? b = some o) ∧ fr.entry.get? b = none ∧ b ≠ fr.env.locals ∧ (∀ x c, fr.env.cells.lookup x = some c → b ≠ c) ∧ ∀ i l, σ i = .ow l → b ≠ α.ad i
  dist : ∀ i j l l', σ i = .ow l → σ j = .ow l' → i ≠ j → α.ad i ≠ α.ad j

/-- every object stays as it is -/
noncomputable def Kp (h h' : Heap) : Prop := ∀ b o, h.get? b = some o → h'.get? b = some o
theorem Kp.refl (h : Heap) : Kp h h := fun _ _ e => e
theorem Kp.trans {h h' h'' : Heap} (a : Kp h h') (b : Kp h' h'') : Kp h h'' := fun _ _ e => b _ _ (a _ _ e)
theorem Kp.push (h : Heap) (o : Obj) : Kp h (h.push o) := fun _ _ e => Heap.get?_push_of_some o e
theorem Kp.none {h h' : Heap} (a : Kp h h') {b : Addr} (e : h'.get? b = none) : h.get? b = none := by
  cases q : h.get? b with
  | none => rfl
  | some o => rw [a _ _ q] at e; cases e

theorem Look.kp {env : Env} {h h' : Heap} {x : Str} {v : Value} (k : Kp h h') (l : Look env h x v) : Look env h' x v := by
  rcases l with ⟨a, m, hn, hm⟩ | ⟨a, c, hc, hv⟩
  · exact .inl ⟨a, m, hn.keeps k, hm⟩
  · exact .inr ⟨a, c, hc, hv.keeps k⟩

theorem Rep.kp {h h' : Heap} {P : Addr → Prop} {v : Value} {d : D} (k : Kp h h') (r : Rep h P v d) : Rep h' P v d := r.mono fun b o p e => ⟨p, k b o e⟩
theorem RepL.kp {h h' : Heap} {P : Addr → Prop} {vs : List Value} {ds : List D} (k : Kp h h') (r : RepL h P vs ds) : RepL h' P vs ds := r.mono fun b o p e => ⟨p, k b o e⟩

theorem Inv.kp {fr : Fm} {α : Al} {σ : St} {h h' : Heap} (I : Inv fr α σ h) (k : Kp h h') : Inv fr α σ h' where
  ns := let ⟨m, e⟩ := I.ns; ⟨m, e.keeps k⟩
  cells := fun x c hc => let ⟨w, e⟩ := I.cells x c hc; ⟨w, e.keeps k⟩
  keep := fun b o hb e => k _ _ (I.keep b o hb e)
  box := I.box
  var := fun i x hx d hd => let ⟨v, a, r⟩ := I.var i x hx d hd; ⟨v, a.kp k, r.kp k⟩
  ovar := fun i x hx l hl => (I.ovar i x hx l hl).kp k
  own := fun i l hl => let ⟨a, vs, n, e, r⟩ := I.own i l hl; ⟨a, vs, n, k _ _ e, r.kp k⟩
  its := fun b hb => let ⟨⟨o, e⟩, r⟩ := I.its b hb; ⟨⟨o, k _ _ e⟩, r⟩
  dist := I.dist

/-- what is not allocated is free to be shown -/
theorem Inv.fresh {fr : Fm} {α : Al} {σ : St} {h : Heap} (I : Inv fr α σ h) {b : Addr} (e : h.get? b = none) : Pr fr α σ b where
  old := by
    cases q : fr.entry.get? b with
    | none => exact .inr rfl
    | some o =>
      by_cases hb : fr.bx = some b
      · obtain ⟨h1, l, h2⟩ := I.box b hb
        obtain ⟨_, vs, n, h3, _⟩ := I.own _ l h2
        rw [h1, e] at h3; cases h3
      · rw [I.keep b o hb q] at e; cases e
  loc := by
    obtain ⟨m, o, _, _, ho, _⟩ := I.ns
    rintro rfl; rw [e] at ho; cases ho
  cell := fun x c hc => by
    obtain ⟨w, o, ho, _⟩ := I.cells x c hc
    rintro rfl; rw [e] at ho; cases ho
  own := fun i l hl => by
    obtain ⟨_, vs, n, ho, _⟩ := I.own i l hl
    rintro rfl; rw [e] at ho; cases ho
  its := fun hb => by
    obtain ⟨⟨o, ho⟩, _⟩ := I.its b hb
    rw [e] at ho; cases ho

theorem rep_join {fr : Fm} {α : Al} {σ : St} {h h' : Heap} (I : Inv fr α σ h) {v : Value} {d : D} (r : Rep h' (fun b => Pr fr α σ b ∨ h.get? b = none) v d) : Rep h' (Pr fr α σ) v d :=
  r.mono fun _ _ p e => ⟨p.elim id fun q => I.fresh q, e⟩
theorem repL_join {fr : Fm} {α : Al} {σ : St} {h h' : Heap} (I : Inv fr α σ h) {v : List Value} {d : List D} (r : RepL h' (fun b => Pr fr α σ b ∨ h.get? b = none) v d) : RepL h' (Pr fr α σ) v d :=
  r.mono fun _ _ p e => ⟨p.elim id fun q => I.fresh q, e⟩

/-- from one state to a later one: what could be shown can be shown still, and stands -/
noncomputable def Stp0 (fr : Fm) (α : Al) (σ : St) (h : Heap) (α' : Al) (σ' : St) (h' : Heap) : Prop :=
  ∀ b o, Pr fr α σ b → h.get? b = some o → Pr fr α' σ' b ∧ h'.get? b = some o
/-- .. and what is set apart stands too -/
structure Stp (fr : Fm) (α : Al) (σ : St) (h : Heap) (α' : Al) (σ' : St) (h' : Heap) : Prop where
  pr : Stp0 fr α σ h α' σ' h'
  it : ∀ b ∈ α.its, b ∈ α'.its ∧ ∀ o, h.get? b = some o → h'.get? b = some o
theorem Stp.refl {fr : Fm} {α : Al} {σ : St} {h : Heap} : Stp fr α σ h α σ h := ⟨fun _ _ p e => ⟨p, e⟩, fun _ hb => ⟨hb, fun _ e => e⟩⟩
theorem Stp0.trans {fr : Fm} {α α' α'' : Al} {σ σ' σ'' : St} {h h' h'' : Heap} (a : Stp0 fr α σ h α' σ' h') (b : Stp0 fr α' σ' h' α'' σ'' h'') : Stp0 fr α σ h α'' σ'' h'' :=
  fun x o p e => let ⟨p', e'⟩ := a x o p e; b x o p' e'
theorem Stp.trans {fr : Fm} {α α' α'' : Al} {σ σ' σ'' : St} {h h' h'' : Heap} (a : Stp fr α σ h α' σ' h') (b : Stp fr α' σ' h' α'' σ'' h'') : Stp fr α σ h α'' σ'' h'' :=
  ⟨a.pr.trans b.pr, fun x hx => let ⟨h1, h2⟩ := a.it x hx; let ⟨h3, h4⟩ := b.it x h1; ⟨h3, fun o e => h4 o (h2 o e)⟩⟩
theorem Stp.kp {fr : Fm} {α : Al} {σ : St} {h h' : Heap} (k : Kp h h') : Stp fr α σ h α σ h' := ⟨fun b o p e => ⟨p, k b o e⟩, fun b hb => ⟨hb, fun o e => k b o e⟩⟩
theorem Stp0.rep {fr : Fm} {α α' : Al} {σ σ' : St} {h h' : Heap} (a : Stp0 fr α σ h α' σ' h') {v : Value} {d : D} (r : Rep h (Pr fr α σ) v d) : Rep h' (Pr fr α' σ') v d := r.mono a
theorem Stp0.repL {fr : Fm} {α α' : Al} {σ σ' : St} {h h' : Heap} (a : Stp0 fr α σ h α' σ' h') {v : List Value} {d : List D} (r : RepL h (Pr fr α σ) v d) : RepL h' (Pr fr α' σ') v d := r.mono a
theorem Stp.rep {fr : Fm} {α α' : Al} {σ σ' : St} {h h' : Heap} (a : Stp fr α σ h α' σ' h') {v : Value} {d : D} (r : Rep h (Pr fr α σ) v d) : Rep h' (Pr fr α' σ') v d := r.mono a.pr
theorem Stp.repL {fr : Fm} {α α' : Al} {σ σ' : St} {h h' : Heap} (a : Stp fr α σ h α' σ' h') {v : List Value} {d : List D} (r : RepL h (Pr fr α σ) v d) : RepL h' (Pr fr α' σ') v d := r.mono a.pr

/-- an expression moves a named list away, or turns a held list; it stores no name -/
noncomputable def Evo (fr : Fm) (σ σ' : St) : Prop := ∀ i, σ' i = σ i ∨ (σ' i = .no ∧ fr.names[i]? ≠ none) ∨ ((∃ l, σ i = .ow l) ∧ ∃ l, σ' i = .ow l)
theorem Evo.refl {fr : Fm} (σ : St) : Evo fr σ σ := fun _ => .inl rfl
theorem Evo.trans {fr : Fm} {a b c : St} (x : Evo fr a b) (y : Evo fr b c) : Evo fr a c := fun i => by
  rcases y i with e | e | ⟨⟨l, e1⟩, l', e2⟩
  · rw [e]; exact x i
  · exact .inr (.inl e)
  · rcases x i with f | f | ⟨⟨m, f1⟩, m', f2⟩
    · rw [f] at e1; exact .inr (.inr ⟨⟨l, e1⟩, l', e2⟩)
    · rw [f.1] at e1; cases e1
    · exact .inr (.inr ⟨⟨m, f1⟩, l', e2⟩)
theorem Evo.pr {fr : Fm} {α : Al} {σ σ' : St} (e : Evo fr σ σ') {b : Addr} (p : Pr fr α σ b) : Pr fr α σ' b :=
  ⟨p.old, p.loc, p.cell, fun i l hl => by
    rcases e i with h | h | ⟨⟨m, h1⟩, m', h2⟩
    · rw [h] at hl; exact p.own i l hl
    · rw [h.1] at hl; cases hl
    · exact p.own i m h1, p.its⟩
theorem Evo.sh {fr : Fm} {σ σ' : St} (e : Evo fr σ σ') {i : Nat} {d : D} (h : σ' i = .sh d) : σ i = .sh d := by
  rcases e i with h1 | h1 | ⟨_, m', h2⟩
  · rw [← h1, h]
  · rw [h1.1] at h; cases h
  · rw [h2] at h; cases h
theorem Evo.slot {fr : Fm} {σ σ' : St} (e : Evo fr σ σ') {i : Nat} {l : List D} (hi : fr.names[i]? = none) (h : σ i = .ow l) : ∃ l', σ' i = .ow l' := by
  rcases e i with h1 | h1 | ⟨_, h2⟩
  · exact ⟨l, by rw [h1, h]⟩
  · exact absurd hi h1.2
  · exact h2
end Mine
end

section
open PySem PySem.W PyProof.Rows PySem.Calls
set_option autoImplicit false
namespace Mine

structure FOk (fr : Fm) : Prop where
  kind : fr.env.scope.kind = .function
  glob : fr.env.globals = mainGlobals
  blt : fr.env.builtins = builtinsNs
  lnew : fr.entry.get? fr.env.locals = none
  capart : ∀ x y c, fr.env.cells.lookup x = some c → fr.env.cells.lookup y = some c → x = y
  cloc : ∀ x c, fr.env.cells.lookup x = some c → c ≠ fr.env.locals
  nodup : fr.names.Nodup
  hh : fr.A.handled = none

/-- the name x may be stored -/
noncomputable def Stb (fr : Fm) (x : Str) : Prop := fr.env.kindOf x = some .local ∨ (fr.env.kindOf x = some .cell ∧ ∃ c, fr.env.cells.lookup x = some c ∧ fr.entry.get? c = none)

theorem names_ne {fr : Fm} (ok : FOk fr) {i j : Nat} {x y : Str} (hx : fr.names[i]? = some x) (hy : fr.names[j]? = some y) (h : i ≠ j) : x ≠ y := by
  rintro rfl
  obtain ⟨hi, e1⟩ := List.getElem?_eq_some_iff.mp hx
  obtain ⟨hj, e2⟩ := List.getElem?_eq_some_iff.mp hy
  have q := List.pairwise_iff_getElem.mp ok.nodup
  rcases Nat.lt_trichotomy i j with c | c | c
  · exact q i j hi hj c (e1.trans e2.symm)
  · exact h c
  · exact q j i hj hi c (e2.trans e1.symm)

/-- what a store into the name x does to the heap -/
structure Stored (fr : Fm) (h : Heap) (x : Str) (v : Value) (h' : Heap) : Prop where
  ns : ∃ m, h'.Ns fr.env.locals m
  cells : ∀ y c, fr.env.cells.lookup y = some c → ∃ w, h'.IsCell c w
  keep : ∀ b o, fr.entry.get? b = some o → h.get? b = some o → h'.get? b = some o
  look : Look fr.env h' x v
  other : ∀ y w, y ≠ x → Look fr.env h y w → Look fr.env h' y w
  same : ∀ b, b ≠ fr.env.locals → (∀ y c, fr.env.cells.lookup y = some c → b ≠ c) → h'.get? b = h.get? b

section
variable {M : Model} {A : Around} {E : Value → Shared → Prop} {s : Shared} {fr : Fm}

theorem store_ {x : Str} {v : Value} {Q : Unit → Shared → Prop} (ok : FOk fr) (hn : ∃ m, s.heap.Ns fr.env.locals m) (hcs : ∀ x c, fr.env.cells.lookup x = some c → ∃ w, s.heap.IsCell c w)
    (hk : Stb fr x)
    (h : ∀ h' tk', Stored fr s.heap x v h' → Q () { s with heap := h', toks := tk' }) : wpAny M A (storeName fr.env x v) Q E s := by
  obtain ⟨m, hn⟩ := hn
  rcases hk with hl | ⟨hl, c, hc, hcn⟩
  · refine wpAny_storeName_local hl hn (fun h' hn' hs => h h' _ ⟨⟨_, hn'⟩, fun y c hc => ?_, fun b o e0 e => ?_, .inl ⟨hl, _, hn', by simp⟩, ?_, fun b hb _ => hs.2 b hb⟩) (by rw [ok.kind]; rfl)
    · obtain ⟨w, e⟩ := hcs y c hc
      exact ⟨w, e.sameBut hs (ok.cloc y c hc)⟩
    · exact (hs.2 b (by rintro rfl; rw [ok.lnew] at e0; cases e0)).trans e
    · rintro y w hy (⟨a, m1, hn1, hm1⟩ | ⟨a, c, hc, hv⟩)
      · refine .inl ⟨a, _, hn', ?_⟩
        have : m1 y = m y := by
          obtain ⟨o, es, ep, ho, hd, _, hm⟩ := hn
          obtain ⟨o1, es1, ep1, ho1, hd1, _, hm1'⟩ := hn1
          rw [ho] at ho1; cases ho1; rw [hd] at hd1; cases hd1
          rw [← hm, ← hm1']
        simp only [hy, if_false]; rw [← this]; exact hm1
      · exact .inr ⟨a, c, hc, hv.sameBut hs (ok.cloc y c hc)⟩
  · obtain ⟨w, hw⟩ := hcs x c hc
    refine wpAny_storeName_cell ok.kind hl hc hw fun h' hv hs => h h' s.toks ⟨⟨m, hn.sameBut hs (Ne.symm (ok.cloc x c hc))⟩, fun y c' hc' => ?_, fun b o e0 e => ?_, .inr ⟨.inl hl, c, hc, hv⟩, ?_, fun b _ hb => hs.2 b (hb x c hc)⟩
    · by_cases hy : c' = c
      · subst hy; exact ⟨_, hv⟩
      · obtain ⟨w', e⟩ := hcs y c' hc'
        exact ⟨w', e.sameBut hs hy⟩
    · exact (hs.2 b (by rintro rfl; rw [hcn] at e0; cases e0)).trans e
    · rintro y u hy (⟨a, m1, hn1, hm1⟩ | ⟨a, c', hc', hv'⟩)
      · exact .inl ⟨a, m1, hn1.sameBut hs (Ne.symm (ok.cloc x c hc)), hm1⟩
      · exact .inr ⟨a, c', hc', hv'.sameBut hs fun e => hy (ok.capart y x c (e ▸ hc') hc)⟩
end

section
variable {fr : Fm} {α : Al} {σ : St} {h h' : Heap}

theorem Inv.own_loc (I : Inv fr α σ h) {i : Nat} {l : List D} (hl : σ i = .ow l) : α.ad i ≠ fr.env.locals ∧ ∀ y c, fr.env.cells.lookup y = some c → α.ad i ≠ c := by
  obtain ⟨_, vs, n, ho, _⟩ := I.own i l hl
  refine ⟨fun e => ?_, fun y c hc e => ?_⟩
  · obtain ⟨m, o, _, _, h1, h2, _⟩ := I.ns
    rw [← e, ho] at h1; cases h1; cases h2
  · obtain ⟨w, o, h1, h2⟩ := I.cells y c hc
    rw [← e, ho] at h1; cases h1; cases h2

theorem Stored.stp {x : Str} {v : Value} (S : Stored fr h x v h') {b : Addr} {o : Obj} (p : Pr fr α σ b) (e : h.get? b = some o) : h'.get? b = some o :=
  (S.same b p.loc p.cell).trans e

theorem Stored.its {x : Str} {v : Value} (S : Stored fr h x v h') (I : Inv fr α σ h) : ∀ b ∈ α.its, b ∈ α.its ∧ ∀ o, h.get? b = some o → h'.get? b = some o := fun b hb =>
  ⟨hb, fun o e => by
    obtain ⟨_, _, h2, h3, _⟩ := I.its b hb
    exact (S.same b h2 h3).trans e⟩

/-- a shared datum is stored -/
theorem Inv.store_sh (ok : FOk fr) (I : Inv fr α σ h) {i : Nat} {x : Str} {v : Value} {d : D} (hx : fr.names[i]? = some x) (hb : i ≠ fr.bi) (S : Stored fr h x v h') (r : Rep h (Pr fr α σ) v d) :
    Inv fr α (upd σ i (.sh d)) h' ∧ Stp fr α σ h α (upd σ i (.sh d)) h' := by
  have ow : ∀ {j l}, upd σ i (Cell.sh d) j = .ow l → j ≠ i ∧ σ j = .ow l := fun {j l} hl => by
    by_cases hj : j = i
    · subst hj; rw [upd_self] at hl; cases hl
    · rw [upd_ne _ _ hj] at hl; exact ⟨hj, hl⟩
  have hp : ∀ b, Pr fr α σ b → Pr fr α (upd σ i (.sh d)) b := fun b p => ⟨p.old, p.loc, p.cell, fun j l hl => p.own j l (ow hl).2, p.its⟩
  have st : Stp fr α σ h α (upd σ i (.sh d)) h' := ⟨fun b o p e => ⟨hp b p, S.stp p e⟩, S.its I⟩
  refine ⟨⟨S.ns, S.cells, fun b o hb e => S.keep b o e (I.keep b o hb e), fun a ha => ?_, fun j y hy d' hd => ?_, fun j y hy l hl => ?_, fun j l hl => ?_, fun b hb => ?_, fun j k l l' hj hk => I.dist j k l l' (ow hj).2 (ow hk).2⟩, st⟩
  · obtain ⟨h1, l, h2⟩ := I.box a ha
    exact ⟨h1, l, by rw [upd_ne _ _ (Ne.symm hb)]; exact h2⟩
  · by_cases hj : j = i
    · subst hj
      rw [upd_self] at hd; cases hd
      rw [hx] at hy; cases hy
      exact ⟨v, S.look, st.rep r⟩
    · rw [upd_ne _ _ hj] at hd
      obtain ⟨w, a, q⟩ := I.var j y hy d' hd
      exact ⟨w, S.other y w (names_ne ok hy hx hj) a, st.rep q⟩
  · exact S.other y _ (names_ne ok hy hx (ow hl).1) (I.ovar j y hy l (ow hl).2)
  · obtain ⟨a, vs, n, e, q⟩ := I.own j l (ow hl).2
    obtain ⟨h1, h2⟩ := I.own_loc (ow hl).2
    exact ⟨a, vs, n, (S.same _ h1 h2).trans e, st.repL q⟩
  · obtain ⟨⟨o, e⟩, h1, h2, h3, h4⟩ := I.its b hb
    exact ⟨⟨o, (S.same _ h2 h3).trans e⟩, h1, h2, h3, fun j l hl => h4 j l (ow hl).2⟩

/-- the list that the slot t holds goes to the name i -/
theorem Inv.store_ow (ok : FOk fr) (I : Inv fr α σ h) {i t : Nat} {x : Str} {l : List D} (hx : fr.names[i]? = some x) (hb : i ≠ fr.bi) (htb : t ≠ fr.bi) (ht : fr.names[t]? = none) (hl : σ t = .ow l) (S : Stored fr h x (.ref (α.ad t)) h') :
    Inv fr (α.put i (α.ad t)) (upd (upd σ t .no) i (.ow l)) h' ∧ Stp fr α σ h (α.put i (α.ad t)) (upd (upd σ t .no) i (.ow l)) h' := by
  have hit : i ≠ t := by rintro rfl; rw [ht] at hx; cases hx
  -- what the later state holds at j was held at j' before
  have ow : ∀ {j l'}, upd (upd σ t Cell.no) i (.ow l) j = .ow l' → ∃ j', σ j' = .ow l' ∧ (α.put i (α.ad t)).ad j = α.ad j' ∧ ((j = i ∧ j' = t) ∨ (j ≠ i ∧ j ≠ t ∧ j' = j)) := fun {j l'} hl' => by
    by_cases hj : j = i
    · subst hj
      rw [upd_self] at hl'; cases hl'
      exact ⟨t, hl, put_self .., .inl ⟨rfl, rfl⟩⟩
    · rw [upd_ne _ _ hj] at hl'
      by_cases hjt : j = t
      · subst hjt; rw [upd_self] at hl'; cases hl'
      · rw [upd_ne _ _ hjt] at hl'
        exact ⟨j, hl', put_ne _ _ hj, .inr ⟨hj, hjt, rfl⟩⟩
  have sh : ∀ {j d}, upd (upd σ t Cell.no) i (.ow l) j = .sh d → j ≠ i ∧ σ j = .sh d := fun {j d} hd => by
    by_cases hj : j = i
    · subst hj; rw [upd_self] at hd; cases hd
    · rw [upd_ne _ _ hj] at hd
      by_cases hjt : j = t
      · subst hjt; rw [upd_self] at hd; cases hd
      · rw [upd_ne _ _ hjt] at hd; exact ⟨hj, hd⟩
  have hp : ∀ b, Pr fr α σ b → Pr fr (α.put i (α.ad t)) (upd (upd σ t .no) i (.ow l)) b := fun b p => ⟨p.old, p.loc, p.cell, fun j l' hl' => by
    obtain ⟨j', h1, h2, _⟩ := ow hl'
    rw [h2]; exact p.own j' l' h1, p.its⟩
  have st : Stp fr α σ h (α.put i (α.ad t)) (upd (upd σ t .no) i (.ow l)) h' := ⟨fun b o p e => ⟨hp b p, S.stp p e⟩, S.its I⟩
  refine ⟨⟨S.ns, S.cells, fun b o hb e => S.keep b o e (I.keep b o hb e), fun a ha => ?_, fun j y hy d' hd => ?_, fun j y hy l' hl' => ?_, fun j l' hl' => ?_, fun b hb => ?_, fun j k l1 l2 hj hk hjk => ?_⟩, st⟩
  · obtain ⟨h1, m, h2⟩ := I.box a ha
    exact ⟨by rw [put_ne _ _ (Ne.symm hb)]; exact h1, m, by rw [upd_ne _ _ (Ne.symm hb), upd_ne _ _ (Ne.symm htb)]; exact h2⟩
  · obtain ⟨hj, e1⟩ := sh hd
    obtain ⟨w, a, q⟩ := I.var j y hy d' e1
    exact ⟨w, S.other y w (names_ne ok hy hx hj) a, st.rep q⟩
  · obtain ⟨j', h1, h2, ⟨rfl, rfl⟩ | ⟨h3, _, rfl⟩⟩ := ow hl'
    · rw [hx] at hy; cases hy
      rw [h2]; exact S.look
    · rw [h2]
      exact S.other y _ (names_ne ok hy hx h3) (I.ovar j' y hy l' h1)
  · obtain ⟨j', h1, h2, _⟩ := ow hl'
    obtain ⟨a, vs, n, e, q⟩ := I.own j' l' h1
    obtain ⟨h3, h4⟩ := I.own_loc h1
    rw [h2]
    exact ⟨a, vs, n, (S.same _ h3 h4).trans e, st.repL q⟩
  · obtain ⟨⟨o, e⟩, h1, h2, h3, h4⟩ := I.its b hb
    refine ⟨⟨o, (S.same _ h2 h3).trans e⟩, h1, h2, h3, fun j l' hl' => ?_⟩
    obtain ⟨j', h5, h6, _⟩ := ow hl'
    rw [h6]; exact h4 j' l' h5
  · obtain ⟨j', e1, e2, c1⟩ := ow hj
    obtain ⟨k', e3, e4, c2⟩ := ow hk
    rw [e2, e4]
    refine I.dist j' k' l1 l2 e1 e3 ?_
    rcases c1 with ⟨rfl, rfl⟩ | ⟨a1, a2, rfl⟩ <;> rcases c2 with ⟨rfl, rfl⟩ | ⟨b1, b2, rfl⟩
    · exact absurd rfl hjk
    · exact Ne.symm b2
    · exact a2
    · exact hjk

/-- a held list moves away: from now on it may be shown, and never turned -/
theorem Inv.move (I : Inv fr α σ h) {i : Nat} {l : List D} (hb : i ≠ fr.bi) (hnm : fr.names[i]? ≠ none) (hl : σ i = .ow l) :
    Inv fr α (upd σ i .no) h ∧ Stp fr α σ h α (upd σ i .no) h ∧ Evo fr σ (upd σ i .no) ∧ Rep h (Pr fr α (upd σ i .no)) (.ref (α.ad i)) (.list l) := by
  have ev : Evo fr σ (upd σ i .no) := fun j => by
    by_cases hj : j = i
    · subst hj; exact .inr (.inl ⟨upd_self .., hnm⟩)
    · exact .inl (upd_ne _ _ hj)
  have st : Stp fr α σ h α (upd σ i .no) h := ⟨fun b o p e => ⟨ev.pr p, e⟩, fun b hb => ⟨hb, fun _ e => e⟩⟩
  have old : ∀ {j c}, upd σ i Cell.no j = c → c ≠ .no → j ≠ i ∧ σ j = c := fun {j c} hc hcn => by
    by_cases hj : j = i
    · subst hj; rw [upd_self] at hc; exact absurd hc.symm hcn
    · rw [upd_ne _ _ hj] at hc; exact ⟨hj, hc⟩
  obtain ⟨a, vs, n, e, q⟩ := I.own i l hl
  have hnb : fr.bx ≠ some (α.ad i) := fun hx => by
    obtain ⟨h1, m, h2⟩ := I.box _ hx
    exact I.dist fr.bi i m l h2 hl (Ne.symm hb) h1
  refine ⟨⟨I.ns, I.cells, I.keep, fun a ha => ?_, fun j y hy d' hd => ?_, fun j y hy l' hl' => ?_, fun j l' hl' => ?_, fun b hb' => ?_, fun j k l1 l2 hj hk hjk => ?_⟩, st, ev, ?_⟩
  · obtain ⟨h1, m, h2⟩ := I.box a ha
    exact ⟨h1, m, by rw [upd_ne _ _ (Ne.symm hb)]; exact h2⟩
  · obtain ⟨w, a, q⟩ := I.var j y hy d' (old hd (by intro q; cases q)).2
    exact ⟨w, a, st.rep q⟩
  · exact I.ovar j y hy l' (old hl' (by intro q; cases q)).2
  · obtain ⟨a, vs, n, e, q⟩ := I.own j l' (old hl' (by intro q; cases q)).2
    exact ⟨a, vs, n, e, st.repL q⟩
  · obtain ⟨h0, h1, h2, h3, h4⟩ := I.its b hb'
    exact ⟨h0, h1, h2, h3, fun j l' hl' => h4 j l' (old hl' (by intro q; cases q)).2⟩
  · exact I.dist j k l1 l2 (old hj (by intro q; cases q)).2 (old hk (by intro q; cases q)).2 hjk
  · obtain ⟨h1, h2⟩ := I.own_loc hl
    refine .list ⟨.inr (a.resolve_right hnb), h1, h2, fun j l' hl' => ?_, fun hx => (I.its _ hx).2.2.2.2 i l hl rfl⟩ e (st.repL q)
    obtain ⟨hj, h3⟩ := old hl' (by intro q; cases q)
    exact I.dist i j l l' hl h3 (Ne.symm hj)

/-- a held list is turned in place (new objects may come) -/
theorem Inv.turn (I : Inv fr α σ h) {i : Nat} {l l' : List D} {vs' : List Value} {n' : Nat} (hl : σ i = .ow l) (hs : ∀ b o, b ≠ α.ad i → h.get? b = some o → h'.get? b = some o) (ho : h'.get? (α.ad i) = some (lst vs' n')) (r : RepL h' (Pr fr α σ) vs' l') :
    Inv fr α (upd σ i (.ow l')) h' ∧ Stp fr α σ h α (upd σ i (.ow l')) h' ∧ Evo fr σ (upd σ i (.ow l')) := by
  have hnew : ∀ o, fr.entry.get? (α.ad i) = some o → fr.bx = some (α.ad i) := fun o e => by
    rcases (I.own i l hl).1 with q | q
    · rw [q] at e; cases e
    · exact q
  have ow : ∀ {j m}, upd σ i (Cell.ow l') j = .ow m → ∃ m', σ j = .ow m' := fun {j m} hm => by
    by_cases hj : j = i
    · subst hj; exact ⟨l, hl⟩
    · rw [upd_ne _ _ hj] at hm; exact ⟨m, hm⟩
  have ev : Evo fr σ (upd σ i (.ow l')) := fun j => by
    by_cases hj : j = i
    · subst hj; exact .inr (.inr ⟨⟨l, hl⟩, l', upd_self ..⟩)
    · exact .inl (upd_ne _ _ hj)
  have st : Stp fr α σ h α (upd σ i (.ow l')) h' := ⟨fun b o p e => ⟨ev.pr p, hs b o (p.own i l hl) e⟩, fun b hb => ⟨hb, fun o e => hs b o ((I.its b hb).2.2.2.2 i l hl) e⟩⟩
  obtain ⟨h1, h2⟩ := I.own_loc hl
  have lk : ∀ y w, Look fr.env h y w → Look fr.env h' y w := by
    rintro y w (⟨a, m, hn, hm⟩ | ⟨a, c, hc, o, ho', hd⟩)
    · exact .inl ⟨a, m, hn.at' fun o e => hs _ _ (Ne.symm h1) e, hm⟩
    · exact .inr ⟨a, c, hc, o, hs _ _ (Ne.symm (h2 y c hc)) ho', hd⟩
  refine ⟨⟨?_, fun y c hc => ?_, fun b o hb e => ?_, fun a ha => ?_, fun j y hy d' hd => ?_, fun j y hy m hm => ?_, fun j m hm => ?_, fun b hb => ?_, fun j k l1 l2 hj hk hjk => ?_⟩, st, ev⟩
  · obtain ⟨m, hn⟩ := I.ns
    exact ⟨m, hn.at' fun o e => hs _ _ (Ne.symm h1) e⟩
  · obtain ⟨w, o, ho', hd⟩ := I.cells y c hc
    exact ⟨w, o, hs _ _ (Ne.symm (h2 y c hc)) ho', hd⟩
  · exact hs b _ (by rintro rfl; exact hb (hnew o e)) (I.keep b o hb e)
  · obtain ⟨e1, m, e2⟩ := I.box a ha
    refine ⟨e1, ?_⟩
    by_cases hj : fr.bi = i
    · exact ⟨l', by rw [hj]; exact upd_self ..⟩
    · exact ⟨m, by rw [upd_ne _ _ hj]; exact e2⟩
  · by_cases hj : j = i
    · subst hj; rw [upd_self] at hd; cases hd
    · rw [upd_ne _ _ hj] at hd
      obtain ⟨w, a, q⟩ := I.var j y hy d' hd
      exact ⟨w, lk y w a, st.rep q⟩
  · by_cases hj : j = i
    · subst hj; exact lk y _ (I.ovar j y hy l hl)
    · rw [upd_ne _ _ hj] at hm; exact lk y _ (I.ovar j y hy m hm)
  · by_cases hj : j = i
    · subst hj
      rw [upd_self] at hm; cases hm
      exact ⟨(I.own j l hl).1, vs', n', ho, r.mono fun b o p e => ⟨ev.pr p, e⟩⟩
    · rw [upd_ne _ _ hj] at hm
      obtain ⟨a, vs, n, e, q⟩ := I.own j m hm
      exact ⟨a, vs, n, hs _ _ (I.dist j i m l hm hl hj) e, st.repL q⟩
  · obtain ⟨⟨o, e⟩, h3, h4, h5, h6⟩ := I.its b hb
    exact ⟨⟨o, hs _ _ (h6 i l hl) e⟩, h3, h4, h5, fun j m hm => (ow hm).elim fun m' e => h6 j m' e⟩
  · obtain ⟨m1, e1⟩ := ow hj
    obtain ⟨m2, e2⟩ := ow hk
    exact I.dist j k m1 m2 e1 e2 hjk

/-- a list just made is held in the free slot t -/
theorem Inv.hold (I : Inv fr α σ h) {t : Nat} {a : Addr} {l : List D} {vs : List Value} {n : Nat} (ht : fr.names[t]? = none) (htb : t ≠ fr.bi) (hno : σ t = .no) (hk : Kp h h') (ha : h.get? a = none) (ho : h'.get? a = some (lst vs n)) (r : RepL h (Pr fr α σ) vs l) :
    Inv fr (α.put t a) (upd σ t (.ow l)) h' ∧ Stp fr α σ h (α.put t a) (upd σ t (.ow l)) h' := by
  have hpa := I.fresh ha
  have ne : ∀ {j m}, j ≠ t → upd σ t (Cell.ow l) j = m → σ j = m ∧ (α.put t a).ad j = α.ad j := fun hj hm => by
    rw [upd_ne _ _ hj] at hm; exact ⟨hm, put_ne _ _ hj⟩
  have hp : ∀ b o, Pr fr α σ b → h.get? b = some o → Pr fr (α.put t a) (upd σ t (.ow l)) b := fun b o p e => ⟨p.old, p.loc, p.cell, fun j m hm => by
    by_cases hj : j = t
    · subst hj; rw [put_self]; rintro rfl; rw [ha] at e; cases e
    · obtain ⟨e1, e2⟩ := ne hj hm
      rw [e2]; exact p.own j m e1, p.its⟩
  have st : Stp fr α σ h (α.put t a) (upd σ t (.ow l)) h' := ⟨fun b o p e => ⟨hp b o p e, hk b o e⟩, fun b hb => ⟨hb, fun o e => hk b o e⟩⟩
  have J := I.kp hk
  refine ⟨⟨J.ns, J.cells, J.keep, fun b hb => ?_, fun j y hy d' hd => ?_, fun j y hy m hm => ?_, fun j m hm => ?_, fun b hb => ?_, fun j k l1 l2 hj hk' hjk => ?_⟩, st⟩
  · obtain ⟨e1, m, e2⟩ := I.box b hb
    exact ⟨by rw [put_ne _ _ (Ne.symm htb)]; exact e1, m, by rw [upd_ne _ _ (Ne.symm htb)]; exact e2⟩
  · have hj : j ≠ t := by rintro rfl; rw [ht] at hy; cases hy
    obtain ⟨e1, _⟩ := ne hj hd
    obtain ⟨w, b, q⟩ := I.var j y hy d' e1
    exact ⟨w, b.kp hk, st.rep q⟩
  · have hj : j ≠ t := by rintro rfl; rw [ht] at hy; cases hy
    obtain ⟨e1, e2⟩ := ne hj hm
    rw [e2]; exact J.ovar j y hy m e1
  · by_cases hj : j = t
    · subst hj
      rw [upd_self] at hm; cases hm
      rw [put_self]
      refine ⟨?_, vs, n, ho, st.repL r⟩
      cases q : fr.entry.get? a with
      | none => exact .inl rfl
      | some o =>
        by_cases hb : fr.bx = some a
        · exact .inr hb
        · rw [I.keep a o hb q] at ha; cases ha
    · obtain ⟨e1, e2⟩ := ne hj hm
      rw [e2]
      obtain ⟨b, ws, n', e, q⟩ := I.own j m e1
      exact ⟨b, ws, n', hk _ _ e, st.repL q⟩
  · obtain ⟨⟨o, e⟩, h1, h2, h3, h4⟩ := I.its b hb
    refine ⟨⟨o, hk _ _ e⟩, h1, h2, h3, fun j m hm => ?_⟩
    by_cases hj : j = t
    · subst hj; rw [put_self]; rintro rfl; rw [ha] at e; cases e
    · obtain ⟨e1, e2⟩ := ne hj hm
      rw [e2]; exact h4 j m e1
  · have al : ∀ {j m}, j ≠ t → upd σ t (Cell.ow l) j = .ow m → (α.put t a).ad j ≠ a := fun hj hm => by
      obtain ⟨e1, e2⟩ := ne hj hm
      rw [e2]; exact Ne.symm (hpa.own _ _ e1)
    by_cases hj' : j = t
    · subst hj'
      rw [put_self]; exact Ne.symm (al (Ne.symm hjk) hk')
    · by_cases hk'' : k = t
      · subst hk''
        rw [put_self]; exact al hj' hj
      · obtain ⟨e1, e2⟩ := ne hj' hj
        obtain ⟨e3, e4⟩ := ne hk'' hk'
        rw [e2, e4]; exact I.dist j k l1 l2 e1 e3 hjk

/-- new objects are set apart -/
theorem Inv.apart (I : Inv fr α σ h) {new : List Addr} (hk : Kp h h') (hn : ∀ b ∈ new, h.get? b = none) (hs : ∀ b ∈ new, ∃ o, h'.get? b = some o) :
    Inv fr { α with its := new ++ α.its } σ h' ∧ Stp fr α σ h { α with its := new ++ α.its } σ h' := by
  have hp : ∀ b o, Pr fr α σ b → h.get? b = some o → Pr fr { α with its := new ++ α.its } σ b := fun b o p e => ⟨p.old, p.loc, p.cell, p.own, fun hb => by
    rcases List.mem_append.mp hb with hb | hb
    · rw [hn b hb] at e; cases e
    · exact p.its hb⟩
  have st : Stp fr α σ h { α with its := new ++ α.its } σ h' := ⟨fun b o p e => ⟨hp b o p e, hk b o e⟩, fun b hb => ⟨List.mem_append_right _ hb, fun o e => hk b o e⟩⟩
  have J := I.kp hk
  refine ⟨⟨J.ns, J.cells, J.keep, J.box, fun j y hy d hd => ?_, J.ovar, fun j l hl => ?_, fun b hb => ?_, J.dist⟩, st⟩
  · obtain ⟨w, b, q⟩ := I.var j y hy d hd
    exact ⟨w, b.kp hk, st.rep q⟩
  · obtain ⟨b, ws, n', e, q⟩ := I.own j l hl
    exact ⟨b, ws, n', hk _ _ e, st.repL q⟩
  · rcases List.mem_append.mp hb with hb | hb
    · have p := I.fresh (hn b hb)
      refine ⟨hs b hb, ?_, p.loc, p.cell, p.own⟩
      cases q : fr.entry.get? b with
      | none => rfl
      | some o =>
        by_cases hx : fr.bx = some b
        · obtain ⟨h1, l, h2⟩ := I.box b hx
          exact absurd h1.symm (p.own _ l h2)
        · have := I.keep b o hx q; rw [hn b hb] at this; cases this
    · exact J.its b hb
/-- what is set apart turns; all else stays -/
theorem Inv.work (I : Inv fr α σ h) (hk : ∀ b o, b ∉ α.its → h.get? b = some o → h'.get? b = some o) (hs : ∀ b ∈ α.its, ∃ o, h'.get? b = some o) : Inv fr α σ h' ∧ Stp0 fr α σ h α σ h' := by
  have st : Stp0 fr α σ h α σ h' := fun b o p e => ⟨p, hk b o p.its e⟩
  have nL : fr.env.locals ∉ α.its := fun hb => (I.its _ hb).2.2.1 rfl
  have nC : ∀ x c, fr.env.cells.lookup x = some c → c ∉ α.its := fun x c hc hb => (I.its _ hb).2.2.2.1 x c hc rfl
  have nO : ∀ i l, σ i = .ow l → α.ad i ∉ α.its := fun i l hl hb => (I.its _ hb).2.2.2.2 i l hl rfl
  have lk : ∀ y w, Look fr.env h y w → Look fr.env h' y w := by
    rintro y w (⟨a, m, hn, hm⟩ | ⟨a, c, hc, o, ho', hd⟩)
    · exact .inl ⟨a, m, hn.at' fun o e => hk _ _ nL e, hm⟩
    · exact .inr ⟨a, c, hc, o, hk _ _ (nC y c hc) ho', hd⟩
  refine ⟨⟨?_, fun y c hc => ?_, fun b o hb e => ?_, I.box, fun j y hy d hd => ?_, fun j y hy l hl => lk y _ (I.ovar j y hy l hl), fun j l hl => ?_, fun b hb => ⟨hs b hb, (I.its b hb).2⟩, I.dist⟩, st⟩
  · obtain ⟨m, hn⟩ := I.ns
    exact ⟨m, hn.at' fun o e => hk _ _ nL e⟩
  · obtain ⟨w, o, ho', hd⟩ := I.cells y c hc
    exact ⟨w, o, hk _ _ (nC y c hc) ho', hd⟩
  · exact hk b o (fun hx => by rw [(I.its b hx).2.1] at e; cases e) (I.keep b o hb e)
  · obtain ⟨w, a, q⟩ := I.var j y hy d hd
    exact ⟨w, lk y w a, st.rep q⟩
  · obtain ⟨a, vs, n, e, q⟩ := I.own j l hl
    exact ⟨a, vs, n, hk _ _ (nO j l hl) e, st.repL q⟩
/-- what was set apart is let go -/
theorem Inv.back (I : Inv fr α σ h) {α' : Al} (h1 : α'.ad = α.ad) (h2 : ∀ b ∈ α'.its, b ∈ α.its) : Inv fr α' σ h ∧ Stp0 fr α σ h α' σ h := by
  obtain ⟨ad, its⟩ := α'
  dsimp only at h1 h2
  subst h1
  have hp : ∀ b, Pr fr α σ b → Pr fr ⟨α.ad, its⟩ σ b := fun b p => ⟨p.old, p.loc, p.cell, p.own, fun hb => p.its (h2 b hb)⟩
  have st : Stp0 fr α σ h ⟨α.ad, its⟩ σ h := fun b o p e => ⟨hp b p, e⟩
  refine ⟨⟨I.ns, I.cells, I.keep, I.box, fun j y hy d hd => ?_, I.ovar, fun j l hl => ?_, fun b hb => I.its b (h2 b hb), I.dist⟩, st⟩
  · obtain ⟨w, a, q⟩ := I.var j y hy d hd
    exact ⟨w, a, st.rep q⟩
  · obtain ⟨a, vs, n, e, q⟩ := I.own j l hl
    exact ⟨a, vs, n, e, st.repL q⟩
end
end Mine
end

section
open PySem PySem.W PyProof.Rows PySem.Calls
set_option autoImplicit false
namespace Mine

noncomputable abbrev Ev := St → Option (D × St)
noncomputable abbrev EvL := St → Option (List D × St)

section
variable (prog : Program) (w : World) (fr : Fm)

/-- the expression e, in the frame fr, is told by F -/
noncomputable def SE (e : Expr) (F : Ev) : Prop :=
  ∀ σ d σ', F σ = some (d, σ') → ∀ (α : Al) (s : Shared) (Q : Value → Shared → Prop) (E : Value → Shared → Prop), Inv fr α σ s.heap →
    (∀ v h' tk', Evo fr σ σ' → Inv fr α σ' h' → Stp fr α σ s.heap α σ' h' → Rep h' (Pr fr α σ') v d → Q v { s with heap := h', toks := tk' }) →
    wpAny (model prog w) fr.A (eval e fr.env) Q E s
/-- the test e is told by F -/
noncomputable def ST (e : Expr) (F : Ev) : Prop :=
  ∀ σ b σ', F σ = some (.bool b, σ') → ∀ (α : Al) (s : Shared) (Q : Bool → Shared → Prop) (E : Value → Shared → Prop), Inv fr α σ s.heap →
    (∀ h' tk', Evo fr σ σ' → Inv fr α σ' h' → Stp fr α σ s.heap α σ' h' → Q b { s with heap := h', toks := tk' }) →
    wpAny (model prog w) fr.A (isTrue e fr.env (eval e fr.env)) Q E s
/-- the arguments es are told by F -/
noncomputable def SL (es : List Expr) (F : EvL) : Prop :=
  ∀ σ d σ', F σ = some (d, σ') → ∀ (α : Al) (s : Shared) (pos : Pos) (Q : List Value → Shared → Prop) (E : Value → Shared → Prop), Inv fr α σ s.heap →
    (∀ v h' tk', Evo fr σ σ' → Inv fr α σ' h' → Stp fr α σ s.heap α σ' h' → RepL h' (Pr fr α σ') v d → d.length = es.length → Q v { s with heap := h', toks := tk' }) →
    wpAny (model prog w) fr.A (spliced (backTo pos (starEach es fr.env))) Q E s
/-- a step that makes new objects alone -/
noncomputable def Giv (A : Around) (t : Sem Value) (s : Shared) (P : Addr → Prop) (d : D) : Prop :=
  ∀ (Q : Value → Shared → Prop) (E : Value → Shared → Prop), (∀ v h' tk', Kp s.heap h' → Rep h' (fun b => P b ∨ s.heap.get? b = none) v d → Q v { s with heap := h', toks := tk' }) → wpAny (model prog w) A t Q E s
end

noncomputable def xInt (i : Int) : Ev := fun σ => some (.int i, σ)
noncomputable def xVar (i : Nat) : Ev := fun σ => match σ i with | .sh d => some (d, σ) | _ => none
noncomputable def xMov (i : Nat) : Ev := fun σ => match σ i with | .ow l => some (.list l, upd σ i .no) | _ => none
noncomputable def xBin (f : D → D → Option D) (F G : Ev) : Ev := fun σ => (F σ).bind fun p => (G p.2).bind fun q => (f p.1 q.1).map fun d => (d, q.2)
noncomputable def xChn (f g : D → D → Option D) (F G H : Ev) : Ev := fun σ => (F σ).bind fun p => (G p.2).bind fun q => (f p.1 q.1).bind fun c =>
  match c with
  | .bool true => (H q.2).bind fun r => (g q.1 r.1).map fun d => (d, r.2)
  | .bool false => some (.bool false, q.2)
  | _ => none
noncomputable def xIf (T F G : Ev) : Ev := fun σ => (T σ).bind fun p => match p.1 with
  | .bool true => F p.2
  | .bool false => G p.2
  | _ => none
noncomputable def xAnd (F G : Ev) : Ev := fun σ => (F σ).bind fun p => match p.1 with
  | .bool true => G p.2
  | .bool false => some (.bool false, p.2)
  | _ => none
noncomputable def xOr (F G : Ev) : Ev := fun σ => (F σ).bind fun p => match p.1 with
  | .bool true => some (.bool true, p.2)
  | .bool false => G p.2
  | _ => none
noncomputable def xNot (F : Ev) : Ev := fun σ => (F σ).bind fun p => match p.1 with
  | .bool b => some (.bool (!b), p.2)
  | _ => none
noncomputable def xNil : EvL := fun σ => some ([], σ)
noncomputable def xCons (F : Ev) (G : EvL) : EvL := fun σ => (F σ).bind fun p => (G p.2).map fun q => (p.1 :: q.1, q.2)
noncomputable def xList (F : EvL) : Ev := fun σ => (F σ).map fun p => (.list p.1, p.2)
noncomputable def xTup (F : EvL) : Ev := fun σ => (F σ).map fun p => (.tup p.1, p.2)

section
variable {prog : Program} {w : World} {fr : Fm}

theorem SE.int {i : Int} {k : Nat} {pos : Pos} : SE prog w fr (.Constant (.int i) k pos) (xInt i) := by
  rintro σ d σ' h α s Q E I k
  cases h
  exact wpAny_Constant_int (k _ _ _ (Evo.refl _) I Stp.refl (.int _ _))

theorem load_look {env : Env} {x : Str} {v : Value} {M : Model} {A : Around} {s : Shared} {Q : Value → Shared → Prop} {E : Value → Shared → Prop} (hk : env.scope.kind = .function) (l : Look env s.heap x v) (h : Q v s) (hn : (x == ("__classdict__" : Str)) = false) : wpAny M A (loadName env x) Q E s := by
  rcases l with ⟨a, m, hn', hm⟩ | ⟨a | a, c, hc, hv⟩
  · exact wpAny_loadName_local hk a hn' hm h
  · exact wpAny_loadName_cell hk a hc hv h
  · exact wpAny_loadName_free hk a hc hv h hn

noncomputable def nameOk (x : Str) : Bool := !(x == ("__debug__" : Str)) && !(x == ("__classdict__" : Str))
theorem nameOk_1 {x : Str} (h : nameOk x = true) : (x == ("__debug__" : Str)) = false := by simp [nameOk] at h; simp [h.1]
theorem nameOk_2 {x : Str} (h : nameOk x = true) : (x == ("__classdict__" : Str)) = false := by simp [nameOk] at h; simp [h.2]

theorem SE.var (ok : FOk fr) {x : Str} {pos : Pos} {i : Nat} (hx : fr.names[i]? = some x) (hn : nameOk x = true) : SE prog w fr (.Name x pos) (xVar i) := by
  rintro σ d σ' h α s Q E I k
  simp only [xVar] at h
  cases hi : σ i with
  | no => rw [hi] at h; cases h
  | ow l => rw [hi] at h; cases h
  | sh d' =>
    rw [hi] at h; cases h
    obtain ⟨v, l, r⟩ := I.var i x hx _ hi
    exact wpAny_Name (load_look ok.kind l (k v s.heap s.toks (Evo.refl _) I Stp.refl r) (nameOk_2 hn)) (nameOk_1 hn)

theorem SE.mov (ok : FOk fr) {x : Str} {pos : Pos} {i : Nat} (hx : fr.names[i]? = some x) (hn : nameOk x = true) (hb : i ≠ fr.bi) : SE prog w fr (.Name x pos) (xMov i) := by
  rintro σ d σ' h α s Q E I k
  simp only [xMov] at h
  cases hi : σ i with
  | no => rw [hi] at h; cases h
  | sh l => rw [hi] at h; cases h
  | ow l =>
    rw [hi] at h; cases h
    have L := I.ovar i x hx l hi
    obtain ⟨I', st, ev, r⟩ := I.move hb (by rw [hx]; intro q; cases q) hi
    exact wpAny_Name (load_look ok.kind L (k _ s.heap s.toks ev I' st r) (nameOk_2 hn)) (nameOk_1 hn)

theorem SE.bin {l r : Expr} {op : Operator} {pos : Pos} {F G : Ev} {f : D → D → Option D} (hl : SE prog w fr l F) (hr : SE prog w fr r G)
    (hf : ∀ s P va vb a b d, Rep s.heap P va a → Rep s.heap P vb b → f a b = some d → Giv prog w fr.A (binaryOp op va vb) s P d) : SE prog w fr (.BinOp l op r pos) (xBin f F G) := by
  rintro σ d σ' h α s Q E I k
  simp only [xBin, Option.bind_eq_some_iff, Option.map_eq_some_iff] at h
  obtain ⟨⟨a, σ1⟩, e1, ⟨b, σ2⟩, e2, d', e3, e4⟩ := h
  cases e4
  refine wpAny_BinOp (hl σ a σ1 e1 α s _ _ I fun va h1 t1 ev1 I1 st1 r1 => ?_)
  refine hr σ1 b _ e2 α _ _ _ I1 fun vb h2 t2 ev2 I2 st2 r2 => ?_
  refine hf _ _ _ _ _ _ _ (st2.rep r1) r2 e3 _ _ fun v h3 t3 kp r3 => ?_
  exact k v h3 t3 (ev1.trans ev2) (I2.kp kp) ((st1.trans st2).trans (Stp.kp kp)) (rep_join I2 r3)

theorem SE.cmp {l r : Expr} {op : CmpOp} {pos : Pos} {F G : Ev} {f : D → D → Option D} (hl : SE prog w fr l F) (hr : SE prog w fr r G)
    (hf : ∀ s P va vb a b d, Rep s.heap P va a → Rep s.heap P vb b → f a b = some d → Giv prog w fr.A (compareOp op va vb) s P d) (hm : behindInMarks op r = false) : SE prog w fr (.Compare l [op] [r] pos) (xBin f F G) := by
  rintro σ d σ' h α s Q E I k
  simp only [xBin, Option.bind_eq_some_iff, Option.map_eq_some_iff] at h
  obtain ⟨⟨a, σ1⟩, e1, ⟨b, σ2⟩, e2, d', e3, e4⟩ := h
  cases e4
  refine wpAny_Compare1 (hl σ a σ1 e1 α s _ _ I fun va h1 t1 ev1 I1 st1 r1 => ?_) hm
  refine hr σ1 b _ e2 α _ _ _ I1 fun vb h2 t2 ev2 I2 st2 r2 => ?_
  refine hf _ _ _ _ _ _ _ (st2.rep r1) r2 e3 _ _ fun v h3 t3 kp r3 => ?_
  exact k v h3 t3 (ev1.trans ev2) (I2.kp kp) ((st1.trans st2).trans (Stp.kp kp)) (rep_join I2 r3)

theorem rep_bool {h : Heap} {P : Addr → Prop} {v : Value} {b : Bool} (r : Rep h P v (.bool b)) : v = .bool b := by cases r; rfl

theorem ST.cmp {l r : Expr} {op : CmpOp} {pos : Pos} {F G : Ev} {f : D → D → Option D} (hl : SE prog w fr l F) (hr : SE prog w fr r G)
    (hf : ∀ s P va vb a b d, Rep s.heap P va a → Rep s.heap P vb b → f a b = some d → Giv prog w fr.A (compareOp op va vb) s P d) (hm : behindInMarks op r = false) : ST prog w fr (.Compare l [op] [r] pos) (xBin f F G) := by
  rintro σ d σ' h α s Q E I k
  simp only [xBin, Option.bind_eq_some_iff, Option.map_eq_some_iff] at h
  obtain ⟨⟨a, σ1⟩, e1, ⟨b, σ2⟩, e2, d', e3, e4⟩ := h
  cases e4
  refine wpAny_isTrue_Compare1 (hl σ a σ1 e1 α s _ _ I fun va h1 t1 ev1 I1 st1 r1 => ?_) hm
  refine hr σ1 b _ e2 α _ _ _ I1 fun vb h2 t2 ev2 I2 st2 r2 => ?_
  refine hf _ _ _ _ _ _ _ (st2.rep r1) r2 e3 _ _ fun v h3 t3 kp r3 => ?_
  cases rep_bool r3
  exact wpAny_truthy_bool (k h3 t3 (ev1.trans ev2) (I2.kp kp) ((st1.trans st2).trans (Stp.kp kp)))

theorem bsel {β : Type} {c : D} {X Y : Option β} {r : β} (h : (match c with | .bool true => X | .bool false => Y | _ => none) = some r) : (c = .bool true ∧ X = some r) ∨ (c = .bool false ∧ Y = some r) := by
  split at h
  · exact .inl ⟨rfl, h⟩
  · exact .inr ⟨rfl, h⟩
  · cases h
theorem SE.chn {l r q : Expr} {o1 o2 : CmpOp} {pos : Pos} {F G H : Ev} {f g : D → D → Option D} (hl : SE prog w fr l F) (hr : SE prog w fr r G) (hq : SE prog w fr q H)
    (hf : ∀ s P va vb a b d, Rep s.heap P va a → Rep s.heap P vb b → f a b = some d → Giv prog w fr.A (compareOp o1 va vb) s P d)
    (hg : ∀ s P va vb a b d, Rep s.heap P va a → Rep s.heap P vb b → g a b = some d → Giv prog w fr.A (compareOp o2 va vb) s P d) (hm : lastMarks [o1, o2] [r, q] = false) :
    SE prog w fr (.Compare l [o1, o2] [r, q] pos) (xChn f g F G H) := by
  rintro σ d σ' h α s Q E I k
  simp only [xChn, Option.bind_eq_some_iff] at h
  obtain ⟨⟨a, σ1⟩, e1, ⟨b, σ2⟩, e2, c, e3, e4⟩ := h
  refine Compare_chain (hl σ a σ1 e1 α s _ _ I fun va h1 t1 ev1 I1 st1 r1 => ?_) hm
  refine chain_link (hr σ1 b _ e2 α _ _ _ I1 fun vb h2 t2 ev2 I2 st2 r2 => ?_)
  refine hf _ _ _ _ _ _ _ (st2.rep r1) r2 e3 _ _ fun v h3 t3 kp r3 => ?_
  rcases bsel e4 with ⟨rfl, e4⟩ | ⟨rfl, e4⟩
  · obtain rfl := rep_bool r3
    refine wpAny_truthy_bool ?_
    simp only [Option.bind_eq_some_iff, Option.map_eq_some_iff] at e4
    obtain ⟨⟨x, σ3⟩, e5, d', e6, e7⟩ := e4
    cases e7
    refine chain_last (hq σ2 x _ e5 α _ _ _ (I2.kp kp) fun vx h4 t4 ev4 I4 st4 r4 => ?_)
    refine hg _ _ _ _ _ _ _ (st4.rep (r2.kp kp)) r4 e6 _ _ fun v h5 t5 kp5 r5 => ?_
    exact k v h5 t5 ((ev1.trans ev2).trans ev4) (I4.kp kp5) ((((st1.trans st2).trans (Stp.kp kp)).trans st4).trans (Stp.kp kp5)) (rep_join I4 r5)
  · obtain rfl := rep_bool r3
    refine wpAny_truthy_bool ?_
    cases e4
    exact k _ h3 t3 (ev1.trans ev2) (I2.kp kp) ((st1.trans st2).trans (Stp.kp kp)) (.bool _)

theorem ST.chn {l r q : Expr} {o1 o2 : CmpOp} {pos : Pos} {F G H : Ev} {f g : D → D → Option D} (hl : SE prog w fr l F) (hr : SE prog w fr r G) (hq : SE prog w fr q H)
    (hf : ∀ s P va vb a b d, Rep s.heap P va a → Rep s.heap P vb b → f a b = some d → Giv prog w fr.A (compareOp o1 va vb) s P d)
    (hg : ∀ s P va vb a b d, Rep s.heap P va a → Rep s.heap P vb b → g a b = some d → Giv prog w fr.A (compareOp o2 va vb) s P d) (hm : lastMarks [o1, o2] [r, q] = false) :
    ST prog w fr (.Compare l [o1, o2] [r, q] pos) (xChn f g F G H) := by
  rintro σ d σ' h α s Q E I k
  simp only [xChn, Option.bind_eq_some_iff] at h
  obtain ⟨⟨a, σ1⟩, e1, ⟨b, σ2⟩, e2, c, e3, e4⟩ := h
  refine isTrue_chain (hl σ a σ1 e1 α s _ _ I fun va h1 t1 ev1 I1 st1 r1 => ?_) hm
  refine test_link (hr σ1 b _ e2 α _ _ _ I1 fun vb h2 t2 ev2 I2 st2 r2 => ?_)
  refine hf _ _ _ _ _ _ _ (st2.rep r1) r2 e3 _ _ fun v h3 t3 kp r3 => ?_
  rcases bsel e4 with ⟨rfl, e4⟩ | ⟨rfl, e4⟩
  · obtain rfl := rep_bool r3
    refine wpAny_truthy_bool ?_
    simp only [Option.bind_eq_some_iff, Option.map_eq_some_iff] at e4
    obtain ⟨⟨x, σ3⟩, e5, d', e6, e7⟩ := e4
    cases e7
    refine test_last (hq σ2 x _ e5 α _ _ _ (I2.kp kp) fun vx h4 t4 ev4 I4 st4 r4 => ?_)
    refine hg _ _ _ _ _ _ _ (st4.rep (r2.kp kp)) r4 e6 _ _ fun v h5 t5 kp5 r5 => ?_
    obtain rfl := rep_bool r5
    exact wpAny_truthy_bool (k h5 t5 ((ev1.trans ev2).trans ev4) (I4.kp kp5) ((((st1.trans st2).trans (Stp.kp kp)).trans st4).trans (Stp.kp kp5)))
  · obtain rfl := rep_bool r3
    refine wpAny_truthy_bool ?_
    cases e4
    exact k h3 t3 (ev1.trans ev2) (I2.kp kp) ((st1.trans st2).trans (Stp.kp kp))

theorem SE.ite {t a b : Expr} {pos : Pos} {T F G : Ev} (ht : ST prog w fr t T) (ha : SE prog w fr a F) (hb : SE prog w fr b G) : SE prog w fr (.IfExp t a b pos) (xIf T F G) := by
  rintro σ d σ' h α s Q E I k
  simp only [xIf, Option.bind_eq_some_iff] at h
  obtain ⟨⟨c, σ1⟩, e1, e2⟩ := h
  cases c with
  | bool c =>
    refine IfExp_ (ht σ c σ1 e1 α s _ _ I fun h1 t1 ev1 I1 st1 => ?_)
    cases c with
    | true =>
      simp only [if_true] at e2 ⊢
      exact ha σ1 d σ' e2 α _ _ _ I1 fun v h2 t2 ev2 I2 st2 r2 => k v h2 t2 (ev1.trans ev2) I2 (st1.trans st2) r2
    | false =>
      simp only [Bool.false_eq_true, if_false] at e2 ⊢
      exact hb σ1 d σ' e2 α _ _ _ I1 fun v h2 t2 ev2 I2 st2 r2 => k v h2 t2 (ev1.trans ev2) I2 (st1.trans st2) r2
  | _ => cases e2

theorem SE.and {a b : Expr} {rest : List Expr} {pos : Pos} {F G : Ev} (ha : SE prog w fr a F) (hb : SE prog w fr (.BoolOp .And (b :: rest) pos) G) : SE prog w fr (.BoolOp .And (a :: b :: rest) pos) (xAnd F G) := by
  rintro σ d σ' h α s Q E I k
  simp only [xAnd, Option.bind_eq_some_iff] at h
  obtain ⟨⟨c, σ1⟩, e1, e2⟩ := h
  refine BoolOp_and (ha σ c σ1 e1 α s _ _ I fun v h1 t1 ev1 I1 st1 r1 => ?_)
  cases c with
  | bool c =>
    cases rep_bool r1
    refine wpAny_truthy_bool ?_
    cases c with
    | true =>
      simp only [if_true] at e2 ⊢
      exact hb σ1 d σ' e2 α _ _ _ I1 fun v h2 t2 ev2 I2 st2 r2 => k v h2 t2 (ev1.trans ev2) I2 (st1.trans st2) r2
    | false =>
      simp only [Bool.false_eq_true, if_false, Option.some.injEq, Prod.mk.injEq] at e2 ⊢
      obtain ⟨rfl, rfl⟩ := e2
      exact k _ _ _ ev1 I1 st1 (.bool _)
  | _ => cases e2
theorem SE.or {a b : Expr} {rest : List Expr} {pos : Pos} {F G : Ev} (ha : SE prog w fr a F) (hb : SE prog w fr (.BoolOp .Or (b :: rest) pos) G) : SE prog w fr (.BoolOp .Or (a :: b :: rest) pos) (xOr F G) := by
  rintro σ d σ' h α s Q E I k
  simp only [xOr, Option.bind_eq_some_iff] at h
  obtain ⟨⟨c, σ1⟩, e1, e2⟩ := h
  refine BoolOp_or (ha σ c σ1 e1 α s _ _ I fun v h1 t1 ev1 I1 st1 r1 => ?_)
  cases c with
  | bool c =>
    cases rep_bool r1
    refine wpAny_truthy_bool ?_
    cases c with
    | false =>
      simp only [Bool.false_eq_true, if_false] at e2 ⊢
      exact hb σ1 d σ' e2 α _ _ _ I1 fun v h2 t2 ev2 I2 st2 r2 => k v h2 t2 (ev1.trans ev2) I2 (st1.trans st2) r2
    | true =>
      simp only [if_true, Option.some.injEq, Prod.mk.injEq] at e2 ⊢
      obtain ⟨rfl, rfl⟩ := e2
      exact k _ _ _ ev1 I1 st1 (.bool _)
  | _ => cases e2
theorem SE.bone {a : Expr} {op : BoolOp} {pos : Pos} {F : Ev} (ha : SE prog w fr a F) : SE prog w fr (.BoolOp op [a] pos) F := fun σ d σ' h α s Q E I k => BoolOp_one (ha σ d σ' h α s Q E I k)

theorem ST.plain {e : Expr} {F : Ev} (h : SE prog w fr e F) (he : ∀ whole, isTrue e fr.env whole = (do let v ← whole; standAt e.pos; holding [v] (truthy v))) : ST prog w fr e F := by
  rintro σ b σ' hF α s Q E I k
  refine isTrue_plain (h σ _ σ' hF α s _ _ I fun v h1 t1 ev1 I1 st1 r1 => ?_) (he _)
  cases rep_bool r1
  exact wpAny_truthy_bool (k _ _ ev1 I1 st1)
theorem ST.not {e : Expr} {pos : Pos} {F : Ev} (h : ST prog w fr e F) : ST prog w fr (.UnaryOp .Not e pos) (xNot F) := by
  rintro σ b σ' hF α s Q E I k
  simp only [xNot, Option.bind_eq_some_iff] at hF
  obtain ⟨⟨c, σ1⟩, e1, e2⟩ := hF
  cases c with
  | bool c =>
    simp only [Option.some.injEq, Prod.mk.injEq, D.bool.injEq] at e2
    obtain ⟨rfl, rfl⟩ := e2
    exact isTrue_not (h σ c _ e1 α s _ _ I fun h1 t1 ev1 I1 st1 => k _ _ ev1 I1 st1)
  | _ => cases e2
theorem ST.and {a b : Expr} {rest : List Expr} {pos : Pos} {F G : Ev} (ha : ST prog w fr a F) (hb : ST prog w fr (.BoolOp .And (b :: rest) pos) G) : ST prog w fr (.BoolOp .And (a :: b :: rest) pos) (xAnd F G) := by
  rintro σ d σ' h α s Q E I k
  simp only [xAnd, Option.bind_eq_some_iff] at h
  obtain ⟨⟨c, σ1⟩, e1, e2⟩ := h
  cases c with
  | bool c =>
    refine isTrue_and (ha σ c σ1 e1 α s _ _ I fun h1 t1 ev1 I1 st1 => ?_)
    cases c with
    | true =>
      simp only [if_true] at e2 ⊢
      exact hb σ1 d σ' e2 α _ _ _ I1 fun h2 t2 ev2 I2 st2 => k h2 t2 (ev1.trans ev2) I2 (st1.trans st2)
    | false =>
      simp only [Bool.false_eq_true, if_false, Option.some.injEq, Prod.mk.injEq, D.bool.injEq] at e2 ⊢
      obtain ⟨rfl, rfl⟩ := e2
      exact k _ _ ev1 I1 st1
  | _ => cases e2
theorem ST.or {a b : Expr} {rest : List Expr} {pos : Pos} {F G : Ev} (ha : ST prog w fr a F) (hb : ST prog w fr (.BoolOp .Or (b :: rest) pos) G) : ST prog w fr (.BoolOp .Or (a :: b :: rest) pos) (xOr F G) := by
  rintro σ d σ' h α s Q E I k
  simp only [xOr, Option.bind_eq_some_iff] at h
  obtain ⟨⟨c, σ1⟩, e1, e2⟩ := h
  cases c with
  | bool c =>
    refine isTrue_or (ha σ c σ1 e1 α s _ _ I fun h1 t1 ev1 I1 st1 => ?_)
    cases c with
    | false =>
      simp only [Bool.false_eq_true, if_false] at e2 ⊢
      exact hb σ1 d σ' e2 α _ _ _ I1 fun h2 t2 ev2 I2 st2 => k h2 t2 (ev1.trans ev2) I2 (st1.trans st2)
    | true =>
      simp only [if_true, Option.some.injEq, Prod.mk.injEq, D.bool.injEq] at e2 ⊢
      obtain ⟨rfl, rfl⟩ := e2
      exact k _ _ ev1 I1 st1
  | _ => cases e2
theorem ST.bone {a : Expr} {op : BoolOp} {pos : Pos} {F : Ev} (ha : ST prog w fr a F) : ST prog w fr (.BoolOp op [a] pos) F := by
  rintro σ b σ' h α s Q E I k
  cases op with
  | And =>
    refine isTrue_and (ha σ b σ' h α s _ _ I fun h1 t1 ev1 I1 st1 => ?_)
    cases b with
    | true => simp only [if_true]; exact isTrue_and_nil (k _ _ ev1 I1 st1)
    | false => simp only [Bool.false_eq_true, if_false]; exact k _ _ ev1 I1 st1
  | Or =>
    refine isTrue_or (ha σ b σ' h α s _ _ I fun h1 t1 ev1 I1 st1 => ?_)
    cases b with
    | false => simp only [Bool.false_eq_true, if_false]; exact isTrue_or_nil (k _ _ ev1 I1 st1)
    | true => simp only [if_true]; exact k _ _ ev1 I1 st1

theorem SL.nil : SL prog w fr [] xNil := by
  rintro σ d σ' h α s pos Q E I k
  cases h
  exact args_nil (k _ s.heap s.toks (Evo.refl _) I Stp.refl .nil rfl)
theorem SL.cons {e : Expr} {rest : List Expr} {F : Ev} {G : EvL} (h1 : SE prog w fr e F) (h2 : SL prog w fr rest G) (he : ∀ env, starEach (e :: rest) env = (false, eval e env) :: starEach rest env) : SL prog w fr (e :: rest) (xCons F G) := by
  rintro σ d σ' h α s pos Q E I k
  simp only [xCons, Option.bind_eq_some_iff, Option.map_eq_some_iff] at h
  obtain ⟨⟨a, σ1⟩, e1, ⟨b, σ2⟩, e2, e3⟩ := h
  cases e3
  refine args_cons (h1 σ a σ1 e1 α s _ _ I fun va q1 t1 ev1 I1 st1 r1 => ?_) (he _)
  refine h2 σ1 b _ e2 α _ _ _ _ I1 fun vb q2 t2 ev2 I2 st2 r2 hl => ?_
  exact k _ q2 t2 (ev1.trans ev2) I2 (st1.trans st2) (.cons (st2.rep r1) r2) (by simp [hl])

theorem rep_new_list {h : Heap} {P : Addr → Prop} {vs : List Value} {ds : List D} (r : RepL h P vs ds) : Rep (h.push (lst vs 0)) (fun b => P b ∨ h.get? b = none) (.ref h.objs.size) (.list ds) := by
  refine .list (n := 0) (.inr ?_) (Heap.get?_push_size _ rfl) (r.mono fun b o p e => ⟨.inl p, Heap.get?_push_of_some _ e⟩)
  cases q : h.get? h.objs.size with
  | none => rfl
  | some o => exact absurd (Heap.lt_size q) (Nat.lt_irrefl _)
theorem rep_new_tup {h : Heap} {P : Addr → Prop} {vs : List Value} {ds : List D} (r : RepL h P vs ds) : Rep (h.push (tpl vs 0)) (fun b => P b ∨ h.get? b = none) (.ref h.objs.size) (.tup ds) := by
  refine .tup (n := 0) (.inr ?_) (Heap.get?_push_size _ rfl) (r.mono fun b o p e => ⟨.inl p, Heap.get?_push_of_some _ e⟩)
  cases q : h.get? h.objs.size with
  | none => rfl
  | some o => exact absurd (Heap.lt_size q) (Nat.lt_irrefl _)
theorem giv_list {A : Around} {s : Shared} {P : Addr → Prop} {vs : List Value} {ds : List D} (r : RepL s.heap P vs ds) (hz : ds.length ≤ 1048576) : Giv prog w A (newList vs) s P (.list ds) := fun Q E k =>
  wpAny_newList (k _ _ s.toks (Kp.push _ _) (rep_new_list r)) (by rw [r.length, sizeLine_eq]; (first | lia | omega))
theorem giv_tup {A : Around} {s : Shared} {P : Addr → Prop} {vs : List Value} {ds : List D} (r : RepL s.heap P vs ds) (hz : ds.length ≤ 1048576) : Giv prog w A (newTuple vs) s P (.tup ds) := fun Q E k =>
  wpAny_newTuple (k _ _ s.toks (Kp.push _ _) (rep_new_tup r)) (by rw [r.length, sizeLine_eq]; (first | lia | omega))

theorem SE.list {es : List Expr} {pos : Pos} {F : EvL} (h : SL prog w fr es F) (hz : es.length ≤ 1000) : SE prog w fr (.List es pos) (xList F) := by
  rintro σ d σ' hF α s Q E I k
  simp only [xList, Option.map_eq_some_iff] at hF
  obtain ⟨⟨ds, σ1⟩, e1, e2⟩ := hF
  cases e2
  refine List_ (h σ ds _ e1 α s _ _ _ I fun vs h1 t1 ev1 I1 st1 r1 hl => ?_)
  refine giv_list r1 (by (first | lia | omega)) _ _ fun v h2 t2 kp r2 => ?_
  exact k v h2 t2 ev1 (I1.kp kp) (st1.trans (Stp.kp kp)) (rep_join I1 r2)
theorem SE.tup {es : List Expr} {pos : Pos} {c : Nat} {F : EvL} (h : SL prog w fr es F) (hz : es.length ≤ 1000) : SE prog w fr (.Tuple es c pos) (xTup F) := by
  rintro σ d σ' hF α s Q E I k
  simp only [xTup, Option.map_eq_some_iff] at hF
  obtain ⟨⟨ds, σ1⟩, e1, e2⟩ := hF
  cases e2
  refine Tuple_ (h σ ds _ e1 α s _ _ _ I fun vs h1 t1 ev1 I1 st1 r1 hl => ?_)
  refine giv_tup r1 (by (first | lia | omega)) _ _ fun v h2 t2 kp r2 => ?_
  exact k v h2 t2 ev1 (I1.kp kp) (st1.trans (Stp.kp kp)) (rep_join I1 r2)
end
end Mine
end

section
open PySem PySem.W PyProof.Rows PySem.Calls
set_option autoImplicit false
namespace Mine

/-- a value read where it stands: the list may be one that the frame holds -/
inductive RepB (h : Heap) (P : Addr → Prop) : Value → D → Prop
  | none : RepB h P .none .none
  | bool (b : Bool) : RepB h P (.bool b) (.bool b)
  | int (i : Int) (t : Tok) : RepB h P (.int i t) (.int i)
  | list {a : Addr} {vs : List Value} {n : Nat} {ds : List D} : h.get? a = some (lst vs n) → RepL h P vs ds → RepB h P (.ref a) (.list ds)
  | tup {a : Addr} {vs : List Value} {n : Nat} {ds : List D} : h.get? a = some (tpl vs n) → RepL h P vs ds → RepB h P (.ref a) (.tup ds)
  | rng {r : Addr} {a b c : Int} {t u v : Tok} : IsRange h r a b c t u v → RepB h P (.ref r) (.rng a b c)
theorem Rep.b {h : Heap} {P : Addr → Prop} {v : Value} {d : D} (r : Rep h P v d) : RepB h P v d := by
  cases r with
  | none => exact .none
  | bool b => exact .bool b
  | int i t => exact .int i t
  | list _ e r => exact .list e r
  | tup _ e r => exact .tup e r
  | rng _ e => exact .rng e
noncomputable abbrev Rd := St → Option (St × (St → Option D))

section
variable (prog : Program) (w : World) (fr : Fm)
/-- the expression e, read where it stands -/
noncomputable def SR (e : Expr) (B : Rd) : Prop :=
  ∀ σ σ' rd, B σ = some (σ', rd) → ∀ (α : Al) (s : Shared) (Q : Value → Shared → Prop) (E : Value → Shared → Prop), Inv fr α σ s.heap →
    (∀ v h' tk', Evo fr σ σ' → Inv fr α σ' h' → Stp fr α σ s.heap α σ' h' →
      (∀ σ2 h2 d, Evo fr σ' σ2 → Inv fr α σ2 h2 → Stp fr α σ' h' α σ2 h2 → rd σ2 = some d → RepB h2 (Pr fr α σ2) v d) → Q v { s with heap := h', toks := tk' }) →
    wpAny (model prog w) fr.A (eval e fr.env) Q E s
end

noncomputable def bGen (F : Ev) : Rd := fun σ => (F σ).map fun p => (p.2, fun _ => some p.1)
noncomputable def bOwn (i : Nat) : Rd := fun σ => match σ i with | .ow _ => some (σ, fun τ => match τ i with | .ow l => some (.list l) | _ => none) | _ => none

noncomputable def nthD : D → D → Option D
  | .list l, .int k => if l.length ≤ 1048576 then (if 0 ≤ k then l[k.toNat]? else if -(l.length : Int) ≤ k then l[(k + l.length).toNat]? else none) else none
  | .tup l, .int k => if l.length ≤ 1048576 then (if 0 ≤ k then l[k.toNat]? else none) else none
  | _, _ => none
noncomputable def xSub (B : Rd) (G : Ev) : Ev := fun σ => (B σ).bind fun p => (G p.1).bind fun q => (p.2 q.2).bind fun d => (nthD d q.1).map fun r => (r, q.2)

noncomputable def uptoD : D → D → Option D
  | .list l, .int k => if 0 ≤ k ∧ l.length ≤ 1048576 then some (.list (l.take k.toNat)) else none
  | _, _ => none
noncomputable def fromD : D → D → Option D
  | .list l, .int k => if 0 ≤ k ∧ l.length ≤ 1048576 then some (.list (l.drop k.toNat)) else none
  | _, _ => none
noncomputable def runD : D → D → D → Option D
  | .list l, .int a, .int b => if 0 ≤ a ∧ a ≤ b ∧ b ≤ l.length ∧ l.length ≤ 1048576 then some (.list ((l.drop a.toNat).take (b.toNat - a.toNat))) else none
  | _, _, _ => none
noncomputable def xUpto (B : Rd) (G : Ev) : Ev := fun σ => (B σ).bind fun p => (G p.1).bind fun q => (p.2 q.2).bind fun d => (uptoD d q.1).map fun r => (r, q.2)
noncomputable def xFrom (B : Rd) (G : Ev) : Ev := fun σ => (B σ).bind fun p => (G p.1).bind fun q => (p.2 q.2).bind fun d => (fromD d q.1).map fun r => (r, q.2)
noncomputable def xRun (B : Rd) (G H : Ev) : Ev := fun σ => (B σ).bind fun p => (G p.1).bind fun q => (H q.2).bind fun r => (p.2 r.2).bind fun d => (runD d q.1 r.1).map fun y => (y, r.2)

section
variable {prog : Program} {w : World} {fr : Fm}

theorem SR.gen {e : Expr} {F : Ev} (h : SE prog w fr e F) : SR prog w fr e (bGen F) := by
  rintro σ σ' rd hB α s Q E I k
  simp only [bGen, Option.map_eq_some_iff] at hB
  obtain ⟨⟨d, σ1⟩, e1, e2⟩ := hB
  cases e2
  exact h σ d _ e1 α s _ _ I fun v h1 t1 ev1 I1 st1 r1 => k v h1 t1 ev1 I1 st1 fun σ2 h2 d' ev2 I2 st2 hd => by
    cases hd; exact (st2.rep r1).b

theorem SR.own (ok : FOk fr) {x : Str} {pos : Pos} {i : Nat} (hx : fr.names[i]? = some x) (hn : nameOk x = true) : SR prog w fr (.Name x pos) (bOwn i) := by
  rintro σ σ' rd hB α s Q E I k
  simp only [bOwn] at hB
  cases hi : σ i with
  | no => rw [hi] at hB; cases hB
  | sh l => rw [hi] at hB; cases hB
  | ow l =>
    rw [hi] at hB; cases hB
    refine wpAny_Name (load_look ok.kind (I.ovar i x hx l hi) (k _ s.heap s.toks (Evo.refl _) I Stp.refl fun σ2 h2 d ev2 I2 st2 hd => ?_) (nameOk_2 hn)) (nameOk_1 hn)
    dsimp only at hd
    cases hi2 : σ2 i with
    | no => rw [hi2] at hd; cases hd
    | sh l => rw [hi2] at hd; cases hd
    | ow l2 =>
      rw [hi2] at hd; cases hd
      obtain ⟨_, vs, n, e, r⟩ := I2.own i l2 hi2
      exact .list e r

theorem lst_isList {h : Heap} {a : Addr} {vs : List Value} {n : Nat} (e : h.get? a = some (lst vs n)) : h.IsList a vs.toArray := ⟨_, e, rfl, n, rfl⟩
theorem tpl_isTup {h : Heap} {a : Addr} {vs : List Value} {n : Nat} (e : h.get? a = some (tpl vs n)) : IsTup h a vs.toArray := ⟨_, e, rfl, n, rfl⟩
theorem Rep.l {h : Heap} {P P' : Addr → Prop} {v : Value} {d : D} (r : Rep h P v d) (hp : ∀ b, P b → P' b) : Rep h P' v d := r.mono fun b _ p e => ⟨hp b p, e⟩

theorem giv_same {A : Around} {s : Shared} {P : Addr → Prop} {v : Value} {d : D} {t : Sem Value} (r : Rep s.heap P v d) (h : ∀ (Q E : Value → Shared → Prop), Q v s → wpAny (model prog w) A t Q E s) : Giv prog w A t s P d :=
  fun Q E k => h Q E (k v s.heap s.toks (Kp.refl _) (r.l fun _ => .inl))

theorem RepB.list_inv {h : Heap} {P : Addr → Prop} {v : Value} {ds : List D} (r : RepB h P v (.list ds)) : ∃ a vs n, v = .ref a ∧ h.get? a = some (lst vs n) ∧ RepL h P vs ds := by cases r with | list e l => exact ⟨_, _, _, rfl, e, l⟩
theorem RepB.tup_inv {h : Heap} {P : Addr → Prop} {v : Value} {ds : List D} (r : RepB h P v (.tup ds)) : ∃ a vs n, v = .ref a ∧ h.get? a = some (tpl vs n) ∧ RepL h P vs ds := by cases r with | tup e l => exact ⟨_, _, _, rfl, e, l⟩
inductive NthS (a b d : D) : Prop
  | pos {l : List D} {k : Int} (e1 : a = .list l) (e2 : b = .int k) (hz : l.length ≤ 1048576) (h0 : 0 ≤ k) (h : l[k.toNat]? = some d)
  | neg {l : List D} {k : Int} (e1 : a = .list l) (e2 : b = .int k) (hz : l.length ≤ 1048576) (h0 : ¬ 0 ≤ k) (h1 : -(l.length : Int) ≤ k) (h : l[(k + l.length).toNat]? = some d)
  | tup {l : List D} {k : Int} (e1 : a = .tup l) (e2 : b = .int k) (hz : l.length ≤ 1048576) (h0 : 0 ≤ k) (h : l[k.toNat]? = some d)
theorem nthD_inv {a b d : D} (h : nthD a b = some d) : NthS a b d := by
  unfold nthD at h
  split at h
  · split at h
    · rename_i hz
      split at h
      · rename_i h0; exact .pos rfl rfl hz h0 h
      · rename_i h0
        split at h
        · rename_i h1; exact .neg rfl rfl hz h0 h1 h
        · cases h
    · cases h
  · split at h
    · rename_i hz
      split at h
      · rename_i h0; exact .tup rfl rfl hz h0 h
      · cases h
    · cases h
  · cases h
theorem giv_sub {A : Around} {s : Shared} {P : Addr → Prop} {value slice : Expr} {o i : Value} {do' di' d : D} (ro : RepB s.heap P o do') (ri : Rep s.heap P i di') (hd : nthD do' di' = some d)
    (hs : ∀ o i, subscripted slice false o i = operate [o, i] (getItem o i)) : Giv prog w A (subscriptTail value slice o i) s P d := by
  cases nthD_inv hd with
  | pos e1 e2 hz h0 hq =>
    subst e1; subst e2
    obtain ⟨t, rfl⟩ := ri.int_inv
    obtain ⟨a, vs, n, rfl, e, r⟩ := ro.list_inv
    obtain ⟨v, hv, rv⟩ := r.get hq
    have hlt := (List.getElem?_eq_some_iff.mp hv).1
    exact giv_same rv fun Q E q => tail_any (lst_isList e).typeIs slot_list_getitem.lookup (wpAny_getItem_list (lst_isList e) h0 (by have := r.length; (first | lia | omega)) (by simpa using hv) q) (hs _ _)
  | @neg l k e1 e2 hz h0 h1 hq =>
    subst e1; subst e2
    obtain ⟨t, rfl⟩ := ri.int_inv
    obtain ⟨a, vs, n, rfl, e, r⟩ := ro.list_inv
    obtain ⟨v, hv, rv⟩ := r.get hq
    have hz' : vs.toArray.size = l.length := by rw [List.size_toArray]; exact r.length
    exact giv_same rv fun Q E q => tail_any (lst_isList e).typeIs slot_list_getitem.lookup (wpAny_getItem_list_neg (lst_isList e) (by (first | lia | omega)) (by (first | lia | omega)) (by (first | lia | omega)) (by rw [hz']; simpa using hv) q) (hs _ _)
  | @tup l k e1 e2 hz h0 hq =>
    subst e1; subst e2
    obtain ⟨t, rfl⟩ := ri.int_inv
    obtain ⟨a, vs, n, rfl, e, r⟩ := ro.tup_inv
    obtain ⟨v, hv, rv⟩ := r.get hq
    have hlt := (List.getElem?_eq_some_iff.mp hv).1
    have hlen := r.length
    exact giv_same rv fun Q E q => tail_any (tpl_isTup e).typeIs slot_tuple_getitem.lookup (getItem_tuple (tpl_isTup e) (j := k.toNat) (by (first | lia | omega)) (by (first | lia | omega)) (by simp [seqIndex?]; (first | lia | omega)) (by simpa using hv) q) (hs _ _)

theorem SE.sub {value slice : Expr} {pos : Pos} {B : Rd} {G : Ev} (hv : SR prog w fr value B) (hi : SE prog w fr slice G) (hs : ∀ o i, subscripted slice false o i = operate [o, i] (getItem o i)) : SE prog w fr (.Subscript value slice pos) (xSub B G) := by
  rintro σ d σ' hF α s Q E I k
  simp only [xSub, Option.bind_eq_some_iff, Option.map_eq_some_iff] at hF
  obtain ⟨⟨σ1, rd⟩, e1, ⟨di, σ2⟩, e2, dl, e3, r, e4, e5⟩ := hF
  cases e5
  refine Subscript_ (hv σ σ1 rd e1 α s _ _ I fun vo h1 t1 ev1 I1 st1 b1 => ?_)
  refine hi σ1 di _ e2 α _ _ _ I1 fun vi h2 t2 ev2 I2 st2 r2 => ?_
  refine giv_sub (b1 _ _ _ ev2 I2 st2 e3) r2 e4 hs _ _ fun v h3 t3 kp r3 => ?_
  exact k v h3 t3 (ev1.trans ev2) (I2.kp kp) ((st1.trans st2).trans (Stp.kp kp)) (rep_join I2 r3)

theorem Slice_ {M : Model} {A : Around} {env : Env} {s : Shared} {E : Value → Shared → Prop} {lo hi : Option Expr} {pos : Pos} {Q : Value → Shared → Prop}
    (h : wpAny M A (valueOrNone (evalOpt lo env)) (fun l s1 => wpAny M A (valueOrNone (evalOpt hi env)) (fun u s2 => Q (.ref s2.heap.objs.size) { s2 with heap := s2.heap.push { cls := .type "slice", data := .fields #[l, u, .none] } }) E s1) E s) :
    wpAny M A (eval (.Slice lo hi none pos) env) Q E s := by
  show wpAny M A (do
    let l ← valueOrNone (evalOpt lo env)
    let u ← holding [l] (valueOrNone (evalOpt hi env))
    let st ← holding [l, u] (valueOrNone (evalOpt none env))
    newFields "slice" [l, u, st]) Q E s
  refine wpAny_bind (wpAny_mono h (fun l s1 h1 => wpAny_bind (wpAny_holding (wpAny_mono h1 (fun u s2 h2 => ?_) fun _ _ e => e))) fun _ _ e => e)
  refine wpAny_bind (wpAny_holding (wpAny_pure ?_))
  exact wpAny_newObj_type h2

theorem giv_slice {A : Around} {s : Shared} {P : Addr → Prop} {value : Expr} {lo hi : Option Expr} {pos : Pos} {a : Addr} {vs : List Value} {n : Nat} {ds' : List D} {vl vu : Value} {l u : Option Int} {ws : List Value} (e : s.heap.get? a = some (lst vs n))
    (pl : IsPart vl l) (pu : IsPart vu u) (hz : vs.length ≤ 1048576) (hw : slicePick vs.toArray l u none = ws.toArray) (r : RepL s.heap P ws ds')
    (Q E : Value → Shared → Prop) (k : ∀ v h' tk', Kp s.heap h' → Rep h' (fun b => P b ∨ s.heap.get? b = none) v (.list ds') → Q v { s with heap := h', toks := tk' }) :
    wpAny (model prog w) A (subscriptTail value (.Slice lo hi none pos) (.ref a) (.ref s.heap.objs.size)) Q E { s with heap := s.heap.push { cls := .type "slice", data := .fields #[vl, vu, .none] } } := by
  have hl : (s.heap.push { cls := .type "slice", data := .fields #[vl, vu, .none] }).IsList a vs.toArray := (lst_isList e).push _
  refine tail_any (ops := [.ref s.heap.objs.size, .ref a]) (Heap.IsList.typeIs (s := { s with heap := s.heap.push { cls := .type "slice", data := .fields #[vl, vu, .none] } }) hl) slot_list_getitem.lookup
    (wpAny_getItem_list_slice hl (Heap.IsSliceOf.new ..) pl pu .none (by simp) ?_ (by simp [sizeLine_eq]; (first | lia | omega))) (by rfl)
  rw [hw]
  have q := rep_new_list (r.kp (Kp.push s.heap { cls := .type "slice", data := .fields #[vl, vu, .none] }))
  refine k _ _ s.toks ((Kp.push _ _).trans (Kp.push _ _)) (q.l fun b hb => hb.imp id fun hb => Kp.none (Kp.push _ _) hb)

theorem uptoD_inv {a b d : D} (h : uptoD a b = some d) : ∃ l m, a = .list l ∧ b = .int (m : Nat) ∧ l.length ≤ 1048576 ∧ d = .list (l.take m) := by
  unfold uptoD at h
  split at h
  · split at h
    · rename_i l k c
      refine ⟨l, k.toNat, rfl, ?_, c.2, (Option.some.inj h).symm⟩
      rw [Int.toNat_of_nonneg c.1]
    · cases h
  · cases h
theorem fromD_inv {a b d : D} (h : fromD a b = some d) : ∃ l m, a = .list l ∧ b = .int (m : Nat) ∧ l.length ≤ 1048576 ∧ d = .list (l.drop m) := by
  unfold fromD at h
  split at h
  · split at h
    · rename_i l k c
      refine ⟨l, k.toNat, rfl, ?_, c.2, (Option.some.inj h).symm⟩
      rw [Int.toNat_of_nonneg c.1]
    · cases h
  · cases h
theorem runD_inv {a b c d : D} (h : runD a b c = some d) : ∃ l m n, a = .list l ∧ b = .int (m : Nat) ∧ c = .int (n : Nat) ∧ m ≤ n ∧ n ≤ l.length ∧ l.length ≤ 1048576 ∧ d = .list ((l.drop m).take (n - m)) := by
  unfold runD at h
  split at h
  · split at h
    · rename_i l x y c
      obtain ⟨c1, c2, c3, c4⟩ := c
      refine ⟨l, x.toNat, y.toNat, rfl, ?_, ?_, by (first | lia | omega), by (first | lia | omega), c4, (Option.some.inj h).symm⟩
      · rw [Int.toNat_of_nonneg c1]
      · rw [Int.toNat_of_nonneg (by (first | lia | omega))]
    · cases h
  · cases h
section
variable {A : Around} {s : Shared} {P : Addr → Prop} {value : Expr} {pos : Pos} {o : Value} {dl r : D} (ro : RepB s.heap P o dl) {Q E : Value → Shared → Prop} (k : ∀ v h' tk', Kp s.heap h' → Rep h' (fun b => P b ∨ s.heap.get? b = none) v r → Q v { s with heap := h', toks := tk' })
include ro k
theorem giv_upto {hi : Option Expr} {vi : Value} {di : D} (ri : Rep s.heap P vi di) (h : uptoD dl di = some r) :
    wpAny (model prog w) A (subscriptTail value (.Slice none hi none pos) o (.ref s.heap.objs.size)) Q E { s with heap := s.heap.push { cls := .type "slice", data := .fields #[.none, vi, .none] } } := by
  obtain ⟨l, m, rfl, rfl, hz, rfl⟩ := uptoD_inv h
  obtain ⟨a, vs, n, rfl, e, rl⟩ := ro.list_inv
  obtain ⟨t, rfl⟩ := ri.int_inv
  exact giv_slice e .none (.int _ t) (by rw [rl.length]; exact hz) (by rw [slicePick_upto']) (by simpa using rl.take m) _ _ k
theorem giv_from {lo : Option Expr} {vi : Value} {di : D} (ri : Rep s.heap P vi di) (h : fromD dl di = some r) :
    wpAny (model prog w) A (subscriptTail value (.Slice lo none none pos) o (.ref s.heap.objs.size)) Q E { s with heap := s.heap.push { cls := .type "slice", data := .fields #[vi, .none, .none] } } := by
  obtain ⟨l, m, rfl, rfl, hz, rfl⟩ := fromD_inv h
  obtain ⟨a, vs, n, rfl, e, rl⟩ := ro.list_inv
  obtain ⟨t, rfl⟩ := ri.int_inv
  exact giv_slice e (.int _ t) .none (by rw [rl.length]; exact hz) (by rw [slicePick_from']) (by simpa using rl.drop m) _ _ k
theorem giv_run {lo hi : Option Expr} {va vb : Value} {da db : D} (ra : Rep s.heap P va da) (rb : Rep s.heap P vb db) (h : runD dl da db = some r) :
    wpAny (model prog w) A (subscriptTail value (.Slice lo hi none pos) o (.ref s.heap.objs.size)) Q E { s with heap := s.heap.push { cls := .type "slice", data := .fields #[va, vb, .none] } } := by
  obtain ⟨l, m, n', rfl, rfl, rfl, h1, h2, hz, rfl⟩ := runD_inv h
  obtain ⟨a, vs, n, rfl, e, rl⟩ := ro.list_inv
  obtain ⟨t, rfl⟩ := ra.int_inv
  obtain ⟨u, rfl⟩ := rb.int_inv
  exact giv_slice e (.int _ t) (.int _ u) (by rw [rl.length]; exact hz) (by rw [slicePick_run _ _ _ (by simp; rw [rl.length]; exact h2) h1]) (by simpa using (rl.drop m).take (n' - m)) _ _ k
end
theorem SE.upto {value hi : Expr} {pos pos' : Pos} {B : Rd} {G : Ev} (hv : SR prog w fr value B) (hi' : SE prog w fr hi G) : SE prog w fr (.Subscript value (.Slice none (some hi) none pos') pos) (xUpto B G) := by
  rintro σ d σ' hF α s Q E I k
  simp only [xUpto, Option.bind_eq_some_iff, Option.map_eq_some_iff] at hF
  obtain ⟨⟨σ1, rd⟩, e1, ⟨di, σ2⟩, e2, dl, e3, r, e4, e5⟩ := hF
  cases e5
  refine Subscript_ (hv σ σ1 rd e1 α s _ _ I fun vo h1 t1 ev1 I1 st1 b1 => Slice_ (wpAny_pure (hi' σ1 di _ e2 α _ _ _ I1 fun vi h2 t2 ev2 I2 st2 r2 => ?_)))
  exact giv_upto (s := { s with heap := h2, toks := t2 }) (b1 _ _ _ ev2 I2 st2 e3) (fun v h3 t3 kp r3 => k v h3 t3 (ev1.trans ev2) (I2.kp kp) ((st1.trans st2).trans (Stp.kp kp)) (rep_join I2 r3)) r2 e4
theorem SE.from {value lo : Expr} {pos pos' : Pos} {B : Rd} {G : Ev} (hv : SR prog w fr value B) (hi' : SE prog w fr lo G) : SE prog w fr (.Subscript value (.Slice (some lo) none none pos') pos) (xFrom B G) := by
  rintro σ d σ' hF α s Q E I k
  simp only [xFrom, Option.bind_eq_some_iff, Option.map_eq_some_iff] at hF
  obtain ⟨⟨σ1, rd⟩, e1, ⟨di, σ2⟩, e2, dl, e3, r, e4, e5⟩ := hF
  cases e5
  refine Subscript_ (hv σ σ1 rd e1 α s _ _ I fun vo h1 t1 ev1 I1 st1 b1 => Slice_ (hi' σ1 di _ e2 α _ _ _ I1 fun vi h2 t2 ev2 I2 st2 r2 => wpAny_pure ?_))
  exact giv_from (s := { s with heap := h2, toks := t2 }) (b1 _ _ _ ev2 I2 st2 e3) (fun v h3 t3 kp r3 => k v h3 t3 (ev1.trans ev2) (I2.kp kp) ((st1.trans st2).trans (Stp.kp kp)) (rep_join I2 r3)) r2 e4
theorem SE.run {value lo hi : Expr} {pos pos' : Pos} {B : Rd} {G H : Ev} (hv : SR prog w fr value B) (hl' : SE prog w fr lo G) (hi' : SE prog w fr hi H) : SE prog w fr (.Subscript value (.Slice (some lo) (some hi) none pos') pos) (xRun B G H) := by
  rintro σ d σ' hF α s Q E I k
  simp only [xRun, Option.bind_eq_some_iff, Option.map_eq_some_iff] at hF
  obtain ⟨⟨σ1, rd⟩, e1, ⟨da, σ2⟩, e2, ⟨db, σ3⟩, e3, dl, e4, r, e5, e6⟩ := hF
  cases e6
  refine Subscript_ (hv σ σ1 rd e1 α s _ _ I fun vo h1 t1 ev1 I1 st1 b1 => Slice_ (hl' σ1 da _ e2 α _ _ _ I1 fun va h2 t2 ev2 I2 st2 r2 => hi' σ2 db _ e3 α _ _ _ I2 fun vb h3 t3 ev3 I3 st3 r3 => ?_))
  exact giv_run (s := { s with heap := h3, toks := t3 }) (b1 _ _ _ (ev2.trans ev3) I3 (st2.trans st3) e4) (fun v h4 t4 kp r4 => k v h4 t4 ((ev1.trans ev2).trans ev3) (I3.kp kp) (((st1.trans st2).trans st3).trans (Stp.kp kp)) (rep_join I3 r4)) (st3.rep r2) r3 e5
end
end Mine
end

section
open PySem PySem.W PyProof.Rows PySem.Calls
set_option autoImplicit false
namespace Mine

noncomputable def oAdd : D → D → Option D
  | .int a, .int b => some (.int (a + b))
  | .list a, .list b => if a.length + b.length ≤ 1048576 then some (.list (a ++ b)) else none
  | _, _ => none
noncomputable def oIadd : D → D → Option D
  | .int a, .int b => some (.int (a + b))
  | _, _ => none
noncomputable def oSub : D → D → Option D
  | .int a, .int b => some (.int (a - b))
  | _, _ => none
noncomputable def small (a : Int) : Prop := -1152921504606846976 < a ∧ a < 1152921504606846976
theorem small_iff (a : Int) : a.natAbs ≤ 1152921504606846975 ↔ small a := by unfold small; (first | lia | omega)
noncomputable instance (a : Int) : Decidable (small a) := decidable_of_iff _ (small_iff a)
noncomputable def oMul : D → D → Option D
  | .int a, .int b => if small a ∨ small b then some (.int (a * b)) else none
  | .list a, .int b => if a.length * b.toNat ≤ 1048576 ∧ small b then some (.list (List.replicate b.toNat a).flatten) else none
  | _, _ => none
noncomputable def oDiv : D → D → Option D
  | .int a, .int b => if b ≠ 0 ∧ small b then some (.int (a.fdiv b)) else none
  | _, _ => none
noncomputable def oMod : D → D → Option D
  | .int a, .int b => if b ≠ 0 then some (.int (a.fmod b)) else none
  | _, _ => none
noncomputable def oPow : D → D → Option D
  | .int a, .int b => if 0 ≤ b ∧ b ≤ 1000 ∧ small a then some (.int (a ^ b.toNat)) else none
  | _, _ => none
noncomputable def oShl : D → D → Option D
  | .int a, .int b => if 0 ≤ b ∧ b ≤ 1000 ∧ small a then some (.int (a * 2 ^ b.toNat)) else none
  | _, _ => none
noncomputable def cLt : D → D → Option D
  | .int a, .int b => some (.bool (decide (a < b)))
  | _, _ => none
noncomputable def cLe : D → D → Option D
  | .int a, .int b => some (.bool (decide (a ≤ b)))
  | _, _ => none
noncomputable def cGt : D → D → Option D
  | .int a, .int b => some (.bool (decide (b < a)))
  | _, _ => none
noncomputable def cGe : D → D → Option D
  | .int a, .int b => some (.bool (decide (b ≤ a)))
  | _, _ => none
noncomputable def cEq : D → D → Option D
  | .int a, .int b => some (.bool (a == b))
  | _, _ => none
noncomputable def cNe : D → D → Option D
  | .int a, .int b => some (.bool (a != b))
  | .list [], .list [] => some (.bool false)
  | _, _ => none
noncomputable def cNin : D → D → Option D
  | .int a, .list [.int b, .int c] => some (.bool (!([b, c].any (· == a))))
  | _, _ => none

theorem small_bits {a : Int} (h : small a) : Builtin.Int.intBits a ≤ 64 := intBits_le_64 (by have := h.1; (first | lia | omega)) (by have := h.2; (first | lia | omega))

section
variable {prog : Program} {w : World} {A : Around} {s : Shared} {P : Addr → Prop} {va vb : Value} {a b d : D}

theorem giv_int {i : Int} {t : Sem Value} (h : ∀ (Q E : Value → Shared → Prop), Q (.int i s.toks) { s with toks := s.toks + 1 } → wpAny (model prog w) A t Q E s) : Giv prog w A t s P (.int i) :=
  fun Q E k => h Q E (k _ s.heap _ (Kp.refl _) (.int _ _))
theorem giv_bool {i : Bool} {t : Sem Value} (h : ∀ (Q E : Value → Shared → Prop), Q (.bool i) s → wpAny (model prog w) A t Q E s) : Giv prog w A t s P (.bool i) :=
  fun Q E k => h Q E (k _ s.heap s.toks (Kp.refl _) (.bool _))

noncomputable def ii (F : Int → Int → Option D) : D → D → Option D
  | .int a, .int b => F a b
  | _, _ => none
theorem ii_inv {F : Int → Int → Option D} (h : ii F a b = some d) : ∃ x y, a = .int x ∧ b = .int y ∧ F x y = some d := by
  unfold ii at h
  split at h
  · exact ⟨_, _, rfl, rfl, h⟩
  · cases h
theorem g_ii {F : Int → Int → Option D} {op : Value → Value → Sem Value} (hop : ∀ x y t u, F x y = some d → Giv prog w A (op (.int x t) (.int y u)) s P d) (ra : Rep s.heap P va a) (rb : Rep s.heap P vb b) (h : ii F a b = some d) : Giv prog w A (op va vb) s P d := by
  obtain ⟨x, y, rfl, rfl, h⟩ := ii_inv h
  obtain ⟨t, rfl⟩ := ra.int_inv
  obtain ⟨u, rfl⟩ := rb.int_inv
  exact hop x y t u h
theorem some_if {β : Type} {c : Prop} [Decidable c] {x d : β} (h : (if c then some x else none) = some d) : c ∧ d = x := by
  by_cases hc : c
  · rw [if_pos hc] at h; exact ⟨hc, (Option.some.inj h).symm⟩
  · rw [if_neg hc] at h; cases h
theorem addl_inv {l m : List D} (h : oAdd (.list l) (.list m) = some d) : l.length + m.length ≤ 1048576 ∧ d = .list (l ++ m) := some_if h
theorem oAdd_inv (h : oAdd a b = some d) : (∃ x y, a = .int x ∧ b = .int y ∧ d = .int (x + y)) ∨ ∃ l m, a = .list l ∧ b = .list m ∧ l.length + m.length ≤ 1048576 ∧ d = .list (l ++ m) := by
  unfold oAdd at h
  split at h
  · exact .inl ⟨_, _, rfl, rfl, (Option.some.inj h).symm⟩
  · obtain ⟨c, e⟩ := some_if h; exact .inr ⟨_, _, rfl, rfl, c, e⟩
  · cases h
theorem oMul_inv (h : oMul a b = some d) : (∃ x y, a = .int x ∧ b = .int y ∧ (small x ∨ small y) ∧ d = .int (x * y)) ∨ ∃ l y, a = .list l ∧ b = .int y ∧ (l.length * y.toNat ≤ 1048576 ∧ small y) ∧ d = .list (List.replicate y.toNat l).flatten := by
  unfold oMul at h
  split at h
  · obtain ⟨c, e⟩ := some_if h; exact .inl ⟨_, _, rfl, rfl, c, e⟩
  · obtain ⟨c, e⟩ := some_if h; exact .inr ⟨_, _, rfl, rfl, c, e⟩
  · cases h

theorem g_add (ra : Rep s.heap P va a) (rb : Rep s.heap P vb b) (h : oAdd a b = some d) : Giv prog w A (binaryOp .Add va vb) s P d := by
  rcases oAdd_inv h with ⟨x, y, rfl, rfl, rfl⟩ | ⟨l, m, rfl, rfl, hz, rfl⟩
  · obtain ⟨t, rfl⟩ := ra.int_inv
    obtain ⟨u, rfl⟩ := rb.int_inv
    exact giv_int fun Q E q => add_int q
  · obtain ⟨i, vs, n, rfl, pa, ea, la⟩ := ra.list_inv
    obtain ⟨j, ws, n', rfl, pb, eb, lb⟩ := rb.list_inv
    intro Q E k
    rw [← la.length, ← lb.length] at hz
    refine PySem.P.add_list (items := _) (items2 := _) ea eb ?_ (by simp [sizeLine_eq]; (first | lia | omega))
    have e : ∀ (xs ys : List Value), xs.toArray ++ ys.toArray = (xs ++ ys).toArray := by simp
    rw [e]
    exact k _ _ s.toks (Kp.push _ _) (rep_new_list (la.append lb))
theorem g_iadd (ra : Rep s.heap P va a) (rb : Rep s.heap P vb b) (h : oIadd a b = some d) : Giv prog w A (inplaceOp .Add va vb) s P d :=
  g_ii (F := fun x y => some (.int (x + y))) (fun x y t u h => by cases h; exact giv_int fun Q E q => iadd_int q) ra rb h
theorem g_sub (ra : Rep s.heap P va a) (rb : Rep s.heap P vb b) (h : oSub a b = some d) : Giv prog w A (binaryOp .Sub va vb) s P d :=
  g_ii (F := fun x y => some (.int (x - y))) (fun x y t u h => by cases h; exact giv_int fun Q E q => sub_int q) ra rb h

theorem foldl_app (l : List (Array Value)) : ∀ acc : Array Value, (l.foldl (fun x y => x ++ y) acc) = acc ++ (l.map (·.toList)).flatten.toArray := by
  induction l with
  | nil => intro acc; simp
  | cons x l ih => intro acc; cases x; rw [List.foldl_cons, ih]; simp [Array.append_assoc]
theorem RepL.rep {h : Heap} {P : Addr → Prop} {vs : List Value} {ds : List D} (r : RepL h P vs ds) (n : Nat) : RepL h P (List.replicate n vs).flatten (List.replicate n ds).flatten := by
  induction n with
  | zero => exact .nil
  | succ n ih => simpa [List.replicate_succ] using r.append ih

theorem mul_push {Q E : Value → Shared → Prop} {l : Addr} {vs : List Value} {n : Nat} {y : Int} {u : Tok} (ea : s.heap.get? l = some (lst vs n)) (hz' : vs.toArray.size * y.toNat ≤ 1048576) (hy : small y)
    (k : Q (.ref s.heap.objs.size) { s with heap := s.heap.push (lst (List.replicate y.toNat vs).flatten 0) }) : wpAny (model prog w) A (binaryOp .Mult (.ref l) (.int y u)) Q E s := by
  obtain ⟨h1, h2⟩ := hy
  refine wpAny_binaryOp_repeat_ref (T := "list") (U := "int") (by decide) (lst_isList ea).typeIs (fun s' => typeIs_int s' y u) noFill_list_mul F.fills_int_mul F.slot_int_rmul repeat_list F.slot_int_index.lookup
    (call_meets F.slot_int_rmul (typeIs_int s y u) F.entry_int_rmul (F.args_int_rmul_2 _ _) (int___rmul___int_list y u l vs.toArray n) ⟨ea, rfl, (lst_isList ea).typeIs, ?_⟩)
  refine call_meets F.slot_list_mul (lst_isList ea).typeIs F.entry_list_mul (F.args_list_mul_2 _ _) (AutoListH.list___mul___list_int_3 l vs.toArray n y u ?_ ?_ ?_) ⟨ea, ?_⟩
  · simp [Builtin.List.listFitsIndex]; (first | lia | omega)
  · (first | lia | omega)
  · have hz2 : vs.toArray.size * y.toNat ≤ 2 ^ 24 := by (first | lia | omega)
    simpa [Builtin.List.listTooLong, sizeLine] using hz2
  · have e : (List.foldl (fun x1 x2 => x1 ++ x2) #[] (List.replicate (if vs.toArray.isEmpty = true then 0 else y.toNat) vs.toArray)) = (List.replicate y.toNat vs).flatten.toArray := by
      rw [foldl_app]
      by_cases hv : vs = []
      · subst hv; simp
      · simp [hv]
    rw [e]
    exact k

theorem g_mul (ra : Rep s.heap P va a) (rb : Rep s.heap P vb b) (h : oMul a b = some d) : Giv prog w A (binaryOp .Mult va vb) s P d := by
  rcases oMul_inv h with ⟨x, y, rfl, rfl, hz, rfl⟩ | ⟨l, y, rfl, rfl, ⟨hz, hy⟩, rfl⟩
  · obtain ⟨t, rfl⟩ := ra.int_inv
    obtain ⟨u, rfl⟩ := rb.int_inv
    exact giv_int fun Q E q => mul_int q (hz.elim (fun h => IntMulOk.of_left (small_bits h)) fun h => IntMulOk.of_right (small_bits h))
  · obtain ⟨i, vs, n, rfl, pa, ea, la⟩ := ra.list_inv
    obtain ⟨u, rfl⟩ := rb.int_inv
    intro Q E k
    rw [← la.length] at hz
    exact mul_push ea (by simpa using hz) hy (k _ _ s.toks (Kp.push _ _) (rep_new_list (la.rep _)))
theorem g_div (ra : Rep s.heap P va a) (rb : Rep s.heap P vb b) (h : oDiv a b = some d) : Giv prog w A (binaryOp .FloorDiv va vb) s P d :=
  g_ii (F := fun x y => if y ≠ 0 ∧ small y then some (.int (x.fdiv y)) else none) (fun x y t u h => by
    obtain ⟨hz, rfl⟩ := some_if h
    refine giv_int fun Q E q => floordiv_int hz.1 q (.inl (PyProof.noPylong_of_log2 ?_))
    by_cases h0 : y.natAbs = 0
    · rw [h0]; decide +kernel
    · have h2 := hz.2
      unfold small at h2
      have h30 : y.natAbs.log2 < 60 := (Nat.log2_lt h0).mpr (by (first | lia | omega))
      exact Nat.lt_of_lt_of_le h30 (by decide)) ra rb h
theorem g_mod (ra : Rep s.heap P va a) (rb : Rep s.heap P vb b) (h : oMod a b = some d) : Giv prog w A (binaryOp .Mod va vb) s P d :=
  g_ii (F := fun x y => if y ≠ 0 then some (.int (x.fmod y)) else none) (fun x y t u h => by
    obtain ⟨hz, rfl⟩ := some_if h
    exact giv_int fun Q E q => mod_int hz q) ra rb h
theorem g_pow (ra : Rep s.heap P va a) (rb : Rep s.heap P vb b) (h : oPow a b = some d) : Giv prog w A (binaryOp .Pow va vb) s P d :=
  g_ii (F := fun x y => if 0 ≤ y ∧ y ≤ 1000 ∧ small x then some (.int (x ^ y.toNat)) else none) (fun x y t u h => by
    obtain ⟨hz, rfl⟩ := some_if h
    refine giv_int fun Q E q => pow_int hz.1 ?_ q
    have h1 : (Builtin.Int.intBits x : Int) ≤ 64 := by exact_mod_cast small_bits hz.2.2
    have h2 : (Builtin.Int.intBits x : Int) * y ≤ 64 * 1000 := Int.mul_le_mul h1 hz.2.1 hz.1 (by decide)
    (first | lia | omega)) ra rb h
theorem g_shl (ra : Rep s.heap P va a) (rb : Rep s.heap P vb b) (h : oShl a b = some d) : Giv prog w A (binaryOp .LShift va vb) s P d :=
  g_ii (F := fun x y => if 0 ≤ y ∧ y ≤ 1000 ∧ small x then some (.int (x * 2 ^ y.toNat)) else none) (fun x y t u h => by
    obtain ⟨hz, rfl⟩ := some_if h
    refine giv_int fun Q E q => lshift_int hz.1 ?_ q
    have h1 := small_bits hz.2.2
    (first | lia | omega)) ra rb h
theorem g_lt (ra : Rep s.heap P va a) (rb : Rep s.heap P vb b) (h : cLt a b = some d) : Giv prog w A (compareOp .Lt va vb) s P d :=
  g_ii (F := fun x y => some (.bool (decide (x < y)))) (fun x y t u h => by cases h; exact giv_bool fun Q E q => lt_int q) ra rb h
theorem g_le (ra : Rep s.heap P va a) (rb : Rep s.heap P vb b) (h : cLe a b = some d) : Giv prog w A (compareOp .LtE va vb) s P d :=
  g_ii (F := fun x y => some (.bool (decide (x ≤ y)))) (fun x y t u h => by cases h; exact giv_bool fun Q E q => le_int q) ra rb h
theorem g_gt (ra : Rep s.heap P va a) (rb : Rep s.heap P vb b) (h : cGt a b = some d) : Giv prog w A (compareOp .Gt va vb) s P d :=
  g_ii (F := fun x y => some (.bool (decide (y < x)))) (fun x y t u h => by cases h; exact giv_bool fun Q E q => gt_int q) ra rb h
theorem g_ge (ra : Rep s.heap P va a) (rb : Rep s.heap P vb b) (h : cGe a b = some d) : Giv prog w A (compareOp .GtE va vb) s P d :=
  g_ii (F := fun x y => some (.bool (decide (y ≤ x)))) (fun x y t u h => by cases h; exact giv_bool fun Q E q => ge_int q) ra rb h
theorem g_eq (ra : Rep s.heap P va a) (rb : Rep s.heap P vb b) (h : cEq a b = some d) : Giv prog w A (compareOp .Eq va vb) s P d :=
  g_ii (F := fun x y => some (.bool (x == y))) (fun x y t u h => by cases h; exact giv_bool fun Q E q => eq_int q) ra rb h
theorem cNe_inv (h : cNe a b = some d) : (∃ x y, a = .int x ∧ b = .int y ∧ d = .bool (x != y)) ∨ a = .list [] ∧ b = .list [] ∧ d = .bool false := by
  unfold cNe at h
  split at h
  · exact .inl ⟨_, _, rfl, rfl, (Option.some.inj h).symm⟩
  · exact .inr ⟨rfl, rfl, (Option.some.inj h).symm⟩
  · cases h
theorem g_ne (hu : A.units + 64 < cLine) (ra : Rep s.heap P va a) (rb : Rep s.heap P vb b) (h : cNe a b = some d) : Giv prog w A (compareOp .NotEq va vb) s P d := by
  rcases cNe_inv h with ⟨x, y, rfl, rfl, rfl⟩ | ⟨rfl, rfl, rfl⟩
  · obtain ⟨t, rfl⟩ := ra.int_inv
    obtain ⟨u, rfl⟩ := rb.int_inv
    exact giv_bool fun Q E q => ne_int q
  · obtain ⟨i, vs, n, rfl, pa, ea, la⟩ := ra.list_inv
    obtain ⟨j, ws, n', rfl, pb, eb, lb⟩ := rb.list_inv
    obtain rfl := la.nil_inv
    obtain rfl := lb.nil_inv
    exact giv_bool fun Q E q => ne_intsK (lst_isList ea) .nil (lst_isList eb) .nil hu (by simpa using q)
theorem cNin_inv (h : cNin a b = some d) : ∃ x y z, a = .int x ∧ b = .list [.int y, .int z] ∧ d = .bool (!([y, z].any (· == x))) := by
  unfold cNin at h
  split at h
  · exact ⟨_, _, _, rfl, rfl, (Option.some.inj h).symm⟩
  · cases h
theorem g_nin (ra : Rep s.heap P va a) (rb : Rep s.heap P vb b) (h : cNin a b = some d) : Giv prog w A (compareOp .NotIn va vb) s P d := by
  obtain ⟨x, y, z, rfl, rfl, rfl⟩ := cNin_inv h
  obtain ⟨t, rfl⟩ := ra.int_inv
  obtain ⟨i, vs, n, rfl, pa, ea, la⟩ := rb.list_inv
  obtain ⟨v, u, rfl, r1, r2⟩ := la.two_inv
  obtain ⟨t1, rfl⟩ := r1.int_inv
  obtain ⟨t2, rfl⟩ := r2.int_inv
  exact giv_bool fun Q E q => notin_list_ints (ns := [_, _]) (lst_isList ea) (.cons _ _ (.cons _ _ .nil)) q
end
end Mine
end

section
open PySem PySem.W PyProof.Rows PySem.Calls
set_option autoImplicit false
namespace Mine

/-- the ints of data -/
noncomputable def ints? : List D → Option (List Int)
  | [] => some []
  | .int i :: r => (ints? r).map (i :: ·)
  | _ => none
theorem ints?_di {l : List D} {ns : List Int} (h : ints? l = some ns) : l = di ns := by
  induction l generalizing ns with
  | nil => simp only [ints?, Option.some.injEq] at h; subst h; rfl
  | cons d l ih =>
    cases d with
    | int i =>
      simp only [ints?, Option.map_eq_some_iff] at h
      obtain ⟨ms, h1, rfl⟩ := h
      rw [ih h1]; rfl
    | _ => simp [ints?] at h
theorem ints?_of_di (ns : List Int) : ints? (di ns) = some ns := by
  induction ns with
  | nil => rfl
  | cons n ns ih => show (ints? (di ns)).map (n :: ·) = _; rw [ih]; rfl

noncomputable def ins (x : Int) : List Int → List Int
  | [] => [x]
  | y :: l => if x ≤ y then x :: y :: l else y :: ins x l
noncomputable def isort : List Int → List Int
  | [] => []
  | x :: l => ins x (isort l)
theorem ins_perm (x : Int) (l : List Int) : (ins x l).Perm (x :: l) := by
  induction l with
  | nil => exact .refl _
  | cons y l ih =>
    unfold ins
    split
    · exact .refl _
    · exact (ih.cons y).trans (.swap x y l)
theorem isort_perm (l : List Int) : (isort l).Perm l := by
  induction l with
  | nil => exact .refl _
  | cons x l ih => exact (ins_perm x _).trans (ih.cons x)
theorem ins_sorted (x : Int) {l : List Int} (h : l.Pairwise (· ≤ ·)) : (ins x l).Pairwise (· ≤ ·) := by
  induction l with
  | nil => exact List.pairwise_singleton _ _
  | cons y l ih =>
    obtain ⟨h1, h2⟩ := List.pairwise_cons.mp h
    unfold ins
    split
    · rename_i hxy
      exact List.pairwise_cons.mpr ⟨fun z hz => by
        rcases List.mem_cons.mp hz with rfl | hz
        · exact hxy
        · exact Int.le_trans hxy (h1 z hz), h⟩
    · rename_i hxy
      refine List.pairwise_cons.mpr ⟨fun z hz => ?_, ih h2⟩
      rcases List.mem_cons.mp ((ins_perm x l).mem_iff.mp hz) with rfl | hz
      · (first | lia | omega)
      · exact h1 z hz
theorem isort_sorted (l : List Int) : (isort l).Pairwise (· ≤ ·) := by
  induction l with
  | nil => exact .nil
  | cons x l ih => exact ins_sorted x ih
theorem isort_eq {l ns : List Int} (hp : l.Perm ns) (hs : l.Pairwise (· ≤ ·)) : l = isort ns :=
  List.Perm.eq_of_pairwise (fun _ _ _ _ h1 h2 => Int.le_antisymm h1 h2) hs (isort_sorted ns) (hp.trans (isort_perm ns).symm)

noncomputable def minI : List Int → Int
  | [] => 0
  | [x] => x
  | x :: l => min x (minI l)
noncomputable def maxI : List Int → Int
  | [] => 0
  | [x] => x
  | x :: l => max x (maxI l)
theorem minI_spec : ∀ {l : List Int}, l ≠ [] → minI l ∈ l ∧ ∀ a ∈ l, minI l ≤ a
  | [], h => absurd rfl h
  | [x], _ => ⟨List.mem_cons_self, fun a ha => by rw [List.mem_singleton.mp ha]; exact Int.le_refl _⟩
  | x :: y :: l, _ => by
    obtain ⟨h1, h2⟩ := minI_spec (l := y :: l) (by simp)
    have e : minI (x :: y :: l) = min x (minI (y :: l)) := rfl
    rw [e]
    refine ⟨?_, fun a ha => ?_⟩
    · rcases Int.le_total x (minI (y :: l)) with h | h
      · rw [Int.min_eq_left h]; exact List.mem_cons_self
      · rw [Int.min_eq_right h]; exact List.mem_cons_of_mem _ h1
    · rcases List.mem_cons.mp ha with rfl | ha
      · exact Int.min_le_left _ _
      · exact Int.le_trans (Int.min_le_right _ _) (h2 a ha)
theorem maxI_spec : ∀ {l : List Int}, l ≠ [] → maxI l ∈ l ∧ ∀ a ∈ l, a ≤ maxI l
  | [], h => absurd rfl h
  | [x], _ => ⟨List.mem_cons_self, fun a ha => by rw [List.mem_singleton.mp ha]; exact Int.le_refl _⟩
  | x :: y :: l, _ => by
    obtain ⟨h1, h2⟩ := maxI_spec (l := y :: l) (by simp)
    have e : maxI (x :: y :: l) = max x (maxI (y :: l)) := rfl
    rw [e]
    refine ⟨?_, fun a ha => ?_⟩
    · rcases Int.le_total x (maxI (y :: l)) with h | h
      · rw [Int.max_eq_right h]; exact List.mem_cons_of_mem _ h1
      · rw [Int.max_eq_left h]; exact List.mem_cons_self
    · rcases List.mem_cons.mp ha with rfl | ha
      · exact Int.le_max_left _ _
      · exact Int.le_trans (h2 a ha) (Int.le_max_right _ _)

/-- the pairs of data -/
noncomputable def pairs? : List D → Option (List (Int × Int))
  | [] => some []
  | .tup [.int i, .int j] :: r => (pairs? r).map ((i, j) :: ·)
  | _ => none
noncomputable def dp (l : List (Int × Int)) : List D := l.map fun p => .tup [.int p.1, .int p.2]

noncomputable def bLen : D → Option D
  | .list l => if l.length ≤ 1048576 then some (.int l.length) else none
  | _ => none
noncomputable def bSum : D → Option D
  | .list l => (ints? l).map fun ns => .int ns.sum
  | _ => none
noncomputable def bMin : D → Option D
  | .list l => (ints? l).bind fun ns => if ns = [] then none else some (.int (minI ns))
  | _ => none
noncomputable def bMax : D → Option D
  | .list l => (ints? l).bind fun ns => if ns = [] then none else some (.int (maxI ns))
  | _ => none
noncomputable def bAbs : D → Option D
  | .int i => some (.int (if i < 0 then -i else i))
  | _ => none
noncomputable def bInt : D → Option D
  | .bool b => some (.int (if b then 1 else 0))
  | _ => none
/-- the ints that a range runs through -/
noncomputable def rngI (a b c : Int) : List Int := (List.range (Builtin.Range.rangeSize a b c).toNat).map fun i : Nat => a + (i : Int) * c
noncomputable def near (a : Int) : Prop := -1048576 ≤ a ∧ a ≤ 1048576
theorem near_iff (a : Int) : a.natAbs ≤ 1048576 ↔ near a := by unfold near; (first | lia | omega)
noncomputable instance (a : Int) : Decidable (near a) := decidable_of_iff _ (near_iff a)
noncomputable def bList : D → Option D
  | .list l => if l.length ≤ 1048576 then some (.list l) else none
  | .rng a b c => if near a ∧ near b ∧ c = 1 then some (.list (di (rngI a b c))) else none
  | _ => none
noncomputable def bRng1 : D → Option D
  | .int b => some (.rng 0 b 1)
  | _ => none
noncomputable def bRng2 : D → D → Option D
  | .int a, .int b => some (.rng a b 1)
  | _, _ => none
noncomputable def bRng3 : D → D → D → Option D
  | .int a, .int b, .int c => if c = -1 ∨ c = 2 then some (.rng a b c) else none
  | _, _, _ => none
noncomputable def bMax2 : D → D → Option D
  | .int a, .int b => some (.int (if b > a then b else a))
  | _, _ => none
noncomputable def bSort : D → Option D
  | .list l => if l.length < 64 then (ints? l).map fun ns => .list (di (isort ns)) else none
  | _ => none

section
variable {prog : Program} {w : World} {A : Around} {s : Shared} {P : Addr → Prop} {v : Value} {d r : D}

theorem RepL.toInts {h : Heap} {vs : List Value} {l : List D} {ns : List Int} (x : RepL h P vs l) (e : ints? l = some ns) : IntsAre vs ns := by
  rw [ints?_di e] at x; exact x.intsAre
theorem rep_ints {h : Heap} {vs : List Value} {ns : List Int} (x : IntsAre vs ns) : RepL h P vs (di ns) := by
  induction x with
  | nil => exact .nil
  | cons n t _ ih => exact .cons (.int n t) ih

theorem b_len (rv : RepB s.heap P v d) (h : bLen d = some r) : Giv prog w A (call (.builtin "len") [v]) s P r := by
  cases rv with
  | list e l =>
    simp only [bLen] at h
    split at h
    · rename_i hz
      cases h
      intro Q E k
      refine PyProof.Rows.len_list (lst_isList e) (by simp; rw [l.length]; (first | lia | omega)) ?_
      have := k (.int _ (s.toks + 1)) s.heap (s.toks + 1 + 1) (Kp.refl _) (.int _ _)
      simpa [l.length] using this
    · cases h
  | _ => cases h
theorem b_sum (hh : A.handled = none) (rv : RepB s.heap P v d) (h : bSum d = some r) : Giv prog w A (call (.builtin "sum") [v]) s P r := by
  cases rv with
  | list e l =>
    simp only [bSum, Option.map_eq_some_iff] at h
    obtain ⟨ns, h1, rfl⟩ := h
    have hi := l.toInts h1
    intro Q E k
    obtain ⟨xs, ex⟩ := hi.allInts.items
    have hns : ns = xs.toList.map (·.1) := by rw [← hi.numsOf, ← nums_intItems, ← ex]
    have hl := lst_isList e
    rw [ex] at hl
    refine sum_intListG hh hl fun h' tk t' hk => ?_
    have e2 : preSum (numAt xs) xs.size = ns.sum := by
      rw [preSum_eq, hns, List.take_of_length_le (by simp)]
    rw [e2]
    exact k _ _ _ hk (.int _ _)
  | _ => cases h

theorem mem_of_getD {l : List Int} {j : Nat} (h : j < l.length) : l.getD j 0 ∈ l := by
  rw [List.getD_eq_getElem?_getD, List.getElem?_eq_getElem h]; exact List.getElem_mem h
theorem getD_of_mem {l : List Int} {a : Int} (h : a ∈ l) : ∃ j, j < l.length ∧ l.getD j 0 = a := by
  obtain ⟨j, hj, rfl⟩ := List.getElem_of_mem h
  exact ⟨j, hj, by rw [List.getD_eq_getElem?_getD, List.getElem?_eq_getElem hj]; rfl⟩

theorem b_min (hh : A.handled = none) (rv : RepB s.heap P v d) (h : bMin d = some r) : Giv prog w A (call (.builtin "min") [v]) s P r := by
  cases rv with
  | list e l =>
    simp only [bMin, Option.bind_eq_some_iff] at h
    obtain ⟨ns, h1, h2⟩ := h
    split at h2
    · cases h2
    · rename_i hne
      cases h2
      have hi := l.toInts h1
      intro Q E k
      obtain ⟨xs, ex⟩ := hi.allInts.items
      have hns : ns = xs.toList.map (·.1) := by rw [← hi.numsOf, ← nums_intItems, ← ex]
      have hl := lst_isList e
      rw [ex] at hl
      have hsz : 0 < xs.size := by
        have h3 : 0 < ns.length := List.length_pos_iff.mpr hne
        rw [hns, List.length_map, Array.length_toList] at h3; exact h3
      refine min_intList hh hl hsz fun v h' tk hv hk => ?_
      obtain ⟨t, rfl⟩ := intItems_at hv
      obtain ⟨q1, q2⟩ := argBest_lt (numAt xs) (xs.size - 1)
      have e2 : numAt xs (argBest (fun i j => decide (numAt xs i < numAt xs j)) (xs.size - 1)) = minI ns := by
        obtain ⟨m1, m2⟩ := minI_spec hne
        refine Int.le_antisymm ?_ (m2 _ ?_)
        · obtain ⟨j, hj, ej⟩ := getD_of_mem m1
          rw [← ej, hns, ← numAt_eq]
          rw [hns, List.length_map, Array.length_toList] at hj
          exact q2 j (by (first | lia | omega))
        · rw [hns, numAt_eq]; exact mem_of_getD (by rw [List.length_map, Array.length_toList]; (first | lia | omega))
      rw [e2]
      exact k _ _ _ hk (.int _ _)
  | _ => cases h
theorem b_max (hh : A.handled = none) (rv : RepB s.heap P v d) (h : bMax d = some r) : Giv prog w A (call (.builtin "max") [v]) s P r := by
  cases rv with
  | list e l =>
    simp only [bMax, Option.bind_eq_some_iff] at h
    obtain ⟨ns, h1, h2⟩ := h
    split at h2
    · cases h2
    · rename_i hne
      cases h2
      have hi := l.toInts h1
      intro Q E k
      obtain ⟨xs, ex⟩ := hi.allInts.items
      have hns : ns = xs.toList.map (·.1) := by rw [← hi.numsOf, ← nums_intItems, ← ex]
      have hl := lst_isList e
      rw [ex] at hl
      have hsz : 0 < xs.size := by
        have h3 : 0 < ns.length := List.length_pos_iff.mpr hne
        rw [hns, List.length_map, Array.length_toList] at h3; exact h3
      refine max_intList hh hl hsz fun v h' tk hv hk => ?_
      obtain ⟨t, rfl⟩ := intItems_at hv
      obtain ⟨q1, q2⟩ := argBest_gt (numAt xs) (xs.size - 1)
      have e2 : numAt xs (argBest (fun i j => decide (numAt xs i > numAt xs j)) (xs.size - 1)) = maxI ns := by
        obtain ⟨m1, m2⟩ := maxI_spec hne
        refine Int.le_antisymm (m2 _ ?_) ?_
        · rw [hns, numAt_eq]; exact mem_of_getD (by rw [List.length_map, Array.length_toList]; (first | lia | omega))
        · obtain ⟨j, hj, ej⟩ := getD_of_mem m1
          rw [← ej, hns, ← numAt_eq]
          rw [hns, List.length_map, Array.length_toList] at hj
          exact q2 j (by (first | lia | omega))
      rw [e2]
      exact k _ _ _ hk (.int _ _)
  | _ => cases h
theorem b_abs (rv : RepB s.heap P v d) (h : bAbs d = some r) : Giv prog w A (call (.builtin "abs") [v]) s P r := by
  cases rv with
  | int i t => cases h; exact fun Q E k => call_abs_int fun u tk => k _ s.heap tk (Kp.refl _) (.int _ _)
  | _ => cases h
theorem b_int (rv : RepB s.heap P v d) (h : bInt d = some r) : Giv prog w A (call (.type "int") [v]) s P r := by
  cases rv with
  | bool b => cases h; exact giv_int fun Q E q => call_int_bool q
  | _ => cases h
theorem b_rng1 (rv : RepB s.heap P v d) (h : bRng1 d = some r) : Giv prog w A (call (.type "range") [v]) s P r := by
  cases rv with
  | int b t =>
    cases h
    intro Q E k
    refine call_range_1 (k _ _ _ (Kp.push _ _) (.rng (.inr ?_) (IsRange.new ..)))
    cases q : s.heap.get? s.heap.objs.size with
    | none => rfl
    | some o => exact absurd (Heap.lt_size q) (Nat.lt_irrefl _)
  | _ => cases h
theorem no_size (h : Heap) : h.get? h.objs.size = none := by
  cases q : h.get? h.objs.size with
  | none => rfl
  | some o => exact absurd (Heap.lt_size q) (Nat.lt_irrefl _)
theorem b_rng2 {va vb : Value} {a b : D} (ra : Rep s.heap P va a) (rb : Rep s.heap P vb b) (h : bRng2 a b = some r) : Giv prog w A (call (.type "range") [va, vb]) s P r :=
  g_ii (F := fun x y => some (.rng x y 1)) (op := fun x y => call (.type "range") [x, y]) (fun x y t u h => by
    cases h
    intro Q E k
    exact call_range_2 (k _ _ _ (Kp.push _ _) (.rng (.inr (no_size _)) (IsRange.new ..)))) ra rb h
theorem bRng3_inv {a b c : D} (h : bRng3 a b c = some r) : ∃ x y z, a = .int x ∧ b = .int y ∧ c = .int z ∧ (z = -1 ∨ z = 2) ∧ r = .rng x y z := by
  unfold bRng3 at h
  split at h
  · obtain ⟨c, e⟩ := some_if h; exact ⟨_, _, _, rfl, rfl, rfl, c, e⟩
  · cases h
theorem b_rng3 {va vb vc : Value} {a b c : D} (ra : Rep s.heap P va a) (rb : Rep s.heap P vb b) (rc : Rep s.heap P vc c) (h : bRng3 a b c = some r) : Giv prog w A (call (.type "range") [va, vb, vc]) s P r := by
  obtain ⟨x, y, z, rfl, rfl, rfl, hc, rfl⟩ := bRng3_inv h
  obtain ⟨t, rfl⟩ := ra.int_inv
  obtain ⟨u, rfl⟩ := rb.int_inv
  obtain ⟨q, rfl⟩ := rc.int_inv
  intro Q E k
  refine call_range_3 (by (first | lia | omega)) (k _ _ _ (Kp.push _ _) (.rng (.inr (no_size _)) (IsRange.new ..))) (.inl (PyProof.noPylong_small (by (first | lia | omega))))
theorem b_max2 (hh : A.handled = none) {va vb : Value} {a b : D} (ra : Rep s.heap P va a) (rb : Rep s.heap P vb b) (h : bMax2 a b = some r) : Giv prog w A (call (.builtin "max") [va, vb]) s P r :=
  g_ii (F := fun x y => some (.int (if y > x then y else x))) (op := fun x y => call (.builtin "max") [x, y]) (fun x y t u h => by
    cases h
    intro Q E k
    refine max_two_ints hh fun h' tk hk => ?_
    by_cases c : y > x
    · rw [if_pos c] at k ⊢; exact k _ _ _ hk (.int _ _)
    · rw [if_neg c] at k ⊢; exact k _ _ _ hk (.int _ _)) ra rb h

theorem intsAre_get {vs : List Value} {ns : List Int} (hl : vs.length = ns.length) (h : ∀ j v, vs[j]? = some v → ∃ t, v = Value.int (ns.getD j 0) t) : IntsAre vs ns := by
  induction vs generalizing ns with
  | nil => cases ns with
    | nil => exact .nil
    | cons _ _ => simp at hl
  | cons v vs ih => cases ns with
    | nil => simp at hl
    | cons n ns =>
      obtain ⟨t, e⟩ := h 0 v rfl
      have e' : v = .int n t := e
      subst e'
      exact .cons n t (ih (by simpa using hl) fun j w hw => by simpa using h (j + 1) w (by simpa using hw))
theorem items_repL {h : Heap} {a : Int} {n : Nat} {acc : Array Value} (x : ItemsOf (fun i v => ∃ t, v = Value.int (a + i * 1) t) acc n) : RepL h P acc.toList (di ((List.range n).map fun i : Nat => a + (i : Int) * 1)) := by
  refine rep_ints (intsAre_get (by simpa using x.1) fun j v hv => ?_)
  have hj : j < n := by
    have := (List.getElem?_eq_some_iff.mp hv).1
    rw [Array.length_toList, x.1] at this; exact this
  obtain ⟨t, rfl⟩ := x.2 j v (by simpa using hv)
  exact ⟨t, by simp [List.getD_eq_getElem?_getD, hj]⟩
theorem b_list (hh : A.handled = none) (rv : RepB s.heap P v d) (h : bList d = some r) : Giv prog w A (call (.type "list") [v]) s P r := by
  cases rv with
  | list e l =>
    simp only [bList] at h
    split at h
    · rename_i hz
      cases h
      intro Q E k
      rw [← l.length] at hz
      refine call_list_seq _ (T := "list") (.inl rfl) e rfl rfl (fun h' c' hk ho => ?_) (by simp [sizeLine_eq]; (first | assumption | exact Nat.le_trans (by assumption) (by decide) | exact Int.le_trans (by assumption) (by decide) | exact Nat.lt_of_lt_of_le (by assumption) (by assumption) | exact Nat.le_trans (by assumption) (by assumption) | exact Nat.lt_of_lt_of_le (by assumption) (by decide)))
      exact k _ _ s.toks hk (.list (n := c') (.inr (no_size _)) ho (l.mono fun b o p e => ⟨.inl p, hk b o e⟩))
    · cases h
  | rng e =>
    rename_i a b c t u v'
    simp only [bList] at h
    split at h
    · rename_i hc
      cases h
      obtain ⟨ha, hb, rfl⟩ := hc
      unfold near at ha hb
      intro Q E k
      have hsz := rangeSize_one a b
      have h0 : 0 ≤ Builtin.Range.rangeSize a b 1 := by rw [hsz]; split <;> (first | lia | omega)
      refine call_list_range (n := (Builtin.Range.rangeSize a b 1).toNat) hh e (small_one (by (first | lia | omega)) (by (first | lia | omega)) (by (first | lia | omega)) (by (first | lia | omega))) (by (first | lia | omega)) (by rw [hsz]; split <;> (first | lia | omega)) fun h' tk acc' c' hk ho hi => ?_
      refine k _ _ _ hk (.list (vs := acc'.toList) (n := c') (.inr (no_size _)) (by simpa using ho) (items_repL hi))
    · cases h
  | _ => cases h
theorem b_sort (rv : RepB s.heap P v d) (h : bSort d = some r) : Giv prog w A (call (.builtin "sorted") [v]) s P r := by
  cases rv with
  | list e l =>
    simp only [bSort] at h
    split at h
    · rename_i hz
      simp only [Option.map_eq_some_iff] at h
      obtain ⟨ns, h1, rfl⟩ := h
      have hi := l.toInts h1
      intro Q E k
      refine sorted_ints (lst_isList e) hi (by rw [l.length]; exact hz) fun out ns' a1 a2 a3 => ?_
      rename_i a vs n ds
      obtain ⟨c, hc⟩ := sortedAll_at s.heap vs out
      rw [isort_eq a2 a3] at a1
      refine k _ _ s.toks (fun b o q => sortedAll_old q) (.list (vs := out.toList) (n := c) (.inr ?_) (by simpa using hc) (rep_ints a1))
      cases q : s.heap.get? (s.heap.objs.size + 1) with
      | none => rfl
      | some o => exact absurd (Heap.lt_size q) (Nat.not_lt.mpr (Nat.le_succ _))
    · cases h
  | _ => cases h
end
end Mine
end

section
open PySem PySem.W PyProof.Rows PySem.Calls
set_option autoImplicit false
namespace Mine

/-! ### what a sort's tree of questions comes to -/
noncomputable def runN {α : Type} (n : Nat) (lt : Nat → Nat → Bool) : KasT α → Option α
  | .ret a => some a
  | .ask i j k => if i < n ∧ j < n then runN n lt (k (lt i j)) else none
noncomputable def Sat {α : Type} (n : Nat) (lt : Nat → Nat → Bool) (t : KasT α) (P : α → Prop) : Prop := ∃ a, runN n lt t = some a ∧ P a

section
variable {α β : Type} {n : Nat} {lt : Nat → Nat → Bool}
theorem Sat.ret {a : α} {P : α → Prop} (h : P a) : Sat n lt (.ret a) P := ⟨a, rfl, h⟩
theorem Sat.ask {i j : Nat} {k : Bool → KasT α} {P : α → Prop} (hi : i < n) (hj : j < n) (h : Sat n lt (k (lt i j)) P) : Sat n lt (.ask i j k) P := by
  obtain ⟨a, h1, h2⟩ := h
  exact ⟨a, by unfold runN; rw [if_pos ⟨hi, hj⟩]; exact h1, h2⟩
theorem runN_bind {f : α → KasT β} : ∀ (t : KasT α), runN n lt (t.bind f) = (runN n lt t).bind fun a => runN n lt (f a)
  | .ret a => rfl
  | .ask i j k => by
    show (if i < n ∧ j < n then runN n lt ((k (lt i j)).bind f) else none) = (if i < n ∧ j < n then runN n lt (k (lt i j)) else none).bind fun a => runN n lt (f a)
    split
    · exact runN_bind (k (lt i j))
    · rfl
theorem Sat.bind {t : KasT α} {f : α → KasT β} {P : α → Prop} {Q : β → Prop} (h : Sat n lt t P) (hf : ∀ a, P a → Sat n lt (f a) Q) : Sat n lt (t.bind f) Q := by
  obtain ⟨a, h1, h2⟩ := h
  obtain ⟨b, h3, h4⟩ := hf a h2
  exact ⟨b, by rw [runN_bind, h1]; exact h3, h4⟩
theorem Sat.wp {cmp : Nat → Nat → (Bool → Shared → Prop) → Shared → Prop} {s : Shared} (hc : ∀ i j C, i < n → j < n → C (lt i j) s → cmp i j C s) {G : α → Shared → Prop} : ∀ (t : KasT α) (a : α), runN n lt t = some a → G a s → t.kasWp cmp G s
  | .ret a, b, h, g => by cases h; exact g
  | .ask i j k, b, h, g => by
    unfold runN at h
    split at h
    · rename_i hij
      exact hc i j _ hij.1 hij.2 (Sat.wp hc (k (lt i j)) b h g)
    · cases h
end

section
variable {n : Nat} {f : Nat → Int}
noncomputable def ltF (f : Nat → Int) (i j : Nat) : Bool := decide (f i < f j)
noncomputable def kOf (f : Nat → Int) (p : Array Nat) (i : Nat) : Int := f (p.getD i 0)
structure PO (n : Nat) (p : Array Nat) : Prop where
  size : p.size = n
  perm : p.toList.Perm (List.range n)
theorem PO.lt {p : Array Nat} (h : PO n p) (hn : 0 < n) (i : Nat) : p.getD i 0 < n := by
  by_cases hi : i < p.size
  · have : p.getD i 0 ∈ p.toList := by simp [Array.getD, hi]
    exact List.mem_range.mp (h.perm.mem_iff.mp this)
  · simpa [Array.getD, hi] using hn
theorem PO.inj {p : Array Nat} (h : PO n p) {i j : Nat} (hi : i < n) (hj : j < n) (e : p.getD i 0 = p.getD j 0) : i = j := by
  have hs := h.size
  have nd : p.toList.Nodup := h.perm.nodup_iff.mpr List.nodup_range
  have e1 : p.getD i 0 = p.toList[i]'(by simp; (first | lia | omega)) := by simp [Array.getD, hs, hi]
  have e2 : p.getD j 0 = p.toList[j]'(by simp; (first | lia | omega)) := by simp [Array.getD, hs, hj]
  rw [e1, e2] at e
  have q := List.pairwise_iff_getElem.mp nd
  rcases Nat.lt_trichotomy i j with c | c | c
  · exact absurd e (q i j _ _ c)
  · exact c
  · exact absurd e.symm (q j i _ _ c)
noncomputable def Srt (f : Nat → Int) (p : Array Nat) (k : Nat) : Prop := ∀ i j, i ≤ j → j < k → kOf f p i ≤ kOf f p j
noncomputable def Dec (f : Nat → Int) (p : Array Nat) (k : Nat) : Prop := ∀ i j, i < j → j < k → kOf f p j < kOf f p i
noncomputable def Inj (f : Nat → Int) (n : Nat) : Prop := ∀ i j, i < n → j < n → f i = f j → i = j
theorem kOf_inj (hf : Inj f n) {p : Array Nat} (h : PO n p) {i j : Nat} (hi : i < n) (hj : j < n) (e : kOf f p i = kOf f p j) : i = j :=
  h.inj hi hj (hf _ _ (h.lt (by (first | lia | omega)) i) (h.lt (by (first | lia | omega)) j) e)

theorem asc_sat {p : Array Nat} (hp : PO n p) (hn : 0 < n) : ∀ (g a : Nat), 1 ≤ a → a + g = n → Srt f p a →
    Sat n (ltF f) (kas_asc p g a) fun m => a ≤ m ∧ m ≤ n ∧ Srt f p m ∧ (m = n ∨ kOf f p m < kOf f p (m - 1))
  | 0, a, h1, h2, h3 => .ret ⟨Nat.le_refl _, by (first | lia | omega), h3, .inl (by (first | assumption | exact Nat.le_trans (by assumption) (by decide) | exact Int.le_trans (by assumption) (by decide) | exact Nat.lt_of_lt_of_le (by assumption) (by assumption) | exact Nat.le_trans (by assumption) (by assumption) | exact Nat.lt_of_lt_of_le (by assumption) (by decide)))⟩
  | g + 1, a, h1, h2, h3 => by
    unfold kas_asc
    refine .ask (hp.lt hn _) (hp.lt hn _) ?_
    by_cases hc : kOf f p a < kOf f p (a - 1)
    · have : ltF f (p.getD a 0) (p.getD (a - 1) 0) = true := by simpa [ltF, kOf] using hc
      rw [this, if_pos rfl]
      exact .ret ⟨Nat.le_refl _, by (first | lia | omega), h3, .inr hc⟩
    · have : ltF f (p.getD a 0) (p.getD (a - 1) 0) = false := by simpa [ltF, kOf] using hc
      rw [this]
      simp only [Bool.false_eq_true, if_false]
      obtain ⟨m, e, e1, e2, e3, e4⟩ := asc_sat hp hn g (a + 1) (by (first | lia | omega)) (by (first | lia | omega)) (fun i j hij hj => by
        by_cases hja : j < a
        · exact h3 i j hij hja
        · have hj' : j = a := by (first | lia | omega)
          subst hj'
          by_cases hi : i = j
          · subst hi; exact Int.le_refl _
          · exact Int.le_trans (h3 i (j - 1) (by (first | lia | omega)) (by (first | lia | omega))) (Int.not_lt.mp hc))
      exact ⟨m, e, by (first | lia | omega), e2, e3, e4⟩

theorem desc_sat (hf : Inj f n) {p : Array Nat} (hp : PO n p) : ∀ (g a : Nat), 2 ≤ a → a + g = n → Dec f p a →
    Sat n (ltF f) (kas_desc g p a 0) fun r => r.1 = p ∧ r.2.2 = 0 ∧ 2 ≤ r.2.1 ∧ r.2.1 ≤ n ∧ Dec f p r.2.1
  | 0, a, h1, h2, h3 => .ret ⟨rfl, rfl, h1, by show a ≤ n; (first | lia | omega), h3⟩
  | g + 1, a, h1, h2, h3 => by
    have hn : 0 < n := by (first | lia | omega)
    unfold kas_desc
    refine .ask (hp.lt hn _) (hp.lt hn _) ?_
    by_cases hc : kOf f p a < kOf f p (a - 1)
    · have : ltF f (p.getD a 0) (p.getD (a - 1) 0) = true := by simpa [ltF, kOf] using hc
      rw [this, if_pos rfl, if_neg (by (first | lia | omega))]
      obtain ⟨r, e, e1, e2, e3, e4, e5⟩ := desc_sat hf hp g (a + 1) (by (first | lia | omega)) (by (first | lia | omega)) (fun i j hij hj => by
        by_cases hja : j < a
        · exact h3 i j hij hja
        · have hj' : j = a := by (first | lia | omega)
          subst hj'
          by_cases hi : i = j - 1
          · subst hi; exact hc
          · exact Int.lt_trans hc (h3 i (j - 1) (by (first | lia | omega)) (by (first | lia | omega))))
      exact ⟨r, e, e1, e2, e3, e4, e5⟩
    · have : ltF f (p.getD a 0) (p.getD (a - 1) 0) = false := by simpa [ltF, kOf] using hc
      rw [this]
      simp only [Bool.false_eq_true, if_false]
      refine .ask (hp.lt hn _) (hp.lt hn _) ?_
      have hne : kOf f p (a - 1) ≠ kOf f p a := fun e => by have := kOf_inj hf hp (by (first | lia | omega)) (by (first | lia | omega)) e; (first | lia | omega)
      have : ltF f (p.getD (a - 1) 0) (p.getD a 0) = true := by
        have : kOf f p (a - 1) < kOf f p a := by (first | lia | omega)
        simpa [ltF, kOf] using this
      rw [this, if_pos rfl]
      exact .ret ⟨rfl, rfl, h1, by show a ≤ n; (first | lia | omega), h3⟩

theorem getD_of {p q : Array Nat} {i j : Nat} (h : p[i]? = q[j]?) : p.getD i 0 = q.getD j 0 := by
  rw [Array.getD_eq_getD_getElem?, Array.getD_eq_getD_getElem?, h]
theorem kOf_rev {p : Array Nat} {m : Nat} (hm : m ≤ p.size) (i : Nat) : kOf f (kas_rev p 0 m) i = if i < m then kOf f p (m - 1 - i) else kOf f p i := by
  have e := getElem?_mirror_all (xs := p) (i := 0) hm i
  unfold kOf kas_rev
  by_cases hi : i < m
  · rw [if_pos ⟨Nat.zero_le _, hi⟩] at e
    rw [if_pos hi, getD_of e, Nat.zero_add]
  · rw [if_neg (fun h => hi h.2)] at e
    rw [if_neg hi, getD_of e]
theorem PO.rev {p : Array Nat} (h : PO n p) (i j : Nat) : PO n (kas_rev p i j) := ⟨by rw [kas_rev_size]; exact h.size, (Array.perm_iff_toList_perm.mp (mirror_perm _ _ _ _)).trans h.perm⟩

theorem tail_sat {p : Array Nat} (hp : PO n p) {m : Nat} (h2 : 2 ≤ m) (hm : m ≤ n) (hd : Dec f p m) : Sat n (ltF f) (kas_tail3 m n p) fun r => 1 ≤ r.1 ∧ r.1 ≤ n ∧ PO n r.2 ∧ Srt f r.2 r.1 := by
  unfold kas_tail3
  have hs : m ≤ p.size := by rw [hp.size]; exact hm
  refine (asc_sat (f := f) (hp.rev 0 m) (by (first | lia | omega)) (n - m) m (by (first | lia | omega)) (by (first | lia | omega)) fun i j hij hj => ?_).bind fun k hk => .ret ⟨by show 1 ≤ k; (first | lia | omega), hk.2.1, hp.rev 0 m, hk.2.2.1⟩
  rw [kOf_rev hs, kOf_rev hs, if_pos (by (first | lia | omega)), if_pos hj]
  by_cases hi : i = j
  · subst hi; exact Int.le_refl _
  · exact Int.le_of_lt (hd _ _ (by (first | lia | omega)) (by (first | lia | omega)))

theorem count_sat (hf : Inj f n) (hn : 0 < n) {p : Array Nat} (hp : PO n p) : Sat n (ltF f) (kas_count n p) fun r => 1 ≤ r.1 ∧ r.1 ≤ n ∧ PO n r.2 ∧ Srt f r.2 r.1 := by
  unfold kas_count
  refine (asc_sat (f := f) hp hn (n - 1) 1 (Nat.le_refl _) (by (first | lia | omega)) fun i j hij hj => by
    have : i = j := by (first | lia | omega)
    subst this; exact Int.le_refl _).bind fun k hk => ?_
  obtain ⟨h1, h2, h3, h4⟩ := hk
  by_cases hkn : k = n
  · subst hkn
    rw [if_pos (by simp)]
    exact .ret ⟨h1, Nat.le_refl _, hp, h3⟩
  · rw [if_neg (by simpa using hkn)]
    have h4 := h4.resolve_left hkn
    by_cases hk1 : k > 1
    · rw [if_pos hk1]
      refine .ask (hp.lt hn _) (hp.lt hn _) ?_
      have hlt : kOf f p 0 < kOf f p (k - 1) := by
        have hle := h3 0 (k - 1) (Nat.zero_le _) (by (first | lia | omega))
        have hne : kOf f p 0 ≠ kOf f p (k - 1) := fun e => by have := kOf_inj hf hp (by (first | assumption | exact Nat.le_trans (by assumption) (by decide) | exact Int.le_trans (by assumption) (by decide) | exact Nat.lt_of_lt_of_le (by assumption) (by assumption) | exact Nat.le_trans (by assumption) (by assumption) | exact Nat.lt_of_lt_of_le (by assumption) (by decide))) (by (first | lia | omega)) e; (first | lia | omega)
        (first | lia | omega)
      have : ltF f (p.getD 0 0) (p.getD (k - 1) 0) = true := by simpa [ltF, kOf] using hlt
      rw [this, if_pos rfl]
      exact .ret ⟨h1, h2, hp, h3⟩
    · rw [if_neg hk1]
      have hk1 : k = 1 := by (first | lia | omega)
      subst hk1
      unfold kas_descPart
      refine (desc_sat hf hp (n - (1 + 1)) (1 + 1) (by (first | lia | omega)) (by (first | lia | omega)) fun i j hij hj => ?_).bind fun r hr => ?_
      · have hi : i = 0 := by (first | lia | omega)
        have hj : j = 1 := by (first | lia | omega)
        subst hi; subst hj; exact h4
      · obtain ⟨e1, e2, e3, e4, e5⟩ := hr
        rw [if_neg (by (first | lia | omega)), e1]
        exact tail_sat hp e3 e4 e5

theorem place_sat {p : Array Nat} (hp : PO n p) (hn : 0 < n) (k : Nat) (hs : Srt f p k) : ∀ (g l r : Nat), l ≤ r → r ≤ k → r ≤ l + g → (∀ i, i < l → kOf f p i ≤ kOf f p k) → (∀ i, r ≤ i → i < k → kOf f p k < kOf f p i) →
    Sat n (ltF f) (kas_place p k g l r) fun m => m ≤ k ∧ (∀ i, i < m → kOf f p i ≤ kOf f p k) ∧ ∀ i, m ≤ i → i < k → kOf f p k < kOf f p i
  | 0, l, r, h1, h2, h3, h4, h5 => .ret ⟨by (first | assumption | exact Nat.le_trans (by assumption) (by decide) | exact Int.le_trans (by assumption) (by decide) | exact Nat.lt_of_lt_of_le (by assumption) (by assumption) | exact Nat.le_trans (by assumption) (by assumption) | exact Nat.lt_of_lt_of_le (by assumption) (by decide)), h4, fun i hi hk => h5 i (by (first | assumption | exact Nat.le_trans (by assumption) (by decide) | exact Int.le_trans (by assumption) (by decide) | exact Nat.lt_of_lt_of_le (by assumption) (by assumption) | exact Nat.le_trans (by assumption) (by assumption) | exact Nat.lt_of_lt_of_le (by assumption) (by decide))) hk⟩
  | g + 1, l, r, h1, h2, h3, h4, h5 => by
    unfold kas_place
    by_cases hlr : l ≥ r
    · rw [if_pos hlr]
      exact .ret ⟨by (first | assumption | exact Nat.le_trans (by assumption) (by decide) | exact Int.le_trans (by assumption) (by decide) | exact Nat.lt_of_lt_of_le (by assumption) (by assumption) | exact Nat.le_trans (by assumption) (by assumption) | exact Nat.lt_of_lt_of_le (by assumption) (by decide)), h4, fun i hi hk => h5 i (by (first | assumption | exact Nat.le_trans (by assumption) (by decide) | exact Int.le_trans (by assumption) (by decide) | exact Nat.lt_of_lt_of_le (by assumption) (by assumption) | exact Nat.le_trans (by assumption) (by assumption) | exact Nat.lt_of_lt_of_le (by assumption) (by decide))) hk⟩
    · rw [if_neg hlr]
      refine .ask (hp.lt hn _) (hp.lt hn _) ?_
      have hm : (l + r) / 2 < r := by (first | lia | omega)
      have hm' : l ≤ (l + r) / 2 := by (first | lia | omega)
      by_cases hc : kOf f p k < kOf f p ((l + r) / 2)
      · have : ltF f (p.getD k 0) (p.getD ((l + r) / 2) 0) = true := by simpa [ltF, kOf] using hc
        rw [this, if_pos rfl]
        exact place_sat hp hn k hs g l ((l + r) / 2) hm' (by (first | lia | omega)) (by (first | lia | omega)) h4 fun i hi hk => Int.lt_of_lt_of_le hc (hs _ _ hi hk)
      · have : ltF f (p.getD k 0) (p.getD ((l + r) / 2) 0) = false := by simpa [ltF, kOf] using hc
        rw [this]
        simp only [Bool.false_eq_true, if_false]
        exact place_sat hp hn k hs g ((l + r) / 2 + 1) r (by (first | assumption | exact Nat.le_trans (by assumption) (by decide) | exact Int.le_trans (by assumption) (by decide) | exact Nat.lt_of_lt_of_le (by assumption) (by assumption) | exact Nat.le_trans (by assumption) (by assumption) | exact Nat.lt_of_lt_of_le (by assumption) (by decide))) h2 (by (first | lia | omega)) (fun i hi => Int.le_trans (hs i ((l + r) / 2) (by (first | lia | omega)) (by (first | assumption | exact Nat.le_trans (by assumption) (by decide) | exact Int.le_trans (by assumption) (by decide) | exact Nat.lt_of_lt_of_le (by assumption) (by assumption) | exact Nat.le_trans (by assumption) (by assumption) | exact Nat.lt_of_lt_of_le (by assumption) (by decide)))) (Int.not_lt.mp hc)) h5

theorem kOf_bub {p : Array Nat} {k m : Nat} (hk : k < p.size) (hm : m ≤ k) (i : Nat) : kOf f (bubble p k (k - m)) i = if i = m then kOf f p k else if m < i ∧ i ≤ k then kOf f p (i - 1) else kOf f p i := by
  have e := getElem?_bubble (xs := p) hk (k - m) (by (first | lia | omega)) i
  have hkm : k - (k - m) = m := by (first | lia | omega)
  rw [hkm] at e
  unfold kOf
  by_cases h1 : i = m
  · rw [if_pos h1] at e ⊢; rw [getD_of e]
  · rw [if_neg h1] at e ⊢
    by_cases h2 : m < i ∧ i ≤ k
    · rw [if_pos h2] at e ⊢; rw [getD_of e]
    · rw [if_neg h2] at e ⊢; rw [getD_of e]
theorem PO.bub {p : Array Nat} (h : PO n p) (k d : Nat) : PO n (bubble p k d) := ⟨by rw [bubble_size]; exact h.size, (Array.perm_iff_toList_perm.mp (bubble_perm _ _ _)).trans h.perm⟩

theorem bin_sat (hn : 0 < n) : ∀ (g : Nat) (p : Array Nat) (k : Nat), PO n p → k + g = n → Srt f p k → Sat n (ltF f) (kas_bin g p k) fun p' => PO n p' ∧ Srt f p' n
  | 0, p, k, hp, h1, h2 => .ret ⟨hp, by have : k = n := by (first | assumption | exact Nat.le_trans (by assumption) (by decide) | exact Int.le_trans (by assumption) (by decide) | exact Nat.lt_of_lt_of_le (by assumption) (by assumption) | exact Nat.le_trans (by assumption) (by assumption) | exact Nat.lt_of_lt_of_le (by assumption) (by decide))
                                        rw [← this]; exact h2⟩
  | g + 1, p, k, hp, h1, h2 => by
    unfold kas_bin
    refine (place_sat hp hn k h2 k 0 k (Nat.zero_le _) (Nat.le_refl _) (by (first | lia | omega)) (fun i hi => by (first | lia | omega)) (fun i hi hk => by (first | lia | omega))).bind fun m hm => ?_
    obtain ⟨m1, m2, m3⟩ := hm
    have hk : k < p.size := by rw [hp.size]; (first | lia | omega)
    refine bin_sat hn g _ (k + 1) (hp.bub k _) (by (first | lia | omega)) fun i j hij hj => ?_
    rw [kOf_bub hk m1, kOf_bub hk m1]
    by_cases hi : i = m
    · rw [if_pos hi]
      by_cases hj' : j = m
      · rw [if_pos hj']; exact Int.le_refl _
      · rw [if_neg hj', if_pos (by (first | lia | omega))]
        exact Int.le_of_lt (m3 _ (by (first | lia | omega)) (by (first | lia | omega)))
    · rw [if_neg hi]
      by_cases hi2 : m < i ∧ i ≤ k
      · rw [if_pos hi2, if_neg (by (first | lia | omega)), if_pos (by (first | lia | omega))]
        exact h2 _ _ (by (first | lia | omega)) (by (first | lia | omega))
      · rw [if_neg hi2]
        by_cases hj' : j = m
        · rw [if_pos hj']; exact m2 _ (by (first | lia | omega))
        · rw [if_neg hj']
          by_cases hj2 : m < j ∧ j ≤ k
          · rw [if_pos hj2]; exact h2 _ _ (by (first | lia | omega)) (by (first | lia | omega))
          · rw [if_neg hj2]; exact h2 _ _ hij (by (first | lia | omega))

theorem sort_sat (hf : Inj f n) (hn : 0 < n) : Sat n (ltF f) (kas_sort n) fun p => PO n p ∧ Srt f p n := by
  unfold kas_sort
  have h0 : PO n (List.toArray (List.range n)) := ⟨by simp, .refl _⟩
  refine (count_sat hf hn h0).bind fun r hr => ?_
  obtain ⟨h1, h2, h3, h4⟩ := hr
  have hm : max r.1 1 = r.1 := by (first | lia | omega)
  rw [hm]
  by_cases hlt : r.1 < n
  · rw [if_pos hlt]
    exact bin_sat hn _ _ _ h3 (by (first | lia | omega)) h4
  · rw [if_neg hlt]
    have : r.1 = n := by (first | lia | omega)
    rw [this] at h4
    exact .ret ⟨h3, h4⟩
end

/-! ### pairs, sorted -/
noncomputable def pkey (p : Int × Int) : Int := p.1 * 1048576 + p.2
noncomputable def pins (x : Int × Int) : List (Int × Int) → List (Int × Int)
  | [] => [x]
  | y :: l => if pkey x ≤ pkey y then x :: y :: l else y :: pins x l
noncomputable def psort : List (Int × Int) → List (Int × Int)
  | [] => []
  | x :: l => pins x (psort l)
theorem pins_perm (x : Int × Int) (l : List (Int × Int)) : (pins x l).Perm (x :: l) := by
  induction l with
  | nil => exact .refl _
  | cons y l ih =>
    unfold pins
    split
    · exact .refl _
    · exact (ih.cons y).trans (.swap x y l)
theorem psort_perm (l : List (Int × Int)) : (psort l).Perm l := by
  induction l with
  | nil => exact .refl _
  | cons x l ih => exact (pins_perm x _).trans (ih.cons x)
theorem pins_sorted (x : Int × Int) {l : List (Int × Int)} (h : l.Pairwise fun a b => pkey a ≤ pkey b) : (pins x l).Pairwise fun a b => pkey a ≤ pkey b := by
  induction l with
  | nil => exact List.pairwise_singleton _ _
  | cons y l ih =>
    obtain ⟨h1, h2⟩ := List.pairwise_cons.mp h
    unfold pins
    split
    · rename_i hxy
      exact List.pairwise_cons.mpr ⟨fun z hz => by
        rcases List.mem_cons.mp hz with rfl | hz
        · exact hxy
        · exact Int.le_trans hxy (h1 z hz), h⟩
    · rename_i hxy
      refine List.pairwise_cons.mpr ⟨fun z hz => ?_, ih h2⟩
      rcases List.mem_cons.mp ((pins_perm x l).mem_iff.mp hz) with rfl | hz
      · (first | lia | omega)
      · exact h1 z hz
theorem psort_sorted (l : List (Int × Int)) : (psort l).Pairwise fun a b => pkey a ≤ pkey b := by
  induction l with
  | nil => exact .nil
  | cons x l ih => exact pins_sorted x ih
noncomputable def PFits (l : List (Int × Int)) : Prop := (∀ p ∈ l, 0 ≤ p.2 ∧ p.2 < 1048576) ∧ l.Nodup
theorem pkey_inj {p q : Int × Int} (hp : 0 ≤ p.2 ∧ p.2 < 1048576) (hq : 0 ≤ q.2 ∧ q.2 < 1048576) (h : pkey p = pkey q) : p = q := by
  unfold pkey at h
  have h1 : p.1 = q.1 := by (first | lia | omega)
  have h2 : p.2 = q.2 := by (first | lia | omega)
  exact Prod.ext h1 h2
theorem psort_eq {l m : List (Int × Int)} (hf : PFits l) (hp : m.Perm l) (hs : m.Pairwise fun a b => pkey a ≤ pkey b) : m = psort l := by
  refine List.Perm.eq_of_pairwise (le := fun a b => pkey a ≤ pkey b) (fun a b ha hb h1 h2 => ?_) hs (psort_sorted l) (hp.trans (psort_perm l).symm)
  exact pkey_inj (hf.1 a (hp.mem_iff.mp ha)) (hf.1 b ((psort_perm l).mem_iff.mp hb)) (Int.le_antisymm h1 h2)

theorem pairs?_dp {l : List D} {ps : List (Int × Int)} (h : pairs? l = some ps) : l = dp ps := by
  induction l generalizing ps with
  | nil => cases h; rfl
  | cons d l ih =>
    unfold pairs? at h
    split at h
    · rename_i heq; cases heq
    · rename_i i j r heq
      cases heq
      simp only [Option.map_eq_some_iff] at h
      obtain ⟨ms, h1, rfl⟩ := h
      rw [ih h1]; rfl
    · cases h
theorem pairs?_of_dp (ps : List (Int × Int)) : pairs? (dp ps) = some ps := by
  induction ps with
  | nil => rfl
  | cons p ps ih => show (pairs? (dp ps)).map ((p.1, p.2) :: ·) = _; rw [ih]; rfl

noncomputable def pF (ps : List (Int × Int)) (i : Nat) : Int := pkey (ps.getD i (0, 0))
section
variable {prog : Program} {w : World} {A : Around} {s : Shared} {P : Addr → Prop}

theorem rep_pair {h : Heap} {v : Value} {p : Int × Int} (r : Rep h P v (.tup [.int p.1, .int p.2])) : ∃ a n t u, v = .ref a ∧ h.get? a = some (tpl [.int p.1 t, .int p.2 u] n) := by
  obtain ⟨a, vs, n, rfl, hp, ho, rl⟩ := r.tup_inv
  obtain ⟨v, u, rfl, r1, r2⟩ := rl.two_inv
  obtain ⟨t1, rfl⟩ := r1.int_inv
  obtain ⟨t2, rfl⟩ := r2.int_inv
  exact ⟨_, _, _, _, rfl, ho⟩

theorem repL_pair {h : Heap} {vs : List Value} {ps : List (Int × Int)} (r : RepL h P vs (dp ps)) {i : Nat} (hi : i < ps.length) : ∃ a n t u, vs.getD i .none = .ref a ∧ h.get? a = some (tpl [.int (ps.getD i (0, 0)).1 t, .int (ps.getD i (0, 0)).2 u] n) := by
  have hd : (dp ps)[i]? = some (.tup [.int (ps.getD i (0, 0)).1, .int (ps.getD i (0, 0)).2]) := by
    simp [dp, List.getElem?_eq_getElem hi, List.getD_eq_getElem?_getD]
  obtain ⟨v, hv, rv⟩ := r.get hd
  obtain ⟨a, n, t, u, e1, e2⟩ := rep_pair rv
  exact ⟨a, n, t, u, by rw [List.getD_eq_getElem?_getD, hv]; exact e1, e2⟩

theorem ask_pair {vs : List Value} {ps : List (Int × Int)} (hf : PFits ps) (r : RepL s.heap P vs (dp ps)) {i j : Nat} (hi : i < ps.length) (hj : j < ps.length) {C : Bool → Shared → Prop} (h : C (ltF (pF ps) i j) s) : kas_ask prog w A (tuples' true) vs i j C s := by
  unfold kas_ask
  obtain ⟨a, n, t, u, e1, e2⟩ := repL_pair r hi
  obtain ⟨b, n2, t2, u2, e3, e4⟩ := repL_pair r hj
  rw [e1, e3]
  have f1 := hf.1 _ (show ps.getD i (0, 0) ∈ ps by rw [List.getD_eq_getElem?_getD, List.getElem?_eq_getElem hi]; exact List.getElem_mem hi)
  have f2 := hf.1 _ (show ps.getD j (0, 0) ∈ ps by rw [List.getD_eq_getElem?_getD, List.getElem?_eq_getElem hj]; exact List.getElem_mem hj)
  unfold ltF pF pkey at h
  generalize ps.getD i (0, 0) = p at *
  generalize ps.getD j (0, 0) = q at *
  refine kat_lt e2 rfl e4 rfl ?_
  refine kat_cons (wpAny_eqBool_int (kat_go (fun hc => ?_) fun hc => ?_))
  · have hc : p.1 = q.1 := by simpa using hc
    refine kat_yes (kat_cons (wpAny_eqBool_int (kat_go (fun hd => ?_) fun hd => ?_)))
    · have hd : p.2 = q.2 := by simpa using hd
      refine kat_yes (kat_nil ?_)
      have e : decide (p.1 * 1048576 + p.2 < q.1 * 1048576 + q.2) = false := by simp; (first | lia | omega)
      rw [e] at h
      simpa using h
    · have hd : p.2 ≠ q.2 := by simpa using hd
      refine kat_no (kat_one _ _ (PyProof.Rows.lt_int ?_))
      have e : decide (p.1 * 1048576 + p.2 < q.1 * 1048576 + q.2) = decide (p.2 < q.2) := by
        congr 1; apply propext; constructor <;> intro _ <;> (first | lia | omega)
      rw [e] at h
      exact h
  · have hc : p.1 ≠ q.1 := by simpa using hc
    refine kat_no (oneLt_int ?_)
    have e : decide (p.1 * 1048576 + p.2 < q.1 * 1048576 + q.2) = decide (p.1 < q.1) := by
      congr 1; apply propext; constructor <;> intro _ <;> (first | lia | omega)
    rw [e] at h
    exact h

theorem katTups_of {h : Heap} {vs : List Value} {ps : List (Int × Int)} (r : RepL h P vs (dp ps)) : ∃ fs, KatTups h vs fs ∧ fs.length = ps.length ∧ ∀ v ∈ fs, ∃ i t, v = .int i t := by
  induction ps generalizing vs with
  | nil => cases r; exact ⟨[], .nil, rfl, by simp⟩
  | cons p ps ih =>
    obtain ⟨v, ws, rfl, r1, r2⟩ := r.cons_inv
    obtain ⟨fs, h1, h2, h3⟩ := ih r2
    obtain ⟨a, n, t, u, rfl, e⟩ := rep_pair r1
    exact ⟨.int p.1 t :: fs, .cons e rfl rfl rfl h1, by simp [h2], fun v hv => by
      rcases List.mem_cons.mp hv with rfl | hv
      · exact ⟨_, _, rfl⟩
      · exact h3 v hv⟩

theorem perm_map {ps : List (Int × Int)} {p : Array Nat} (hp : PO ps.length p) : (p.toList.map fun i => ps.getD i (0, 0)).Perm ps := by
  have h1 := hp.perm.map fun i => ps.getD i (0, 0)
  have h2 : (List.range ps.length).map (fun i => ps.getD i (0, 0)) = ps := by
    apply List.ext_getElem (by simp)
    intro i h1 h2
    simp [List.getD_eq_getElem?_getD, List.getElem?_eq_getElem h2]
  rw [h2] at h1
  exact h1

theorem repL_perm {h : Heap} {vs : List Value} {ps : List (Int × Int)} (r : RepL h P vs (dp ps)) : ∀ {l : List Nat}, (∀ i ∈ l, i < ps.length) → RepL h P (l.map fun i => vs.getD i .none) (dp (l.map fun i => ps.getD i (0, 0)))
  | [], _ => .nil
  | i :: l, hl => by
    have hi := hl i List.mem_cons_self
    have hd : (dp ps)[i]? = some (.tup [.int (ps.getD i (0, 0)).1, .int (ps.getD i (0, 0)).2]) := by
      simp [dp, List.getElem?_eq_getElem hi, List.getD_eq_getElem?_getD]
    obtain ⟨v, hv, rv⟩ := r.get hd
    have hv' : vs.getD i .none = v := by rw [List.getD_eq_getElem?_getD, hv]; rfl
    show RepL h P (vs.getD i .none :: _) _
    rw [hv']
    exact .cons rv (repL_perm r fun j hj => hl j (List.mem_cons_of_mem _ hj))

theorem srt_pairwise {ps : List (Int × Int)} {p : Array Nat} (hp : PO ps.length p) (hs : Srt (pF ps) p ps.length) : (p.toList.map fun i => ps.getD i (0, 0)).Pairwise fun a b => pkey a ≤ pkey b := by
  rw [List.pairwise_iff_getElem]
  intro i j hi hj hij
  simp only [List.length_map, Array.length_toList] at hi hj
  have := hs i j (Nat.le_of_lt hij) (by rw [← hp.size]; exact hj)
  unfold kOf pF at this
  simpa [Array.getD, hi, hj] using this

theorem sort_tree {a : Addr} {vs : List Value} {ps : List (Int × Int)} {n : Nat} {Q : PySem.Fin → Shared → Prop} {E : Value → Shared → Prop} (ho : s.heap.get? a = some (lst vs n)) (r : RepL s.heap P vs (dp ps)) (hPa : ∀ b, P b → b ≠ a) (hf : PFits ps) (h2 : 2 ≤ ps.length) (h64 : ps.length < 64)
    (k : ∀ out, RepL s.heap P out (dp (psort ps)) → Q (.done (.ret .none)) { s with heap := sortedHeap s.heap a vs out.toArray }) : wpAny (model prog w) A (Builtin.«list.sort» ⟨[.ref a], []⟩) Q E s := by
  have hlen : vs.length = ps.length := r.length.trans (by simp [dp])
  obtain ⟨n1, ho1⟩ : ∃ n1, (s.heap.update a (Obj.mapSeq fun _ => (#[] : Array Value))).get? a = some (seqObj "list" #[] n1) := ⟨_, get?_update_seq ho fun _ => (#[] : Array Value)⟩
  rw [list_sort_plain]
  refine wpAny_bind (listItems_at ho rfl (wpAny_bind (listUpdate_at ho rfl ?_ (by simp [sizeLine_eq]; (first | lia | omega)) (Nat.zero_le _))))
  refine wpAny_bind (seqEpoch_at ho1 rfl (wpAny_bind (wpAny_newTuple ?_ (by show vs.length ≤ _; rw [sizeLine_eq]; (first | lia | omega)))))
  refine wpAny_bind (wpAny_newList ?_ (Nat.zero_le _))
  refine wpAny_holding ?_
  have hn2 : ¬ vs.toArray.size < 2 := by simp; (first | lia | omega)
  rw [if_neg hn2, if_neg hn2]
  dsimp only
  generalize hH : ((s.heap.update a (Obj.mapSeq fun _ => (#[] : Array Value))).push (tpl vs.toArray.toList 0)).push (lst [] 0) = H
  have hkeep : ∀ b o, b ≠ a → s.heap.get? b = some o → H.get? b = some o := fun b o hb e => by
    rw [← hH]
    exact Heap.get?_push_of_some _ (Heap.get?_push_of_some _ ((Heap.get?_update_other _ _ (Ne.symm hb)).trans e))
  have ho2 : H.get? a = some (seqObj "list" #[] n1) := by
    rw [← hH]
    exact Heap.get?_push_of_some _ (Heap.get?_push_of_some _ ho1)
  have r' : RepL H P vs (dp ps) := r.mono fun b o p e => ⟨p, hkeep b o (hPa b p) e⟩
  obtain ⟨fs, t1, t2, t3⟩ := katTups_of r'
  refine wpAny_bind (kat_kind (s := { s with heap := H }) (T := .type "int") t1 (by (first | lia | omega)) (fun v hv => by
    obtain ⟨i, t, rfl⟩ := t3 v hv
    exact Looks.of_pure rfl) rfl ?_)
  have hκ : (Value.type "int" != Value.type "tuple") = true := by decide
  rw [hκ]
  have hinj : Inj (pF ps) ps.length := fun i j hi hj e => by
    have g1 : ps.getD i (0, 0) = ps[i] := by rw [List.getD_eq_getElem?_getD, List.getElem?_eq_getElem hi]; rfl
    have g2 : ps.getD j (0, 0) = ps[j] := by rw [List.getD_eq_getElem?_getD, List.getElem?_eq_getElem hj]; rfl
    unfold pF at e
    rw [g1, g2] at e
    have := pkey_inj (hf.1 _ (List.getElem_mem hi)) (hf.1 _ (List.getElem_mem hj)) e
    have q := List.pairwise_iff_getElem.mp hf.2
    rcases Nat.lt_trichotomy i j with c | c | c
    · exact absurd this (q i j hi hj c)
    · exact c
    · exact absurd this.symm (q j i hj hi c)
  obtain ⟨p, e1, e2, e3⟩ := sort_sat hinj (by (first | lia | omega) : 0 < ps.length)
  have ask : (kas_sort vs.length).kasWp (kas_ask prog w A (tuples' true) vs) (fun p' s' => p' = p ∧ s' = { s with heap := H }) { s with heap := H } := by
    rw [hlen]
    exact Sat.wp (fun i j C hi hj hc => ask_pair (s := { s with heap := H }) hf r' hi hj hc) _ _ e1 ⟨rfl, rfl⟩
  refine wpAny_bind (wpAny_mono (kat_run (Q := fun st' s' => s' = { s with heap := H } ∧ arrOf st' = p.map (kas_item (vs.toArray.zip vs.toArray)) ∧ failedOf st' = none) rfl (by (first | lia | omega)) (by (first | lia | omega)) (fun p' st' s' _ h1 h2 h3 => by
    obtain ⟨rfl, rfl⟩ := h3
    exact ⟨rfl, h1, h2⟩) ask) ?_ fun _ _ e => e)
  rintro ⟨⟨⟩, st'⟩ s' ⟨rfl, har, hfl⟩
  dsimp only
  rw [kat_snds rfl har]
  have hout : (p.toList.map fun i => vs.getD i Value.none).length = ps.length := by simp [e2.size]
  refine wpAny_bind (seqEpoch_at ho2 rfl (wpAny_bind (listUpdate_at ho2 rfl ?_ (Nat.zero_le _) (by simp [sizeLine_eq, e2.size]; (first | lia | omega)))))
  rw [hfl]
  simp only [bne_self_eq_false, Bool.false_eq_true, if_false]
  have hps := psort_eq hf (perm_map e2) (srt_pairwise e2 e3)
  have rr := repL_perm r (l := p.toList) fun i hi => List.mem_range.mp (e2.perm.mem_iff.mp hi)
  rw [hps] at rr
  have := k _ rr
  refine wpAny_pure ?_
  rw [← hH]
  exact this

theorem sorted_pairs {l : Addr} {vs : List Value} {n : Nat} {ps : List (Int × Int)} (e : s.heap.get? l = some (lst vs n)) (r : RepL s.heap P vs (dp ps)) (hf : PFits ps) (h2 : 2 ≤ ps.length) (h64 : ps.length < 64) : Giv prog w A (call (.builtin "sorted") [.ref l]) s P (.list (dp (psort ps))) := by
  intro Q E k
  have hlen : vs.length = ps.length := r.length.trans (by simp [dp])
  refine Calls.call_function_entry kind_sorted plain_sorted entry_sorted (args_sorted1 _) ?_
  unfold Builtin.«sorted»
  refine wpAny_bind (m := checkCount "sorted" 1 1 _) (wpAny_pure ?_)
  refine wpAny_bind (collect_list (lst_isList e) ?_ (by rw [sizeLine_eq]; (first | lia | omega)))
  refine wpAny_bind (wpAny_newList ?_ (by rw [sizeLine_eq]; (first | lia | omega)))
  generalize hH : (s.heap.push (seqObj "list" #[] 0)).update s.heap.objs.size (Obj.mapSeq (· ++ vs.toArray)) = H
  have hsz : H.objs.size = s.heap.objs.size + 1 := by rw [← hH, Heap.size_update, size_push']
  have keep : Kp s.heap H := fun b o q => by
    have hlt : b < s.heap.objs.size := Heap.lt_size q
    rw [← hH]
    exact (Heap.get?_update_other _ _ (Nat.ne_of_gt hlt)).trans (Heap.get?_push_of_some _ q)
  show wpAny _ _ _ _ _ { s with heap := H.push (lst vs 0) }
  have hoL : (H.push (lst vs 0)).get? (s.heap.objs.size + 1) = some (lst vs 0) := by rw [← hsz]; exact Heap.get?_push_size _ rfl
  rw [hsz]
  have r' : RepL (H.push (lst vs 0)) (fun b => P b ∧ b ≠ s.heap.objs.size + 1) vs (dp ps) := r.mono fun b o p q => ⟨⟨p, fun hb => by have := Heap.lt_size q; rw [hb] at this; exact absurd this (Nat.not_lt_of_le (Nat.le_succ _))⟩, Heap.get?_push_of_some _ (keep b o q)⟩
  refine wpAny_bind (wpAny_holding (wpAny_call_entry slot_list_sort ⟨_, hoL, rfl⟩ entry_list_sort ?body (args_list_sort _)))
  case body =>
    refine sort_tree (s := { s with heap := H.push (lst vs 0) }) hoL r' (fun b p => p.2) hf h2 h64 fun out ro => ⟨_, rfl, wpAny_pure ⟨_, rfl, ?_⟩⟩
    have hsa : sortedHeap (H.push (lst vs 0)) (s.heap.objs.size + 1) vs out.toArray = sortedAll s.heap vs out.toArray := by
      rw [← hH]; rfl
    show Q _ { s with heap := sortedHeap (H.push (lst vs 0)) (s.heap.objs.size + 1) vs out.toArray }
    rw [hsa]
    obtain ⟨c, hc⟩ := sortedAll_at s.heap vs out.toArray
    refine k _ _ s.toks (fun b o q => sortedAll_old q) (.list (n := c) (.inr ?_) hc (ro.mono fun b o p q => ⟨.inl p.1, ?_⟩))
    · cases q : s.heap.get? (s.heap.objs.size + 1) with
      | none => rfl
      | some o => exact absurd (Heap.lt_size q) (Nat.not_lt.mpr (Nat.le_succ _))
    · rw [← hsa]
      unfold sortedHeap
      exact (Heap.get?_update_other _ _ (Ne.symm p.2)).trans (Heap.get?_push_of_some _ (Heap.get?_push_of_some _ ((Heap.get?_update_other _ _ (Ne.symm p.2)).trans q)))
end

noncomputable def bSort2 : D → Option D
  | .list l => if l.length < 64 then (match ints? l with
    | some ns => some (.list (di (isort ns)))
    | none => (pairs? l).bind fun ps => if (ps.all fun p => decide (0 ≤ p.2 ∧ p.2 < 1048576)) ∧ ps.Nodup ∧ 2 ≤ ps.length then some (.list (dp (psort ps))) else none) else none
  | _ => none
section
variable {prog : Program} {w : World} {A : Around} {s : Shared} {P : Addr → Prop} {v : Value} {d r : D}
theorem b_sort2 (rv : RepB s.heap P v d) (h : bSort2 d = some r) : Giv prog w A (call (.builtin "sorted") [v]) s P r := by
  cases d with
  | list l =>
    simp only [bSort2] at h
    split at h
    · rename_i hz
      split at h
      · rename_i ns hns
        cases h
        exact b_sort rv (by simp only [bSort, if_pos hz, hns]; rfl)
      · simp only [Option.bind_eq_some_iff] at h
        obtain ⟨ps, h1, h2⟩ := h
        split at h2
        · rename_i hc
          cases h2
          have e := pairs?_dp h1
          subst e
          cases rv with
          | list e l => exact sorted_pairs e l ⟨fun p hp => of_decide_eq_true (List.all_eq_true.mp hc.1 p hp), hc.2.1⟩ hc.2.2 (by simpa [dp] using hz)
        · cases h2
    · cases h
  | _ => cases h
end
end Mine
end

section
open PySem PySem.W PyProof.Rows PySem.Calls
set_option autoImplicit false
namespace Mine

structure Base (B : Heap) (mg mb : Str → Option Value) : Prop where
  g : B.Ns mainGlobals mg
  b : B.Ns builtinsNs mb
  blt : ∀ x : Str, x ≠ "__name__" → mb x = bootBuiltins x
  nolimit : B.NoLimit

structure BOk (B : Heap) (fr : Fm) : Prop where
  base : Kp B fr.entry
  bxb : ∀ a, fr.bx = some a → B.get? a = none

structure Rm (A : Around) (n : Nat) : Prop where
  h : A.handled = none
  d : A.depth + n < recursionLimit
  u : A.units + 4 * n + 64 < cLine
theorem Rm.less {A : Around} {n k : Nat} (r : Rm A n) (h : k ≤ n) : Rm A k := ⟨r.h, by have := r.d; (first | lia | omega), by have := r.u; (first | lia | omega)⟩
theorem Rm.deeper {A : Around} {n : Nat} {env : Env} (r : Rm A (n + 1)) : Rm (A.deeper env) n := ⟨r.h, by have := r.d; show A.depth + 1 + n < _; (first | lia | omega), by have := r.u; show A.units + 3 + 4 * n + 64 < _; (first | lia | omega)⟩

theorem Inv.base {B : Heap} {fr : Fm} {α : Al} {σ : St} {h : Heap} (bo : BOk B fr) (I : Inv fr α σ h) : Kp B h := fun b o e => I.keep b o (fun q => by rw [bo.bxb b q] at e; cases e) (bo.base b o e)

section
variable (prog : Program) (w : World) (B : Heap)
/-- the def at f gives back G -/
noncomputable def FnOK (n : Nat) (f : Addr) (G : List D → Option D) : Prop :=
  ∀ (A : Around) (s : Shared) (P : Addr → Prop) (vs : List Value) (ds : List D) (d : D), Rm A n → Kp B s.heap → RepL s.heap P vs ds → G ds = some d → Giv prog w A (call (.ref f) vs) s P d
/-- the def at f turns its first argument, a list of ints, and gives back -/
noncomputable def FnB (n : Nat) (f : Addr) (G : List Int → List D → Option (D × List Int)) : Prop :=
  ∀ (A : Around) (s : Shared) (P : Addr → Prop) (bx : Addr) (vb : List Value) (nb : Nat) (ns : List Int) (vs : List Value) (ds : List D) (d : D) (ns' : List Int), Rm A n → Kp B s.heap → B.get? bx = none →
    s.heap.get? bx = some (lst vb nb) → IntsAre vb ns → RepL s.heap P vs ds → (∀ b, P b → b ≠ bx) → G ns ds = some (d, ns') → ∀ (Q E : Value → Shared → Prop),
    (∀ v h' tk', (∀ b o, b ≠ bx → s.heap.get? b = some o → h'.get? b = some o) → (∃ vb' nb', h'.get? bx = some (lst vb' nb') ∧ IntsAre vb' ns') → Rep h' (fun b => P b ∨ s.heap.get? b = none) v d → Q v { s with heap := h', toks := tk' }) →
    wpAny (model prog w) A (call (.ref f) (.ref bx :: vs)) Q E s
end

noncomputable def xCall (G : List D → Option D) (F : EvL) : Ev := fun σ => (F σ).bind fun p => (G p.1).map fun d => (d, p.2)
noncomputable def own? : Cell → Option (List D)
  | .ow l => some l
  | _ => none
theorem own?_eq {c : Cell} {l : List D} (h : own? c = some l) : c = .ow l := by cases c <;> simp [own?] at h; subst h; rfl
noncomputable def xCallB (i : Nat) (G : List Int → List D → Option (D × List Int)) (F : EvL) : Ev := fun σ => (own? (σ i)).bind fun _ => (F σ).bind fun p => (own? (p.2 i)).bind fun l =>
  (ints? l).bind fun ns => (G ns p.1).map fun r => (r.1, upd p.2 i (.ow (di r.2)))
noncomputable def xB1 (g : D → Option D) (B : Rd) : Ev := fun σ => (B σ).bind fun p => (p.2 p.1).bind fun d => (g d).map fun r => (r, p.1)
noncomputable def xB2 (g : D → D → Option D) (F : EvL) : Ev := fun σ => (F σ).bind fun p => match p.1 with
  | [a, b] => (g a b).map fun r => (r, p.2)
  | _ => none
noncomputable def xB3 (g : D → D → D → Option D) (F : EvL) : Ev := fun σ => (F σ).bind fun p => match p.1 with
  | [a, b, c] => (g a b c).map fun r => (r, p.2)
  | _ => none

section
variable {prog : Program} {w : World} {fr : Fm} {B : Heap} {mg mb : Str → Option Value}

theorem glob_name {A : Around} {s : Shared} {Q E : Value → Shared → Prop} {x : Str} {pos : Pos} {v : Value} (ok : FOk fr) (bs : Base B mg mb) (hB : Kp B s.heap) (hk : fr.env.kindOf x = some .globalImplicit) (hn : (x == ("__debug__" : Str)) = false) (hm : mg x = some v) (h : Q v s) :
    wpAny (model prog w) A (eval (.Name x pos) fr.env) Q E s :=
  Name_function_global ok.kind hk (loadGlobal_global (by rw [ok.glob]; exact bs.g.keeps hB) hm h) hn
theorem blt_name {A : Around} {s : Shared} {Q E : Value → Shared → Prop} {x : Str} {pos : Pos} {v : Value} (ok : FOk fr) (bs : Base B mg mb) (hB : Kp B s.heap) (hk : fr.env.kindOf x = some .globalImplicit) (hn : (x == ("__debug__" : Str)) = false) (hx : x ≠ "__name__") (hm : mg x = none) (hv : bootBuiltins x = some v) (h : Q v s) :
    wpAny (model prog w) A (eval (.Name x pos) fr.env) Q E s :=
  Name_function_global ok.kind hk (loadGlobal_builtin (by rw [ok.glob]; exact bs.g.keeps hB) hm (by rw [ok.blt]; exact bs.b.keeps hB) ((bs.blt x hx).trans hv) h) hn

theorem SE.call (ok : FOk fr) (bo : BOk B fr) (bs : Base B mg mb) {x : Str} {pos pos' : Pos} {e : Expr} {es : List Expr} {f : Addr} {o : Obj} {fd : FuncData} {n : Nat} {G : List D → Option D} {F : EvL} (hF : FnOK prog w B n f G) (hr : Rm fr.A n) (hm : mg x = some (.ref f)) (ho : B.get? f = some o) (hd : o.data = .func fd)
    (hk : fr.env.kindOf x = some .globalImplicit) (hn : (x == ("__debug__" : Str)) = false)
    (hl : SL prog w fr (e :: es) F) (he : ∀ env, starEach (e :: es) env = (false, eval e env) :: starEach es env) : SE prog w fr (.Call (.Name x pos) (e :: es) [] pos') (xCall G F) := by
  rintro σ d σ' h α s Q E I k
  simp only [xCall, Option.bind_eq_some_iff, Option.map_eq_some_iff] at h
  obtain ⟨⟨ds, σ1⟩, e1, d', e2, e3⟩ := h
  cases e3
  refine Call_ (glob_name ok bs (I.base bo) hk hn hm ?_)
  refine callWith_def hd (hl σ ds _ e1 α s _ _ _ I fun vs h1 t1 ev1 I1 st1 r1 _ => ⟨I1.base bo _ _ ho, ?_⟩) (he _)
  refine hF _ _ _ _ _ _ hr (I1.base bo) r1 e2 _ _ fun v h2 t2 kp r2 => ?_
  exact k v h2 t2 ev1 (I1.kp kp) (st1.trans (Stp.kp kp)) (rep_join I1 r2)

theorem SE.callB (ok : FOk fr) (bo : BOk B fr) (bs : Base B mg mb) {x y : Str} {pos pos' pos2 : Pos} {i : Nat} {es : List Expr} {f : Addr} {o : Obj} {fd : FuncData} {n : Nat} {G : List Int → List D → Option (D × List Int)} {F : EvL} (hF : FnB prog w B n f G) (hr : Rm fr.A n) (hm : mg x = some (.ref f)) (ho : B.get? f = some o) (hd : o.data = .func fd)
    (hk : fr.env.kindOf x = some .globalImplicit) (hn : (x == ("__debug__" : Str)) = false)
    (hy : fr.names[i]? = some y) (hny : nameOk y = true) (hl : SL prog w fr es F) : SE prog w fr (.Call (.Name x pos) (.Name y pos2 :: es) [] pos') (xCallB i G F) := by
  rintro σ d σ' h α s Q E I k
  simp only [xCallB, Option.bind_eq_some_iff, Option.map_eq_some_iff] at h
  obtain ⟨l0, hl0, ⟨ds, σ1⟩, e1, l, hi, ns, e3, ⟨d', ns'⟩, e4, e5⟩ := h
  cases e5
  replace hl0 := own?_eq hl0
  replace hi : σ1 i = .ow l := own?_eq hi
  refine Call_ (glob_name ok bs (I.base bo) hk hn hm ?_)
  refine callWith_def hd (args_cons (wpAny_Name (load_look ok.kind (I.ovar i y hy l0 hl0) ?_ (nameOk_2 hny)) (nameOk_1 hny)) (by rfl)) (by intros; rfl)
  refine hl σ ds _ e1 α s _ _ _ I fun vs h1 t1 ev1 I1 st1 r1 _ => ⟨I1.base bo _ _ ho, ?_⟩
  obtain ⟨hnew, vb, nb, hb, rb⟩ := I1.own i l hi
  refine hF _ _ _ _ _ _ _ _ _ _ _ hr (I1.base bo) ?_ hb (rb.toInts e3) r1 (fun b p => p.own i l hi) e4 _ _ fun v h2 t2 kp hbx r2 => ?_
  · rcases hnew with q | q
    · exact Kp.none bo.base q
    · exact bo.bxb _ q
  · obtain ⟨vb', nb', hb', rb'⟩ := hbx
    obtain ⟨I2, st2, ev2⟩ := I1.turn hi kp hb' (rep_ints rb')
    refine k v h2 t2 (ev1.trans ev2) I2 (st1.trans st2) (r2.mono fun b o p e => ⟨?_, e⟩)
    rcases p with p | p
    · exact ev2.pr p
    · exact ev2.pr (I1.fresh p)

theorem callWith_blt {A : Around} {s : Shared} {Q E : Value → Shared → Prop} {env : Env} {pos : Pos} {fv : Value} {e : Expr} {rest : List Expr} (hf : (∃ id, fv = .builtin id) ∨ ∃ T, fv = .type T)
    (h : wpAny (model prog w) A (spliced (backTo pos (starEach (e :: rest) env))) (fun vs s₁ => wpAny (model prog w) A (call fv vs) Q E s₁) E s)
    (he : starEach (e :: rest) env = (false, eval e env) :: starEach rest env) (hp : (backTo pos (starEach rest env)).any (·.1) = false) :
    wpAny (model prog w) A (callWith pos fv [] (backTo pos (starEach (e :: rest) env)) []) Q E s := by
  rcases hf with ⟨id, rfl⟩ | ⟨T, rfl⟩
  · exact PyProof.Rows.callWith_builtin1 h he hp
  · exact PyProof.Rows.callWith_type1 h he hp

/-- a built-in's name and what it is -/
structure BN (fr : Fm) (mg : Str → Option Value) (x : Str) (fv : Value) : Prop where
  k : fr.env.kindOf x = some .globalImplicit
  d : (x == ("__debug__" : Str)) = false
  n : x ≠ "__name__"
  m : mg x = none
  v : bootBuiltins x = some fv
  f : (∃ id, fv = .builtin id) ∨ ∃ T, fv = .type T

theorem SE.b1 (ok : FOk fr) (bo : BOk B fr) (bs : Base B mg mb) {x : Str} {pos pos' : Pos} {e : Expr} {fv : Value} {g : D → Option D} {R : Rd} (bn : BN fr mg x fv)
    (hg : ∀ s P v d r, RepB s.heap P v d → g d = some r → Giv prog w fr.A (PySem.call fv [v]) s P r)
    (hl : SR prog w fr e R) (he : ∀ env, starEach [e] env = [(false, eval e env)]) : SE prog w fr (.Call (.Name x pos) [e] [] pos') (xB1 g R) := by
  rintro σ d σ' h α s Q E I k
  simp only [xB1, Option.bind_eq_some_iff, Option.map_eq_some_iff] at h
  obtain ⟨⟨σ1, rd⟩, e1, dd, e2, r, e3, e4⟩ := h
  cases e4
  refine Call_ (blt_name ok bs (I.base bo) bn.k bn.d bn.n bn.m bn.v (callWith_blt bn.f ?_ (he _) (by rfl)))
  refine args_cons (hl σ _ rd e1 α s _ _ I fun v h1 t1 ev1 I1 st1 b1 => args_nil ?_) (he _)
  refine hg _ _ _ _ _ (b1 _ _ _ (Evo.refl _) I1 Stp.refl e2) e3 _ _ fun v2 h2 t2 kp r2 => ?_
  exact k v2 h2 t2 ev1 (I1.kp kp) (st1.trans (Stp.kp kp)) (rep_join I1 r2)
theorem star_tail {e e' : Expr} {env : Env} (q : starEach [e, e'] env = [(false, eval e env), (false, eval e' env)]) : starEach [e'] env = [(false, eval e' env)] := by
  cases e <;> first | (exact (List.cons.inj q).2) | (cases q)
theorem SE.b2 (ok : FOk fr) (bo : BOk B fr) (bs : Base B mg mb) {x : Str} {pos pos' : Pos} {e e' : Expr} {fv : Value} {g : D → D → Option D} {F : EvL} (bn : BN fr mg x fv)
    (hg : ∀ s P va vb a b r, Rep s.heap P va a → Rep s.heap P vb b → g a b = some r → Giv prog w fr.A (PySem.call fv [va, vb]) s P r)
    (hl : SL prog w fr [e, e'] F) (he : ∀ env, starEach [e, e'] env = [(false, eval e env), (false, eval e' env)]) : SE prog w fr (.Call (.Name x pos) [e, e'] [] pos') (xB2 g F) := by
  rintro σ d σ' h α s Q E I k
  simp only [xB2, Option.bind_eq_some_iff] at h
  obtain ⟨⟨ds, σ1⟩, e1, e2⟩ := h
  split at e2
  · rename_i a b hab
    simp only [Option.map_eq_some_iff] at e2
    obtain ⟨r, e3, e4⟩ := e2
    cases e4
    dsimp only at hab
    subst hab
    refine Call_ (blt_name ok bs (I.base bo) bn.k bn.d bn.n bn.m bn.v (callWith_blt bn.f ?_ ((he _).trans ?_) ?_))
    · refine hl σ _ _ e1 α s _ _ _ I fun vs h1 t1 ev1 I1 st1 r1 _ => ?_
      obtain ⟨va, vb, rfl, ra, rb⟩ := r1.two_inv
      exact hg _ _ _ _ _ _ _ ra rb e3 _ _ fun v2 h2 t2 kp r2 => k v2 h2 t2 ev1 (I1.kp kp) (st1.trans (Stp.kp kp)) (rep_join I1 r2)
    · rw [star_tail (he fr.env)]
    · rw [star_tail (he fr.env)]; rfl
  · cases e2
theorem SE.b3 (ok : FOk fr) (bo : BOk B fr) (bs : Base B mg mb) {x : Str} {pos pos' : Pos} {e e' e2 : Expr} {fv : Value} {g : D → D → D → Option D} {F : EvL} (bn : BN fr mg x fv)
    (hg : ∀ s P va vb vc a b c r, Rep s.heap P va a → Rep s.heap P vb b → Rep s.heap P vc c → g a b c = some r → Giv prog w fr.A (PySem.call fv [va, vb, vc]) s P r)
    (hl : SL prog w fr [e, e', e2] F) (he : ∀ env, starEach [e, e', e2] env = (false, eval e env) :: starEach [e', e2] env) (hp : ∀ env pos, (backTo pos (starEach [e', e2] env)).any (·.1) = false) : SE prog w fr (.Call (.Name x pos) [e, e', e2] [] pos') (xB3 g F) := by
  rintro σ d σ' h α s Q E I k
  simp only [xB3, Option.bind_eq_some_iff] at h
  obtain ⟨⟨ds, σ1⟩, e1, e2⟩ := h
  split at e2
  · rename_i a b c hab
    simp only [Option.map_eq_some_iff] at e2
    obtain ⟨r, e3, e4⟩ := e2
    cases e4
    dsimp only at hab
    subst hab
    refine Call_ (blt_name ok bs (I.base bo) bn.k bn.d bn.n bn.m bn.v (callWith_blt bn.f ?_ (he _) (hp _ _)))
    refine hl σ _ _ e1 α s _ _ _ I fun vs h1 t1 ev1 I1 st1 r1 _ => ?_
    obtain ⟨va, vb, vc, rfl, ra, rb, rc⟩ := r1.three_inv
    exact hg _ _ _ _ _ _ _ _ _ ra rb rc e3 _ _ fun v2 h2 t2 kp r2 => k v2 h2 t2 ev1 (I1.kp kp) (st1.trans (Stp.kp kp)) (rep_join I1 r2)
  · cases e2
end
end Mine
end

section
open PySem PySem.W PyProof.Rows PySem.Calls
set_option autoImplicit false
namespace Mine

inductive Fl where
  | nxt
  | ret (d : D)
noncomputable abbrev Ex := St → Option (Fl × St)

noncomputable def FlOk (fr : Fm) (α : Al) (σ : St) (h : Heap) : Fl → Flow → Prop
  | .nxt, .next => True
  | .ret d, .ret v => Rep h (Pr fr α σ) v d
  | _, _ => False

section
variable (prog : Program) (w : World) (fr : Fm)
noncomputable def SS (st : Stmt) (F : Ex) : Prop :=
  ∀ σ fl σ', F σ = some (fl, σ') → ∀ (α : Al) (s : Shared) (Q : Flow → Shared → Prop) (E : Value → Shared → Prop), Inv fr α σ s.heap →
    (∀ f α' h' tk', α'.its = α.its → Inv fr α' σ' h' → Stp fr α σ s.heap α' σ' h' → FlOk fr α' σ' h' fl f → Q f { s with heap := h', toks := tk' }) →
    wpAny (model prog w) fr.A (exec st fr.env) Q E s
noncomputable def SSs (sts : List Stmt) (F : Ex) : Prop :=
  ∀ σ fl σ', F σ = some (fl, σ') → ∀ (α : Al) (s : Shared) (Q : Flow → Shared → Prop) (E : Value → Shared → Prop), Inv fr α σ s.heap →
    (∀ f α' h' tk', α'.its = α.its → Inv fr α' σ' h' → Stp fr α σ s.heap α' σ' h' → FlOk fr α' σ' h' fl f → Q f { s with heap := h', toks := tk' }) →
    wpAny (model prog w) fr.A (execs sts fr.env) Q E s
end

noncomputable def yNil : Ex := fun σ => some (.nxt, σ)
noncomputable def ySeq (F G : Ex) : Ex := fun σ => (F σ).bind fun p => match p.1 with
  | .nxt => G p.2
  | .ret d => some (.ret d, p.2)
noncomputable def yIf (T : Ev) (F G : Ex) : Ex := fun σ => (T σ).bind fun p => match p.1 with
  | .bool true => F p.2
  | .bool false => G p.2
  | _ => none
noncomputable def yRet (F : Ev) : Ex := fun σ => (F σ).map fun p => (.ret p.1, p.2)
noncomputable def yStuck : Ex := fun _ => none
noncomputable def ySet (i : Nat) (F : Ev) : Ex := fun σ => (F σ).map fun p => (.nxt, upd p.2 i (.sh p.1))
/-- a name's own augmented store -/
noncomputable def yAug (i : Nat) (f : D → D → Option D) (F : Ev) : Ex := fun σ => (F σ).bind fun p => match σ i with
  | .sh a => (f a p.1).map fun d => (.nxt, upd p.2 i (.sh d))
  | _ => none

/-- the name x, number i, may be stored -/
structure VW (fr : Fm) (i : Nat) (x : Str) : Prop where
  n : fr.names[i]? = some x
  k : Stb fr x
  b : i ≠ fr.bi
  o : nameOk x = true

section
variable {prog : Program} {w : World} {fr : Fm}

theorem SSs.nil : SSs prog w fr [] yNil := by
  rintro σ fl σ' h α s Q E I k
  cases h
  exact wpAny_execs_nil (k .next α s.heap s.toks rfl I Stp.refl trivial)
theorem SSs.cons {st : Stmt} {sts : List Stmt} {F G : Ex} (h1 : SS prog w fr st F) (h2 : SSs prog w fr sts G) : SSs prog w fr (st :: sts) (ySeq F G) := by
  rintro σ fl σ' h α s Q E I k
  simp only [ySeq, Option.bind_eq_some_iff] at h
  obtain ⟨⟨f1, σ1⟩, e1, e2⟩ := h
  refine wpAny_execs_cons (h1 σ f1 σ1 e1 α s _ _ I fun f α1 h' t' a1 I1 st1 ok1 => ?_)
  cases f1 with
  | nxt => cases f with
    | next => exact h2 σ1 fl σ' e2 α1 _ _ _ I1 fun f α2 h2 t2 a2 I2 st2 ok2 => k f α2 h2 t2 (a2.trans a1) I2 (st1.trans st2) ok2
    | _ => exact ok1.elim
  | ret d =>
    cases e2
    cases f with
    | ret v => exact k (.ret v) α1 h' t' a1 I1 st1 ok1
    | _ => exact ok1.elim
theorem SS.ite {t : Expr} {b o : List Stmt} {pos : Pos} {T : Ev} {F G : Ex} (ht : ST prog w fr t T) (hb : SSs prog w fr b F) (ho : SSs prog w fr o G) : SS prog w fr (.If t b o pos) (yIf T F G) := by
  rintro σ fl σ' h α s Q E I k
  simp only [yIf, Option.bind_eq_some_iff] at h
  obtain ⟨⟨c, σ1⟩, e1, e2⟩ := h
  cases c with
  | bool c =>
    refine wpAny_If (ht σ c σ1 e1 α s _ _ I fun h1 t1 ev1 I1 st1 => ?_)
    cases c with
    | true =>
      simp only [if_true] at e2 ⊢
      exact hb σ1 fl σ' e2 α _ _ _ I1 fun f α2 h2 t2 a2 I2 st2 ok2 => k f α2 h2 t2 a2 I2 (st1.trans st2) ok2
    | false =>
      simp only [Bool.false_eq_true, if_false] at e2 ⊢
      exact ho σ1 fl σ' e2 α _ _ _ I1 fun f α2 h2 t2 a2 I2 st2 ok2 => k f α2 h2 t2 a2 I2 (st1.trans st2) ok2
  | _ => cases e2
theorem SS.ret {e : Expr} {pos : Pos} {F : Ev} (h : SE prog w fr e F) : SS prog w fr (.Return (some e) pos) (yRet F) := by
  rintro σ fl σ' hF α s Q E I k
  simp only [yRet, Option.map_eq_some_iff] at hF
  obtain ⟨⟨d, σ1⟩, e1, e2⟩ := hF
  cases e2
  exact wpAny_Return_some (h σ d _ e1 α s _ _ I fun v h1 t1 ev1 I1 st1 r1 => k (.ret v) α h1 t1 rfl I1 st1 r1)
/-- a statement that is never met -/
theorem SS.stuck {st : Stmt} : SS prog w fr st yStuck := fun σ fl σ' h => by cases h

theorem SS.set (ok : FOk fr) {x : Str} {p pos : Pos} {e : Expr} {i : Nat} {F : Ev} (vw : VW fr i x) (h : SE prog w fr e F) (hs : ∀ env, swapsWith e (some (.Name x p)) pos.line env = pure false) : SS prog w fr (.Assign [.Name x p] e pos) (ySet i F) := by
  rintro σ fl σ' hF α s Q E I k
  simp only [ySet, Option.map_eq_some_iff] at hF
  obtain ⟨⟨d, σ1⟩, e1, e2⟩ := hF
  cases e2
  refine wpAny_Assign_Name (h σ d σ1 e1 α s _ _ I fun v h1 t1 ev1 I1 st1 r1 => ?_) (hs _)
  refine store_ ok I1.ns I1.cells vw.k fun h2 t2 S => ?_
  obtain ⟨I2, st2⟩ := I1.store_sh ok vw.n vw.b S r1
  exact k .next α h2 t2 rfl I2 (st1.trans st2) trivial

theorem SS.aug (ok : FOk fr) {x : Str} {p pos : Pos} {e : Expr} {op : Operator} {i : Nat} {F : Ev} {f : D → D → Option D} (vw : VW fr i x) (h : SE prog w fr e F)
    (hf : ∀ s P va vb a b d, Rep s.heap P va a → Rep s.heap P vb b → f a b = some d → Giv prog w fr.A (inplaceOp op va vb) s P d) : SS prog w fr (.AugAssign (.Name x p) op e pos) (yAug i f F) := by
  rintro σ fl σ' hF α s Q E I k
  simp only [yAug, Option.bind_eq_some_iff] at hF
  obtain ⟨⟨b, σ1⟩, e1, e2⟩ := hF
  cases hi : σ i with
  | no => simp only [hi] at e2; cases e2
  | ow l => simp only [hi] at e2; cases e2
  | sh a =>
    simp only [hi, Option.map_eq_some_iff] at e2
    obtain ⟨d, e3, e4⟩ := e2
    cases e4
    obtain ⟨v, lv, rv⟩ := I.var i x vw.n a hi
    refine wpAny_AugAssign_Name (load_look ok.kind lv ?_ (nameOk_2 vw.o))
    refine h σ b σ1 e1 α s _ _ I fun vb h1 t1 ev1 I1 st1 r1 => ?_
    refine hf _ _ _ _ _ _ _ (st1.rep rv) r1 e3 _ _ fun v2 h2 t2 kp r2 => ?_
    refine store_ ok (I1.kp kp).ns (I1.kp kp).cells vw.k fun h3 t3 S => ?_
    obtain ⟨I3, st3⟩ := (I1.kp kp).store_sh ok vw.n vw.b S (rep_join I1 r2)
    exact k .next α h3 t3 rfl I3 ((st1.trans (Stp.kp kp)).trans st3) trivial
end

/-! ### Lists that a name holds -/

section
variable (prog : Program) (w : World) (fr : Fm)
/-- the expression e makes a new list -/
noncomputable def SF (e : Expr) (F : EvL) : Prop :=
  ∀ σ ds σ', F σ = some (ds, σ') → ∀ (α : Al) (s : Shared) (Q : Value → Shared → Prop) (E : Value → Shared → Prop), Inv fr α σ s.heap →
    (∀ a vs n h1 h' tk', Evo fr σ σ' → Inv fr α σ' h1 → Stp fr α σ s.heap α σ' h1 → Kp h1 h' → h1.get? a = none → h'.get? a = some (lst vs n) → RepL h1 (Pr fr α σ') vs ds → Q (.ref a) { s with heap := h', toks := tk' }) →
    wpAny (model prog w) fr.A (eval e fr.env) Q E s
end
noncomputable def fMul (F : EvL) (G : Ev) : EvL := fun σ => (F σ).bind fun p => (G p.2).bind fun q => match q.1 with
  | .int k => if p.1.length * k.toNat ≤ 1048576 ∧ small k then some ((List.replicate k.toNat p.1).flatten, q.2) else none
  | _ => none
noncomputable def fCopy (B : Rd) : EvL := fun σ => (B σ).bind fun p => (p.2 p.1).bind fun d => match d with
  | .list l => if l.length ≤ 1048576 then some (l, p.1) else none
  | _ => none

/-- the element's value: shared, or a list that the slot holds -/
inductive El where
  | sh (d : D)
  | ow (t : Nat)
inductive RepE (fr : Fm) (α : Al) (σ : St) (h : Heap) : Value → El → Prop
  | sh {v : Value} {d : D} : Rep h (Pr fr α σ) v d → RepE fr α σ h v (.sh d)
  | ow {t : Nat} {l : List D} : fr.names[t]? = none → t ≠ fr.bi → σ t = .ow l → RepE fr α σ h (.ref (α.ad t)) (.ow t)
inductive RepEs (fr : Fm) (α : Al) (σ : St) (h : Heap) : List Value → List El → Prop
  | nil : RepEs fr α σ h [] []
  | cons {v : Value} {e : El} {vs : List Value} {es : List El} : RepE fr α σ h v e → RepEs fr α σ h vs es → RepEs fr α σ h (v :: vs) (e :: es)
/-- what the slots hold stays in its place -/
noncomputable def Hk (fr : Fm) (α : Al) (σ : St) (α' : Al) (σ' : St) : Prop := ∀ i l, fr.names[i]? = none → σ i = .ow l → α'.ad i = α.ad i ∧ ∃ l', σ' i = .ow l'
theorem Hk.trans {fr : Fm} {α α' α'' : Al} {σ σ' σ'' : St} (a : Hk fr α σ α' σ') (b : Hk fr α' σ' α'' σ'') : Hk fr α σ α'' σ'' := fun i l hi h => by
  obtain ⟨e1, l1, h1⟩ := a i l hi h
  obtain ⟨e2, h2⟩ := b i l1 hi h1
  exact ⟨e2.trans e1, h2⟩
theorem Evo.hk {fr : Fm} {α : Al} {σ σ' : St} (e : Evo fr σ σ') : Hk fr α σ α σ' := fun _ _ hi h => ⟨rfl, e.slot hi h⟩
theorem RepE.go {fr : Fm} {α α' : Al} {σ σ' : St} {h h' : Heap} {v : Value} {e : El} (st : Stp fr α σ h α' σ' h') (hk : Hk fr α σ α' σ') (r : RepE fr α σ h v e) : RepE fr α' σ' h' v e := by
  cases r with
  | sh r => exact .sh (st.rep r)
  | ow hn hb hl =>
    obtain ⟨e1, l', h1⟩ := hk _ _ hn hl
    rw [← e1]; exact .ow hn hb h1
theorem RepEs.go {fr : Fm} {α α' : Al} {σ σ' : St} {h h' : Heap} {vs : List Value} {es : List El} (st : Stp fr α σ h α' σ' h') (hk : Hk fr α σ α' σ') (r : RepEs fr α σ h vs es) : RepEs fr α' σ' h' vs es := by
  induction r with
  | nil => exact .nil
  | cons a _ ih => exact .cons (a.go st hk) ih
theorem RepEs.length {fr : Fm} {α : Al} {σ : St} {h : Heap} {vs : List Value} {es : List El} (r : RepEs fr α σ h vs es) : vs.length = es.length := by
  induction r with
  | nil => rfl
  | cons _ _ ih => simp [ih]
theorem RepL.es {fr : Fm} {α : Al} {σ : St} {h : Heap} {vs : List Value} {ds : List D} (r : RepL h (Pr fr α σ) vs ds) : RepEs fr α σ h vs (ds.map .sh) := by
  induction vs generalizing ds with
  | nil => cases r; exact .nil
  | cons v vs ih => cases r with | cons a r => exact .cons (.sh a) (ih r)

noncomputable abbrev EvE := St → Option (List El × St)
section
variable (prog : Program) (w : World) (fr : Fm)
noncomputable def SX (es : List Expr) (F : EvE) : Prop :=
  ∀ σ els σ', F σ = some (els, σ') → ∀ (α : Al) (s : Shared) (pos : Pos) (Q : List Value → Shared → Prop) (E : Value → Shared → Prop), Inv fr α σ s.heap →
    (∀ vs α' h' tk', α'.its = α.its → Inv fr α' σ' h' → Stp fr α σ s.heap α' σ' h' → Hk fr α σ α' σ' → RepEs fr α' σ' h' vs els → els.length = es.length → Q vs { s with heap := h', toks := tk' }) →
    wpAny (model prog w) fr.A (spliced (backTo pos (starEach es fr.env))) Q E s
end
noncomputable def eNil : EvE := fun σ => some ([], σ)
noncomputable def eSh (F : Ev) (G : EvE) : EvE := fun σ => (F σ).bind fun p => (G p.2).map fun q => (.sh p.1 :: q.1, q.2)
noncomputable def no? : Cell → Option Unit
  | .no => some ()
  | _ => none
theorem no?_eq {c : Cell} {u : Unit} (h : no? c = some u) : c = .no := by cases c <;> simp [no?] at h; rfl
noncomputable def eOw (t : Nat) (F : EvL) (G : EvE) : EvE := fun σ => (F σ).bind fun p => (no? (p.2 t)).bind fun _ => (G (upd p.2 t (.ow p.1))).map fun q => (.ow t :: q.1, q.2)

/-- names take their values, one by one -/
noncomputable def bindE : List (Nat × El) → St → Option St
  | [], σ => some σ
  | (i, .sh d) :: r, σ => bindE r (upd σ i (.sh d))
  | (i, .ow t) :: r, σ => (own? (σ t)).bind fun l => bindE r (upd (upd σ t .no) i (.ow l))

section
variable {prog : Program} {w : World} {fr : Fm}

theorem SX.nil : SX prog w fr [] eNil := by
  rintro σ d σ' h α s pos Q E I k
  cases h
  exact args_nil (k _ α s.heap s.toks rfl I Stp.refl (fun _ _ _ h => ⟨rfl, _, h⟩) .nil rfl)
theorem SX.sh {e : Expr} {rest : List Expr} {F : Ev} {G : EvE} (h1 : SE prog w fr e F) (h2 : SX prog w fr rest G) (he : ∀ env, starEach (e :: rest) env = (false, eval e env) :: starEach rest env) : SX prog w fr (e :: rest) (eSh F G) := by
  rintro σ d σ' h α s pos Q E I k
  simp only [eSh, Option.bind_eq_some_iff, Option.map_eq_some_iff] at h
  obtain ⟨⟨a, σ1⟩, e1, ⟨b, σ2⟩, e2, e3⟩ := h
  cases e3
  refine args_cons (h1 σ a σ1 e1 α s _ _ I fun va q1 t1 ev1 I1 st1 r1 => ?_) (he _)
  refine h2 σ1 b _ e2 α _ _ _ _ I1 fun vb α2 q2 t2 a2 I2 st2 hk2 r2 hl => ?_
  exact k _ α2 q2 t2 a2 I2 (st1.trans st2) (ev1.hk.trans hk2) (.cons (.sh (st2.rep r1)) r2) (by simp [hl])
theorem SX.ow {e : Expr} {rest : List Expr} {t : Nat} {F : EvL} {G : EvE} (ht : fr.names[t]? = none) (htb : t ≠ fr.bi) (h1 : SF prog w fr e F) (h2 : SX prog w fr rest G) (he : ∀ env, starEach (e :: rest) env = (false, eval e env) :: starEach rest env) : SX prog w fr (e :: rest) (eOw t F G) := by
  rintro σ d σ' h α s pos Q E I k
  simp only [eOw, Option.bind_eq_some_iff, Option.map_eq_some_iff] at h
  obtain ⟨⟨a, σ1⟩, e1, u, hno, ⟨b, σ2⟩, e2, e3⟩ := h
  cases e3
  replace hno : σ1 t = .no := no?_eq hno
  refine args_cons (h1 σ a σ1 e1 α s _ _ I fun ad vs n q1 q2 t1 ev1 I1 st1 kp ha ho r1 => ?_) (he _)
  obtain ⟨I2, st2⟩ := I1.hold ht htb hno kp ha ho r1
  have hk2 : Hk fr α σ1 (α.put t ad) (upd σ1 t (.ow a)) := fun i l hi hl => by
    have hit : i ≠ t := by rintro rfl; rw [hno] at hl; cases hl
    exact ⟨put_ne _ _ hit, l, by rw [upd_ne _ _ hit]; exact hl⟩
  refine h2 _ b _ e2 (α.put t ad) _ _ _ _ I2 fun vb α3 q3 t3 a3 I3 st3 hk3 r3 hl => ?_
  have r0 : RepE fr (α.put t ad) (upd σ1 t (.ow a)) q2 (.ref ad) (.ow t) := by
    have := RepE.ow (fr := fr) (α := α.put t ad) (σ := upd σ1 t (.ow a)) (h := q2) (l := a) ht htb (upd_self ..)
    rwa [put_self] at this
  exact k _ α3 q3 t3 a3 I3 ((st1.trans st2).trans st3) ((ev1.hk.trans hk2).trans hk3) (.cons (r0.go st3 hk3) r3) (by simp [hl])

theorem SF.list {es : List Expr} {pos : Pos} {F : EvL} (h : SL prog w fr es F) (hz : es.length ≤ 1000) : SF prog w fr (.List es pos) F := by
  rintro σ d σ' hF α s Q E I k
  refine List_ (h σ d σ' hF α s _ _ _ I fun vs h1 t1 ev1 I1 st1 r1 hl => ?_)
  exact wpAny_newList (k _ vs 0 h1 _ t1 ev1 I1 st1 (Kp.push _ _) (no_size _) (Heap.get?_push_size _ rfl) r1) (by rw [r1.length, sizeLine_eq]; (first | lia | omega))
theorem copy_inv {dd : D} {σ1 σ' : St} {ds : List D} (h : (match dd with | .list l => if l.length ≤ 1048576 then some (l, σ1) else none | _ => none) = some (ds, σ')) : dd = .list ds ∧ ds.length ≤ 1048576 ∧ σ' = σ1 := by
  split at h
  · obtain ⟨c, e⟩ := some_if h
    cases e
    exact ⟨rfl, c, rfl⟩
  · cases h
theorem mul_inv {b : D} {σ1 σ' : St} {l ds : List D} (h : (match b with | .int k => if l.length * k.toNat ≤ 1048576 ∧ small k then some ((List.replicate k.toNat l).flatten, σ1) else none | _ => none) = some (ds, σ')) : ∃ k, b = .int k ∧ (l.length * k.toNat ≤ 1048576 ∧ small k) ∧ ds = (List.replicate k.toNat l).flatten ∧ σ' = σ1 := by
  split at h
  · obtain ⟨c, e⟩ := some_if h
    cases e
    exact ⟨_, rfl, c, rfl, rfl⟩
  · cases h
theorem SF.copy (ok : FOk fr) {B : Heap} {mg mb : Str → Option Value} (bo : BOk B fr) (bs : Base B mg mb) {x : Str} {pos pos' : Pos} {e : Expr} {R : Rd} (bn : BN fr mg x (.type "list"))
    (hl : SR prog w fr e R) (he : ∀ env, starEach [e] env = [(false, eval e env)]) : SF prog w fr (.Call (.Name x pos) [e] [] pos') (fCopy R) := by
  rintro σ ds σ' h α s Q E I k
  simp only [fCopy, Option.bind_eq_some_iff] at h
  obtain ⟨⟨σ1, rd⟩, e1, dd, e2, e3⟩ := h
  refine Call_ (blt_name ok bs (I.base bo) bn.k bn.d bn.n bn.m bn.v (callWith_blt bn.f ?_ (he _) (by rfl)))
  refine args_cons (hl σ _ rd e1 α s _ _ I fun v h1 t1 ev1 I1 st1 b1 => args_nil ?_) (he _)
  obtain ⟨rfl, hz, rfl⟩ := copy_inv e3
  obtain ⟨a, vs, n, rfl, e, l⟩ := (b1 _ _ _ (Evo.refl _) I1 Stp.refl e2).list_inv
  rw [← l.length] at hz
  exact call_list_seq _ (T := "list") (.inl rfl) e rfl rfl (fun h' c' hk ho => k _ _ c' h1 h' t1 ev1 I1 st1 hk (no_size _) ho l) (by simp [sizeLine_eq]; (first | lia | omega))
theorem SF.mul {l r : Expr} {pos : Pos} {F : EvL} {G : Ev} (hl : SF prog w fr l F) (hr : SE prog w fr r G) : SF prog w fr (.BinOp l .Mult r pos) (fMul F G) := by
  rintro σ ds σ' h α s Q E I k
  simp only [fMul, Option.bind_eq_some_iff] at h
  obtain ⟨⟨d1, σ1⟩, e1, ⟨b, σ2⟩, e2, e3⟩ := h
  refine wpAny_BinOp (hl σ d1 σ1 e1 α s _ _ I fun a vs n h0 h1 t1 ev1 I0 st1 kp ha ho r1 => ?_)
  have hpa := I0.fresh ha
  have I1 := I0.kp kp
  refine hr σ1 b σ2 e2 α _ _ _ I1 fun vb h2 t2 ev2 I2 st2 r2 => ?_
  have ea := (st2.pr _ _ hpa ho).2
  have ra := st2.repL (r1.kp kp)
  obtain ⟨y, rfl, ⟨hz, hy⟩, rfl, rfl⟩ := mul_inv e3
  obtain ⟨u, rfl⟩ := r2.int_inv
  rw [← r1.length] at hz
  exact mul_push ea (by simpa using hz) hy (k _ _ 0 h2 _ t2 (ev1.trans ev2) I2 ((st1.trans (Stp.kp kp)).trans st2) (Kp.push _ _) (no_size _) (Heap.get?_push_size _ rfl) (ra.rep _))

/-- the names' stores, in order -/
theorem bind_go (ok : FOk fr) : ∀ {ts : List (Value → Sem Unit)} {tg : List (Nat × Str)} {els : List El} {vs : List Value} {α : Al} {σ σ' : St} {s : Shared} {Q : Unit → Shared → Prop} {E : Value → Shared → Prop},
    (∀ p ∈ tg, VW fr p.1 p.2) → ts.length = tg.length → (∀ (i : Nat) (t : Value → Sem Unit) (p : Nat × Str), ts[i]? = some t → tg[i]? = some p → ∀ v (s : Shared) (Q : Unit → Shared → Prop) E, wpAny (model prog w) fr.A (storeName fr.env p.2 v) Q E s → wpAny (model prog w) fr.A (t v) Q E s) →
    tg.length = els.length → RepEs fr α σ s.heap vs els → bindE ((tg.map (·.1)).zip els) σ = some σ' → (els.filterMap fun | .ow t => some t | _ => none).Nodup → Inv fr α σ s.heap →
    (∀ α' h' tk', α'.its = α.its → Inv fr α' σ' h' → Stp fr α σ s.heap α' σ' h' → Q () { s with heap := h', toks := tk' }) → wpAny (model prog w) fr.A (assignInOrder ts vs) Q E s := by
  intro ts
  induction ts with
  | nil =>
    intro tg els vs α σ σ' s Q E _ hl _ hz r hb _ I k
    cases tg with
    | cons _ _ => simp at hl
    | nil =>
      cases els with
      | cons _ _ => simp at hz
      | nil =>
        simp only [List.map_nil, List.zip_nil_left, bindE, Option.some.injEq] at hb
        subst hb
        exact assignInOrder_nil (k α s.heap s.toks rfl I Stp.refl)
  | cons t ts ih =>
    intro tg els vs α σ σ' s Q E hw hl ht hz r hb hd I k
    cases tg with
    | nil => simp at hl
    | cons p tg =>
      cases r with
      | nil => simp at hz
      | cons r1 r =>
        rename_i v e vs els
        obtain ⟨i, x⟩ := p
        have vw := hw _ List.mem_cons_self
        refine assignInOrder_cons (ht 0 t (i, x) rfl rfl v s _ E (store_ ok I.ns I.cells vw.k fun h1 t1 S => ?_))
        have rest := fun {α1 : Al} {σ1 : St} (a1 : α1.its = α.its) (I1 : Inv fr α1 σ1 h1) (st1 : Stp fr α σ s.heap α1 σ1 h1) (r1 : RepEs fr α1 σ1 h1 vs els) (hb1 : bindE ((tg.map (·.1)).zip els) σ1 = some σ') hd1 =>
          ih (s := { s with heap := h1, toks := t1 }) (E := E) (fun p hp => hw p (List.mem_cons_of_mem _ hp)) (by simpa using hl) (fun j t' p' h1 h2 => ht (j + 1) t' p' (by simpa using h1) (by simpa using h2)) (by simpa using hz) r1 hb1 hd1 I1
            (fun α' h' tk' a' I' st' => k α' h' tk' (a'.trans a1) I' (st1.trans st'))
        cases r1 with
        | sh rv =>
          rename_i d
          obtain ⟨I1, st1⟩ := I.store_sh ok vw.n vw.b S rv
          refine rest rfl I1 st1 (r.go st1 fun j l hj hl => ⟨rfl, l, ?_⟩) (by simpa [bindE] using hb) (by simpa using hd)
          have hji : j ≠ i := by rintro rfl; rw [vw.n] at hj; cases hj
          rw [upd_ne _ _ hji]; exact hl
        | ow htn htb htl =>
          rename_i t' l
          simp only [List.map_cons, List.zip_cons_cons, bindE, htl, own?, Option.bind_some] at hb
          obtain ⟨I1, st1⟩ := I.store_ow ok vw.n vw.b htb htn htl S
          simp only [List.filterMap_cons] at hd
          obtain ⟨hd1, hd2⟩ := List.pairwise_cons.mp hd
          refine rest (α1 := α.put i (α.ad t')) rfl I1 st1 ?_ hb hd2
          -- the other slots stay
          clear rest ih k hb hd hz hl ht hw
          have key : ∀ (els : List El) (vs : List Value), (∀ u ∈ els.filterMap (fun | .ow t => some t | _ => none), t' ≠ u) → RepEs fr α σ s.heap vs els → RepEs fr (α.put i (α.ad t')) (upd (upd σ t' .no) i (.ow l)) h1 vs els := by
            intro els vs hne r
            induction r with
            | nil => exact .nil
            | cons a _ ih =>
              cases a with
              | sh rv => exact .cons (.sh (st1.rep rv)) (ih fun u hu => hne u (by simpa using hu))
              | ow h3 h4 h5 =>
                rename_i t2 l2
                have hne2 : t' ≠ t2 := hne t2 (by simp)
                have hi2 : t2 ≠ i := by rintro rfl; rw [vw.n] at h3; cases h3
                have q : RepE fr (α.put i (α.ad t')) (upd (upd σ t' .no) i (.ow l)) h1 (.ref ((α.put i (α.ad t')).ad t2)) (.ow t2) := .ow h3 h4 (by rw [upd_ne _ _ hi2, upd_ne _ _ (Ne.symm hne2)]; exact h5)
                rw [put_ne _ _ hi2] at q
                exact .cons q (ih fun u hu => hne u (by simp [hu]))
          exact key els vs hd1 r
end
end Mine
end

section
open PySem PySem.W PyProof.Rows PySem.Calls
set_option autoImplicit false
namespace Mine

/-- targets that are names -/
inductive TgE : List Expr → List (Nat × Str) → Prop
  | nil : TgE [] []
  | cons {x : Str} {p : Pos} {i : Nat} {es : List Expr} {tg : List (Nat × Str)} : TgE es tg → TgE (.Name x p :: es) ((i, x) :: tg)

theorem TgE.len {es : List Expr} {tg : List (Nat × Str)} (h : TgE es tg) (env : Env) : (assignEach es env).length = tg.length := by
  induction h with
  | nil => rfl
  | cons _ ih => show (_ :: assignEach _ env).length = _; simp [ih]
theorem TgE.star {es : List Expr} {tg : List (Nat × Str)} (h : TgE es tg) (env : Env) : (assignEach es env).findIdx? (·.1) = none := by
  induction h with
  | nil => rfl
  | cons _ ih => show (((false, _) : Bool × (Value → Sem Unit)) :: assignEach _ env).findIdx? (·.1) = none; rw [List.findIdx?_cons]; simp [ih]
theorem TgE.at {es : List Expr} {tg : List (Nat × Str)} (h : TgE es tg) (env : Env) : ∀ (i : Nat) (t : Value → Sem Unit) (p : Nat × Str), ((assignEach es env).map (·.2))[i]? = some t → tg[i]? = some p → ∃ pos, t = assign (.Name p.2 pos) env := by
  induction h with
  | nil => intro i t p h1; exact absurd (show ([] : List (Value → Sem Unit))[i]? = some t from h1) (by simp)
  | cons hh ih =>
    rename_i x ps j es tg
    intro i t p h1 h2
    have e : assignEach (.Name x ps :: es) env = (false, assign (.Name x ps) env) :: assignEach es env := rfl
    rw [e] at h1
    cases i with
    | zero =>
      simp only [List.map_cons, List.getElem?_cons_zero, Option.some.injEq] at h1 h2
      subst h1; subst h2
      exact ⟨ps, rfl⟩
    | succ i => exact ih i t p (by simpa using h1) (by simpa using h2)

noncomputable def yTup (is : List Nat) (X : EvE) : Ex := fun σ => (X σ).bind fun p => (bindE (is.zip p.1) p.2).map fun τ => (.nxt, τ)
noncomputable def ySwp (is : List Nat) (X : EvE) : Ex := fun σ => (X σ).bind fun p => (bindE (is.zip p.1.reverse) p.2).map fun τ => (.nxt, τ)
noncomputable def elsOf : D → Option (List El)
  | .list l => some (l.map .sh)
  | .tup l => some (l.map .sh)
  | _ => none
noncomputable def yUnp (is : List Nat) (F : Ev) : Ex := fun σ => (F σ).bind fun p => (elsOf p.1).bind fun els => if els.length = is.length then (bindE (is.zip els) p.2).map fun τ => (.nxt, τ) else none

noncomputable def slots (els : List El) : List Nat := els.filterMap fun | .ow t => some t | _ => none

theorem RepEs.append {fr : Fm} {α : Al} {σ : St} {h : Heap} {vs ws : List Value} {es fs : List El} (a : RepEs fr α σ h vs es) (b : RepEs fr α σ h ws fs) : RepEs fr α σ h (vs ++ ws) (es ++ fs) := by
  induction a with
  | nil => exact b
  | cons x _ ih => exact .cons x ih
theorem RepEs.reverse {fr : Fm} {α : Al} {σ : St} {h : Heap} {vs : List Value} {es : List El} (a : RepEs fr α σ h vs es) : RepEs fr α σ h vs.reverse es.reverse := by
  induction a with
  | nil => exact .nil
  | cons x _ ih => simpa using ih.append (.cons x .nil)

section
variable {prog : Program} {w : World} {fr : Fm}

theorem extBut_kp {h h' : Heap} (e : Heap.ExtBut h.objs.size h h') : Kp h h' := fun b o q => e b o (Nat.ne_of_lt (Heap.lt_size q)) q

/-- a written tuple goes to names; the stores come from behind -/
theorem SS.swp (ok : FOk fr) {elts es : List Expr} {k1 k2 : Nat} {tpos vpos pos : Pos} {tg : List (Nat × Str)} {X : EvE} (ht : ∀ p ∈ tg, VW fr p.1 p.2) (hX : SX prog w fr es X) (hlen : es.length = tg.length) (hz : es.length ≤ 1000)
    (hd : ∀ σ els σ', X σ = some (els, σ') → (slots els.reverse).Nodup)
    (hs : ∀ env, swapsWithSole [.Tuple elts k1 tpos] (.Tuple es k2 vpos) pos.line env = pure false)
    (hw : swappedStores [.Tuple elts k1 tpos] (.Tuple es k2 vpos) fr.env = pure (some (tg.map (·.2)))) :
    SS prog w fr (.Assign [.Tuple elts k1 tpos] (.Tuple es k2 vpos) pos) (ySwp (tg.map (·.1)).reverse X) := by
  rintro σ fl σ' hF α s Q E I k
  simp only [ySwp, Option.bind_eq_some_iff, Option.map_eq_some_iff] at hF
  obtain ⟨⟨els, σ1⟩, e1, τ, e2, e3⟩ := hF
  cases e3
  refine Assign_Tuple_swapped ?_ (hs _) hw
  refine Tuple_ (hX σ els σ1 e1 α s _ _ _ I fun vs α1 h1 t1 a1 I1 st1 hk1 r1 hl => ?_)
  have hvl := r1.length
  refine wpAny_newTuple ?_ (by rw [sizeLine_eq]; (first | lia | omega))
  have hT : IsTup (h1.push (tpl vs 0)) h1.objs.size vs.toArray := tpl_isTup (Heap.get?_push_size _ rfl)
  have hn : (tg.map (·.2)).length = vs.toArray.size := by simp; (first | lia | omega)
  rw [hn]
  refine unpackItems_tuple ok.hh hT fun h2 he => ?_
  have kp2 : Kp h1 h2 := (Kp.push _ _).trans (extBut_kp he)
  have I2 := I1.kp kp2
  refine bind_go ok (tg := tg.reverse) (els := els.reverse) (σ' := σ') (fun p hp => ht p (by simpa using hp)) (by simp) ?_ (by simp; (first | lia | omega)) ((r1.go (Stp.kp kp2) (Evo.refl _).hk).reverse) (by rw [List.map_reverse]; exact e2) (hd _ _ _ e1) I2
    (fun α' h' t' a' I' st' => k .next α' h' t' (a'.trans a1) I' ((st1.trans (Stp.kp kp2)).trans st') trivial)
  intro i t p h3 h4 v s Q E h5
  rw [← List.map_reverse, List.map_map] at h3
  simp only [List.getElem?_map, h4, Option.map_some, Option.some.injEq, Function.comp_apply] at h3
  subst h3
  exact wpAny_bindName h5

theorem unpack_go (ok : FOk fr) {elts : List Expr} {k1 : Nat} {tpos : Pos} {tg : List (Nat × Str)} {els : List El} {vs : List Value} {v : Value} {α : Al} {σ σ' : St} {s : Shared} {Q : Unit → Shared → Prop} {E : Value → Shared → Prop} (hT : TgE elts tg) (ht : ∀ p ∈ tg, VW fr p.1 p.2)
    (hv : ∃ a, v = .ref a ∧ (s.heap.IsList a vs.toArray ∨ IsTup s.heap a vs.toArray)) (hz : tg.length = els.length) (r : RepEs fr α σ s.heap vs els) (hb : bindE ((tg.map (·.1)).zip els) σ = some σ') (hd : (slots els).Nodup) (I : Inv fr α σ s.heap)
    (k : ∀ α' h' tk', α'.its = α.its → Inv fr α' σ' h' → Stp fr α σ s.heap α' σ' h' → Q () { s with heap := h', toks := tk' }) : wpAny (model prog w) fr.A (assign (.Tuple elts k1 tpos) fr.env v) Q E s := by
  obtain ⟨a, rfl, hl⟩ := hv
  have hn : (assignEach elts fr.env).length = vs.toArray.size := by rw [hT.len, hz, ← r.length]; simp
  have fin : ∀ h', Heap.ExtBut s.heap.objs.size s.heap h' → wpAny (model prog w) fr.A (assignInOrder ((assignEach elts fr.env).map (·.2)) vs.toArray.toList) Q E { s with heap := h' } := fun h' he => by
    have kp := extBut_kp he
    refine bind_go ok (s := { s with heap := h' }) ht (by rw [List.length_map]; exact hT.len _) ?_ hz (r.go (Stp.kp kp) (Evo.refl _).hk) hb hd (I.kp kp) (fun α' h2 t' a' I' st' => k α' h2 t' a' I' ((Stp.kp kp).trans st'))
    intro i t p h3 h4 v s Q E h5
    obtain ⟨ps, rfl⟩ := hT.at fr.env i t p h3 h4
    exact PyProof.Rows.assign_Name h5
  rw [PyProof.Rows.assign_Tuple]
  refine wpAny_bind (wpAny_standAt ?_)
  unfold unpack
  rw [hn, hT.star]
  refine wpAny_bind (wpAny_holding ?_)
  rcases hl with hl | hl
  · exact kun_itemsOf ok.hh hl fin
  · exact unpackItems_tuple ok.hh hl fin

/-- a written tuple goes to names, from the first on -/
theorem SS.tup (ok : FOk fr) {elts es : List Expr} {k1 k2 : Nat} {tpos vpos pos : Pos} {tg : List (Nat × Str)} {X : EvE} (hT : TgE elts tg) (ht : ∀ p ∈ tg, VW fr p.1 p.2) (hX : SX prog w fr es X) (hlen : es.length = tg.length) (hz : es.length ≤ 1000)
    (hd : ∀ σ els σ', X σ = some (els, σ') → (slots els).Nodup)
    (hs : ∀ env, swapsWithSole [.Tuple elts k1 tpos] (.Tuple es k2 vpos) pos.line env = pure false)
    (hw : swappedStores [.Tuple elts k1 tpos] (.Tuple es k2 vpos) fr.env = pure none) :
    SS prog w fr (.Assign [.Tuple elts k1 tpos] (.Tuple es k2 vpos) pos) (yTup (tg.map (·.1)) X) := by
  rintro σ fl σ' hF α s Q E I k
  simp only [yTup, Option.bind_eq_some_iff, Option.map_eq_some_iff] at hF
  obtain ⟨⟨els, σ1⟩, e1, τ, e2, e3⟩ := hF
  cases e3
  refine PyProof.Rows.Assign_Tuple ?_ (hs _) hw
  refine Tuple_ (hX σ els σ1 e1 α s _ _ _ I fun vs α1 h1 t1 a1 I1 st1 hk1 r1 hl => ?_)
  have hvl := r1.length
  refine wpAny_newTuple ?_ (by rw [sizeLine_eq]; (first | lia | omega))
  have kp2 : Kp h1 (h1.push (tpl vs 0)) := Kp.push _ _
  refine unpack_go ok (vs := vs) hT ht ⟨_, rfl, .inr (tpl_isTup (Heap.get?_push_size _ rfl))⟩ (by (first | lia | omega)) (r1.go (Stp.kp kp2) (Evo.refl _).hk) e2 (hd _ _ _ e1) (I1.kp kp2)
    (fun α' h' t' a' I' st' => k .next α' h' t' (a'.trans a1) I' ((st1.trans (Stp.kp kp2)).trans st') trivial)

theorem slots_sh (l : List D) : slots (l.map .sh) = [] := by
  induction l with
  | nil => rfl
  | cons x l ih => simpa [slots] using ih

/-- a value's items go to names -/
theorem SS.unp (ok : FOk fr) {elts : List Expr} {e : Expr} {k1 : Nat} {tpos pos : Pos} {tg : List (Nat × Str)} {F : Ev} (hT : TgE elts tg) (ht : ∀ p ∈ tg, VW fr p.1 p.2) (hF : SE prog w fr e F)
    (hs : ∀ env, swapsWithSole [.Tuple elts k1 tpos] e pos.line env = pure false)
    (hw : ∀ env, swappedStores [.Tuple elts k1 tpos] e env = pure none) :
    SS prog w fr (.Assign [.Tuple elts k1 tpos] e pos) (yUnp (tg.map (·.1)) F) := by
  rintro σ fl σ' hF' α s Q E I k
  simp only [yUnp, Option.bind_eq_some_iff] at hF'
  obtain ⟨⟨d, σ1⟩, e1, els, e2, e3⟩ := hF'
  split at e3
  · rename_i hz
    simp only [Option.map_eq_some_iff] at e3
    obtain ⟨τ, e4, e5⟩ := e3
    cases e5
    refine PyProof.Rows.Assign_Tuple ?_ (hs _) (hw _)
    refine hF σ d σ1 e1 α s _ _ I fun v h1 t1 ev1 I1 st1 r1 => ?_
    cases r1 with
    | list hp he l =>
      cases e2
      exact unpack_go ok hT ht ⟨_, rfl, .inl (lst_isList he)⟩ (by simpa using hz.symm) l.es e4 (by rw [slots_sh]; exact .nil) I1
        (fun α' h' t' a' I' st' => k .next α' h' t' a' I' (st1.trans st') trivial)
    | tup hp he l =>
      cases e2
      exact unpack_go ok hT ht ⟨_, rfl, .inr (tpl_isTup he)⟩ (by simpa using hz.symm) l.es e4 (by rw [slots_sh]; exact .nil) I1
        (fun α' h' t' a' I' st' => k .next α' h' t' a' I' (st1.trans st') trivial)
    | _ => cases e2
  · cases e3
end

/-! ### Stores into a held list -/
noncomputable def ySetO (i t : Nat) (F : EvL) : Ex := fun σ => (F σ).bind fun p => (no? (p.2 t)).map fun _ => (.nxt, upd (upd (upd p.2 t (.ow p.1)) t .no) i (.ow p.1))
noncomputable def yAt (i : Nat) (F G : Ev) : Ex := fun σ => (F σ).bind fun p => (own? (p.2 i)).bind fun _ => (G p.2).bind fun q => (own? (q.2 i)).bind fun l => match q.1 with
  | .int k => if 0 ≤ k ∧ k < l.length ∧ l.length ≤ 1048576 then some (.nxt, upd q.2 i (.ow (l.set k.toNat p.1))) else none
  | _ => none
noncomputable def yAugAt (i : Nat) (f : D → D → Option D) (G F : Ev) : Ex := fun σ => (own? (σ i)).bind fun _ => (G σ).bind fun q => (own? (q.2 i)).bind fun l => (nthD (.list l) q.1).bind fun old => (F q.2).bind fun p => (f old p.1).bind fun new => (own? (p.2 i)).bind fun l2 => match q.1 with
  | .int k => if 0 ≤ k ∧ k < l2.length ∧ l2.length ≤ 1048576 then some (.nxt, upd p.2 i (.ow (l2.set k.toNat new))) else none
  | _ => none
noncomputable def yApp (i : Nat) (F : Ev) : Ex := fun σ => (own? (σ i)).bind fun _ => (F σ).bind fun p => (own? (p.2 i)).bind fun l => if l.length ≤ 1048576 then some (.nxt, upd p.2 i (.ow (l ++ [p.1]))) else none

section
variable {prog : Program} {w : World} {fr : Fm}

theorem SS.setO (ok : FOk fr) {x : Str} {p pos : Pos} {e : Expr} {i t : Nat} {F : EvL} (vw : VW fr i x) (ht : fr.names[t]? = none) (htb : t ≠ fr.bi) (h : SF prog w fr e F) (hs : ∀ env, swapsWith e (some (.Name x p)) pos.line env = pure false) : SS prog w fr (.Assign [.Name x p] e pos) (ySetO i t F) := by
  rintro σ fl σ' hF α s Q E I k
  simp only [ySetO, Option.bind_eq_some_iff, Option.map_eq_some_iff] at hF
  obtain ⟨⟨d, σ1⟩, e1, u, hno, e2⟩ := hF
  cases e2
  replace hno : σ1 t = .no := no?_eq hno
  refine wpAny_Assign_Name (h σ d σ1 e1 α s _ _ I fun ad vs n q1 q2 t1 ev1 I1 st1 kp ha ho r1 => ?_) (hs _)
  obtain ⟨I2, st2⟩ := I1.hold ht htb hno kp ha ho r1
  refine store_ ok I2.ns I2.cells vw.k fun h3 t3 S => ?_
  have S' : Stored fr q2 x (.ref ((α.put t ad).ad t)) h3 := by rw [put_self]; exact S
  obtain ⟨I3, st3⟩ := I2.store_ow ok vw.n vw.b htb ht (upd_self ..) S'
  exact k .next ((α.put t ad).put i ((α.put t ad).ad t)) h3 t3 rfl I3 ((st1.trans st2).trans st3) trivial

theorem set_arr (vs : List Value) (k : Nat) (v : Value) : vs.toArray.setIfInBounds k v = (vs.set k v).toArray := by
  apply Array.toList_inj.mp; simp

theorem set_go {α : Al} {σ : St} {s : Shared} {Q : Unit → Shared → Prop} {E : Value → Shared → Prop} {i : Nat} {l : List D} {k : Int} {t : Tok} {v : Value} {d : D} (I : Inv fr α σ s.heap) (hl : σ i = .ow l) (h0 : 0 ≤ k) (h1 : k < l.length) (h2 : l.length ≤ 1048576) (r : Rep s.heap (Pr fr α σ) v d)
    (kk : ∀ h', Inv fr α (upd σ i (.ow (l.set k.toNat d))) h' → Stp fr α σ s.heap α (upd σ i (.ow (l.set k.toNat d))) h' → Evo fr σ (upd σ i (.ow (l.set k.toNat d))) → Q () { s with heap := h' }) : wpAny (model prog w) fr.A (setItem (.ref (α.ad i)) (.int k t) v) Q E s := by
  obtain ⟨_, vs, n, ho, rl⟩ := I.own i l hl
  have hlen := rl.length
  refine ki_setAt ho h0 (by (first | lia | omega)) (by simp; (first | lia | omega)) ?_
  have ho' : (s.heap.update (α.ad i) (Obj.mapSeq (·.setIfInBounds k.toNat v))).get? (α.ad i) = some (lst (vs.set k.toNat v) n) := by
    have := get?_update_seq ho (fun xs => xs.setIfInBounds k.toNat v)
    rw [this, set_arr]
    simp
  have hs : ∀ b o, b ≠ α.ad i → s.heap.get? b = some o → (s.heap.update (α.ad i) (Obj.mapSeq (·.setIfInBounds k.toNat v))).get? b = some o := fun b o hb e => (Heap.get?_update_other _ _ (Ne.symm hb)).trans e
  obtain ⟨I2, st2, ev2⟩ := I.turn hl hs ho' ((rl.set r k.toNat).mono fun b o p e => ⟨p, hs b o (p.own i l hl) e⟩)
  exact kk _ I2 st2 ev2

theorem at_inv {di x : D} {i : Nat} {l : List D} {σ2 σ' : St} {fl : Fl} (h : (match di with | .int k => if 0 ≤ k ∧ k < l.length ∧ l.length ≤ 1048576 then some (Fl.nxt, upd σ2 i (.ow (l.set k.toNat x))) else none | _ => none) = some (fl, σ')) : ∃ k, di = .int k ∧ (0 ≤ k ∧ k < l.length ∧ l.length ≤ 1048576) ∧ fl = .nxt ∧ σ' = upd σ2 i (.ow (l.set k.toNat x)) := by
  split at h
  · obtain ⟨c, e⟩ := some_if h
    cases e
    exact ⟨_, rfl, c, rfl, rfl⟩
  · cases h
theorem SS.at (ok : FOk fr) {x : Str} {p pos pos' : Pos} {e ix : Expr} {i : Nat} {F G : Ev} (hx : fr.names[i]? = some x) (hn : nameOk x = true) (h : SE prog w fr e F) (hi : SE prog w fr ix G)
    (hs : ∀ env, swapsWith e (some (.Subscript (.Name x p) ix pos')) pos.line env = pure false) : SS prog w fr (.Assign [.Subscript (.Name x p) ix pos'] e pos) (yAt i F G) := by
  rintro σ fl σ' hF α s Q E I k
  simp only [yAt, Option.bind_eq_some_iff] at hF
  obtain ⟨⟨d, σ1⟩, e1, l1, hl1, ⟨di, σ2⟩, e2, l, hl, e3⟩ := hF
  replace hl1 : σ1 i = .ow l1 := own?_eq hl1
  replace hl : σ2 i = .ow l := own?_eq hl
  obtain ⟨kk, rfl, hc, rfl, rfl⟩ := at_inv e3
  refine wpAny_Assign_Subscript (h σ d σ1 e1 α s _ _ I fun v h1 t1 ev1 I1 st1 r1 => ?_) (hs _)
  refine wpAny_Name (load_look ok.kind (I1.ovar i x hx l1 hl1) ?_ (nameOk_2 hn)) (nameOk_1 hn)
  refine hi σ1 _ σ2 e2 α _ _ _ I1 fun vi h2 t2 ev2 I2 st2 r2 => ?_
  obtain ⟨tt, rfl⟩ := r2.int_inv
  exact set_go (s := { s with heap := h2, toks := t2 }) I2 hl hc.1 hc.2.1 hc.2.2 (st2.rep r1) fun h3 I3 st3 ev3 => k .next α h3 t2 rfl I3 ((st1.trans st2).trans st3) trivial

theorem getItem_own {α : Al} {σ : St} {s : Shared} {Q E : Value → Shared → Prop} {i : Nat} {l : List D} {v : Value} {di old : D} (I : Inv fr α σ s.heap) (hl : σ i = .ow l) (ri : Rep s.heap (Pr fr α σ) v di) (hd : nthD (.list l) di = some old)
    (k : ∀ x, Rep s.heap (Pr fr α σ) x old → Q x s) : wpAny (model prog w) fr.A (getItem (.ref (α.ad i)) v) Q E s := by
  obtain ⟨_, vs, n, ho, rl⟩ := I.own i l hl
  have hlen := rl.length
  cases nthD_inv hd with
  | pos e1 e2 hz h0 hq =>
    cases e1; subst e2
    obtain ⟨t, rfl⟩ := ri.int_inv
    obtain ⟨x, hx, rx⟩ := rl.get hq
    have hlt := (List.getElem?_eq_some_iff.mp hx).1
    exact wpAny_getItem_list (lst_isList ho) h0 (by (first | lia | omega)) (by simpa using hx) (k x rx)
  | neg e1 e2 hz h0 h1 hq =>
    cases e1; subst e2
    obtain ⟨t, rfl⟩ := ri.int_inv
    obtain ⟨x, hx, rx⟩ := rl.get hq
    have hz' : vs.toArray.size = l.length := by simp [hlen]
    exact wpAny_getItem_list_neg (lst_isList ho) (by (first | lia | omega)) (by (first | lia | omega)) (by (first | lia | omega)) (by rw [hz']; simpa using hx) (k x rx)
  | tup e1 _ _ _ _ => cases e1

theorem SS.augAt (ok : FOk fr) {x : Str} {p pos pos' : Pos} {e ix : Expr} {op : Operator} {i : Nat} {F G : Ev} {f : D → D → Option D} (hx : fr.names[i]? = some x) (hn : nameOk x = true) (hi : SE prog w fr ix G) (h : SE prog w fr e F)
    (hf : ∀ s P va vb a b d, Rep s.heap P va a → Rep s.heap P vb b → f a b = some d → Giv prog w fr.A (inplaceOp op va vb) s P d)
    (ha : ∀ ov iv new, augStore ix ov iv new = (do holding [new, ov, iv] (setItem ov iv new); release [new, ov, iv] []; pure .next)) : SS prog w fr (.AugAssign (.Subscript (.Name x p) ix pos') op e pos) (yAugAt i f G F) := by
  rintro σ fl σ' hF α s Q E I k
  simp only [yAugAt, Option.bind_eq_some_iff] at hF
  obtain ⟨l0, hl0, ⟨di, σ1⟩, e1, l, hl, old, ho, ⟨b, σ2⟩, e2, new, e3, l2, hl2, e4⟩ := hF
  replace hl0 : σ i = .ow l0 := own?_eq hl0
  replace hl : σ1 i = .ow l := own?_eq hl
  replace hl2 : σ2 i = .ow l2 := own?_eq hl2
  obtain ⟨kk, rfl, hc, rfl, rfl⟩ := at_inv e4
  refine wpAny_AugAssign_SubscriptAny ?_ ha
  refine wpAny_Name (load_look ok.kind (I.ovar i x hx l0 hl0) ?_ (nameOk_2 hn)) (nameOk_1 hn)
  refine hi σ _ σ1 e1 α _ _ _ I fun vi h1 t1 ev1 I1 st1 r1 => ?_
  refine getItem_own (s := { s with heap := h1, toks := t1 }) I1 hl r1 ho fun vo ro => ?_
  refine h σ1 b σ2 e2 α _ _ _ I1 fun vb h2 t2 ev2 I2 st2 r2 => ?_
  refine hf _ _ _ _ _ _ _ (st2.rep ro) r2 e3 _ _ fun vn h3 t3 kp r3 => ?_
  obtain ⟨tt, rfl⟩ := r1.int_inv
  exact set_go (s := { s with heap := h3, toks := t3 }) (I2.kp kp) hl2 hc.1 hc.2.1 hc.2.2 (rep_join I2 r3) fun h4 I4 st4 ev4 => k .next α h4 t3 rfl I4 (((st1.trans st2).trans (Stp.kp kp)).trans st4) trivial

theorem app_arr (vs : List Value) (v : Value) : vs.toArray.push v = (vs ++ [v]).toArray := by simp

theorem SS.app (ok : FOk fr) {x : Str} {p ap cp pos : Pos} {e : Expr} {i : Nat} {F : Ev} {pl : Env → Sem Bool} (hx : fr.names[i]? = some x) (hn : nameOk x = true) (h : SE prog w fr e F)
    (hi : interactive fr.env = false) (hs : ∀ env, swapsWith (.Call (.Attribute (.Name x p) "append" ap) [e] [] cp) none pos.line env = pure false)
    (he : ∀ env, eval (.Call (.Attribute (.Name x p) "append" ap) [e] [] cp) env = (do
      let ov ← eval (.Name x p) env
      standAt ap.atName
      let (f, first) ← holding [ov] (getMethod ov "append" (pl env))
      callWith cp f first (backTo cp (starEach [e] env)) []))
    (hst : ∀ env, starEach [e] env = [(false, eval e env)]) :
    SS prog w fr (.Expr (.Call (.Attribute (.Name x p) "append" ap) [e] [] cp) pos) (yApp i F) := by
  rintro σ fl σ' hF α s Q E I k
  simp only [yApp, Option.bind_eq_some_iff] at hF
  obtain ⟨l0, hl0, ⟨d, σ1⟩, e1, l, hl, e2⟩ := hF
  replace hl0 : σ i = .ow l0 := own?_eq hl0
  replace hl : σ1 i = .ow l := own?_eq hl
  split at e2
  · rename_i hc
    cases e2
    refine wpAny_Expr ?_ hi (hs _)
    refine MethodCall_ (pl := pl fr.env) ?_ (he _)
    obtain ⟨_, vs0, n0, ho0, _⟩ := I.own i l0 hl0
    refine wpAny_Name (load_look ok.kind (I.ovar i x hx l0 hl0) ?_ (nameOk_2 hn)) (nameOk_1 hn)
    refine getMethod_list_append ho0 rfl rfl ?_
    refine callWith_method1 ?_ (hst _) (by rfl)
    refine args_cons (h σ d σ1 e1 α s _ _ I fun v h1 t1 ev1 I1 st1 r1 => args_nil ?_) (hst _)
    obtain ⟨_, vs, n, ho, rl⟩ := I1.own i l hl
    have hlen := rl.length
    refine wpAny_list_append_plain (items := vs.toArray) ⟨n, ho⟩ (fun h2 hp hs2 => ?_) (by simp [sizeLine_eq]; (first | lia | omega))
    obtain ⟨n', hp⟩ := hp
    rw [app_arr] at hp
    have hs : ∀ b o, b ≠ α.ad i → h1.get? b = some o → h2.get? b = some o := fun b o hb e => (hs2.2 b hb).trans e
    obtain ⟨I2, st2, ev2⟩ := I1.turn (l' := l ++ [d]) hl hs hp ((rl.append (.cons r1 .nil)).mono fun b o q e => ⟨q, hs b o (q.own i l hl) e⟩)
    exact k .next α h2 t1 rfl I2 (st1.trans st2) trivial
  · cases e2
end
end Mine
end

section
open PySem PySem.W PyProof.Rows PySem.Calls
set_option autoImplicit false
namespace Mine

/-- a target: one name, or a pair of names -/
inductive TgT : Nat → Expr → List (Nat × Str) → Prop
  | one {x : Str} {p : Pos} {i : Nat} : TgT 1 (.Name x p) [(i, x)]
  | two {elts : List Expr} {tg : List (Nat × Str)} {k : Nat} {pos : Pos} : TgE elts tg → tg.length = 2 → TgT 2 (.Tuple elts k pos) tg

/-- an iterator I at work (it turns wr alone): row by row -/
structure GWk (prog : Program) (w : World) (A : Around) (I : Addr) (wr : List Addr) (n : Nat) (rows : List (List D)) (J : (Addr → Prop) → Nat → Heap → Prop) : Prop where
  mono : ∀ {P P' : Addr → Prop} {k : Nat} {h h' : Heap}, J P k h → (∀ b o, P b → h.get? b = some o → P' b ∧ h'.get? b = some o) → (∀ b ∈ wr, ∀ o, h.get? b = some o → h'.get? b = some o) → J P' k h'
  done : ∀ {P : Addr → Prop} {s : Shared} {Q : Option Value → Shared → Prop} {E : Value → Shared → Prop}, J P rows.length s.heap →
    (∀ h' tk', (∀ b o, b ∉ wr → s.heap.get? b = some o → h'.get? b = some o) → Q none { s with heap := h', toks := tk' }) → wpAny (model prog w) A (pyNext (.ref I)) Q E s
  self : ∀ {P : Addr → Prop} {k : Nat} {s : Shared} {Q : Value → Shared → Prop} {E : Value → Shared → Prop}, J P k s.heap → Q (.ref I) s → wpAny (model prog w) A (pyIter (.ref I)) Q E s
  next : ∀ {fr : Fm} {target : Expr} {tg : List (Nat × Str)}, FOk fr → fr.A = A → TgT n target tg → (∀ p ∈ tg, VW fr p.1 p.2) →
    ∀ {k : Nat} {ds : List D}, rows[k]? = some ds → ∀ {α : Al} {σ τ : St} {s : Shared} {Q : Unit → Shared → Prop} {E : Value → Shared → Prop}, J (Pr fr α σ) k s.heap → Inv fr α σ s.heap → (∀ b ∈ wr, b ∈ α.its) →
    bindE ((tg.map (·.1)).zip (ds.map .sh)) σ = some τ →
    (∀ α' h' tk', α'.its = α.its → Inv fr α' τ h' → Stp0 fr α σ s.heap α' τ h' → (∀ b ∈ α.its, b ∉ wr → ∀ o, s.heap.get? b = some o → h'.get? b = some o) → J (Pr fr α' τ) (k + 1) h' → Q () { s with heap := h', toks := tk' }) →
    wpAny (model prog w) A (pyNext (.ref I)) (fun r s₁ => ∃ v, r = some v ∧ wpAny (model prog w) A (letOwnedTupleGo target (.ref I) v) (fun _ s₂ => wpAny (model prog w) A (assign target fr.env v) Q E s₂) E s₁) E s

section
variable {prog : Program} {w : World} {A : Around} {fr : Fm}

/-- what the iterator turns is set apart: the rest stays -/
theorem Inv.item {α : Al} {σ : St} {h h' : Heap} {wr : List Addr} (I : Inv fr α σ h) (hw : ∀ b ∈ wr, b ∈ α.its) (hk : ∀ b o, b ∉ wr → h.get? b = some o → h'.get? b = some o) (hs : ∀ b ∈ wr, ∃ o, h'.get? b = some o) :
    Inv fr α σ h' ∧ Stp0 fr α σ h α σ h' ∧ ∀ b ∈ α.its, b ∉ wr → ∀ o, h.get? b = some o → h'.get? b = some o := by
  obtain ⟨I', st⟩ := I.work (fun b o hb e => hk b o (fun hc => hb (hw b hc)) e) (fun b hb => by
    by_cases hc : b ∈ wr
    · exact hs b hc
    · obtain ⟨⟨o, e⟩, _⟩ := I.its b hb
      exact ⟨o, hk b o hc e⟩)
  exact ⟨I', st, fun b _ hb o e => hk b o hb e⟩

/-- J of an iterator told by the library's Walks -/
noncomputable def JW (fp wr : List Addr) (Pw : Nat → Value → Prop) (St : Nat → Heap → Prop) (items : List D) (P : Addr → Prop) (k : Nat) (h : Heap) : Prop :=
  St k h ∧ (∀ b ∈ fp, b ∈ wr ∨ (P b ∧ ∃ o, h.get? b = some o)) ∧ ∀ i v d, items[i]? = some d → Pw i v → Rep h P v d

theorem JW.mono {fp wr : List Addr} {Pw : Nat → Value → Prop} {St : Nat → Heap → Prop} {items : List D} {n : Nat} {I : Addr} (W : Walks prog w A I fp wr n Pw St) {P P' : Addr → Prop} {k : Nat} {h h' : Heap} (j : JW fp wr Pw St items P k h)
    (hp : ∀ b o, P b → h.get? b = some o → P' b ∧ h'.get? b = some o) (hw : ∀ b ∈ wr, ∀ o, h.get? b = some o → h'.get? b = some o) : JW fp wr Pw St items P' k h' := by
  obtain ⟨h1, h2, h3⟩ := j
  refine ⟨W.frame k h h' h1 fun b hb o e => ?_, fun b hb => ?_, fun i v d hd hv => (h3 i v d hd hv).mono hp⟩
  · rcases h2 b hb with q | ⟨q, _⟩
    · exact hw b q o e
    · exact (hp b o q e).2
  · rcases h2 b hb with q | ⟨q, o, e⟩
    · exact .inl q
    · exact .inr ⟨(hp b o q e).1, o, (hp b o q e).2⟩

theorem zip_one {i : Nat} {d : D} {σ τ : St} (h : bindE (([i]).zip ([d].map El.sh)) σ = some τ) : τ = upd σ i (.sh d) := by
  simpa [bindE] using h.symm

theorem gwk_walks {I : Addr} {fp wr : List Addr} {Pw : Nat → Value → Prop} {St : Nat → Heap → Prop} {items : List D} (W : Walks prog w A I fp wr items.length Pw St) (hex : ∀ k h, St k h → ∀ b ∈ wr, ∃ o, h.get? b = some o) :
    GWk prog w A I wr 1 (items.map fun d => [d]) (JW fp wr Pw St items) where
  mono := JW.mono W
  done := fun {P s Q E} j k => W.done s Q E (by simpa using j.1) fun h' tk hk => k h' tk hk
  self := fun {P k s Q E} j q => W.self k s Q E j.1 q
  next := fun {fr target tg} ok hA ht hw {k ds} hk {α σ τ s Q E} j Iv hits hb kk => by
    subst hA
    cases ht with
    | one =>
      rename_i x p i
      simp only [List.getElem?_map, Option.map_eq_some_iff] at hk
      obtain ⟨d, hd, rfl⟩ := hk
      have hlt : k < items.length := (List.getElem?_eq_some_iff.mp hd).1
      have vw := hw (i, x) (by simp)
      cases zip_one hb
      refine W.item k s _ _ hlt j.1 fun v h' tk pv st' hk' => ⟨v, rfl, ?_⟩
      refine wpAny_pure ?_
      obtain ⟨I1, st1, hi1⟩ := Iv.item hits hk' (hex _ _ st')
      have rv : Rep h' (Pr fr α σ) v d := st1.rep (j.2.2 k v d hd pv)
      refine PyProof.Rows.assign_Name (store_ ok I1.ns I1.cells vw.k fun h2 t2 S => ?_)
      obtain ⟨I2, st2⟩ := I1.store_sh ok vw.n vw.b S rv
      refine kk α h2 t2 rfl I2 (st1.trans st2.pr) (fun b hb hnb o e => (st2.it b hb).2 o (hi1 b hb hnb o e)) ?_
      have j' : JW fp wr Pw St items (Pr fr α σ) (k + 1) h' := by
        refine ⟨st', fun b hb => ?_, fun i v d hd hv => st1.rep (j.2.2 i v d hd hv)⟩
        rcases j.2.1 b hb with q | ⟨q, o, e⟩
        · exact .inl q
        · by_cases hc : b ∈ wr
          · exact .inl hc
          · exact .inr ⟨q, o, hk' b o hc e⟩
      exact j'.mono W st2.pr fun b hb o e => (st2.it b (hits b hb)).2 o e

/-- the class of an iterator that owns no tuple -/
theorem letGo_none {s : Shared} {Q : Unit → Shared → Prop} {E : Value → Shared → Prop} {elts : List Expr} {k : Nat} {pos : Pos} {I l : Addr} {i : Nat} {v : Value} (h : s.heap.IsListIter I l i) (q : Q () s) :
    wpAny (model prog w) A (letOwnedTupleGo (.Tuple elts k pos) (.ref I) v) Q E s := by
  obtain ⟨o, ho, hc, hd⟩ := h
  unfold letOwnedTupleGo
  cases v with
  | ref a =>
    dsimp only
    refine wpAny_bind (wpAny_load ho ?_)
    rw [hc, hd]
    dsimp only
    have hx : (["enumerate", "zip", "map", "filter"].contains "list_iterator") = false := by decide
    simp
    exact wpAny_pure q
  | _ => exact wpAny_pure q

noncomputable def pairOf : D → Option (List D)
  | .tup [a, b] => some [a, b]
  | _ => none
noncomputable def rowsOf : List D → Option (List (List D))
  | [] => some []
  | d :: r => (pairOf d).bind fun p => (rowsOf r).map (p :: ·)
theorem pairOf_eq {d : D} {p : List D} (h : pairOf d = some p) : ∃ a b, d = .tup [a, b] ∧ p = [a, b] := by
  unfold pairOf at h
  split at h
  · cases h; exact ⟨_, _, rfl, rfl⟩
  · cases h
theorem rowsOf_get {items : List D} {rows : List (List D)} (h : rowsOf items = some rows) : items.length = rows.length ∧ ∀ (k : Nat) (p : List D), rows[k]? = some p → ∃ d, items[k]? = some d ∧ pairOf d = some p := by
  induction items generalizing rows with
  | nil => cases h; exact ⟨rfl, fun k p hp => by simp at hp⟩
  | cons d r ih =>
    simp only [rowsOf, Option.bind_eq_some_iff, Option.map_eq_some_iff] at h
    obtain ⟨p, h1, rs, h2, rfl⟩ := h
    obtain ⟨h3, h4⟩ := ih h2
    refine ⟨by simp [h3], fun k q hq => ?_⟩
    cases k with
    | zero => simp at hq; subst hq; exact ⟨d, rfl, h1⟩
    | succ k => simpa using h4 k q (by simpa using hq)

/-- a list's iterator, J -/
noncomputable abbrev JL (I l : Addr) (vs : List Value) (items : List D) := JW [I, l] [I] (fun i v => vs.toArray[i]? = some v) (fun i h => h.IsListIter I l i ∧ h.IsList l vs.toArray) items

theorem gwk_pairs (hh : A.handled = none) {I l : Addr} (hne : l ≠ I) {vs : List Value} {items : List D} {rows : List (List D)} (hr : rowsOf items = some rows) (hlen : vs.length = items.length) :
    GWk prog w A I [I] 2 rows (JL I l vs items) where
  mono := JW.mono (Walks.list (prog := prog) (w := w) hh I l hne vs.toArray)
  done := fun {P s Q E} j k => (Walks.list (prog := prog) (w := w) hh I l hne vs.toArray).done s Q E (by have := j.1; rw [← (rowsOf_get hr).1, ← hlen] at this; simpa using this) fun h' tk hk => k h' tk hk
  self := fun {P k s Q E} j q => (Walks.list (prog := prog) (w := w) hh I l hne vs.toArray).self k s Q E j.1 q
  next := fun {fr target tg} ok hA ht hw {k ds} hk {α σ τ s Q E} j Iv hits hb kk => by
    subst hA
    cases ht with
    | two hT hlen2 =>
      rename_i elts k2 pos
      obtain ⟨hz, hg⟩ := rowsOf_get hr
      obtain ⟨d, hd, hp⟩ := hg k ds hk
      obtain ⟨a, b, rfl, rfl⟩ := pairOf_eq hp
      have hlt : k < vs.toArray.size := by
        have := (List.getElem?_eq_some_iff.mp hd).1
        simp; (first | lia | omega)
      have W := Walks.list (prog := prog) (w := w) (A := fr.A) hh I l hne vs.toArray
      refine W.item k s _ _ hlt j.1 fun v h' tk pv st' hk' => ⟨v, rfl, ?_⟩
      obtain ⟨I1, st1, hi1⟩ := Iv.item hits hk' (fun b hb => by
        rw [List.mem_singleton.mp hb]
        obtain ⟨⟨o, e, _⟩, _⟩ := st'
        exact ⟨o, e⟩)
      have rv : Rep h' (Pr fr α σ) v (.tup [a, b]) := st1.rep (j.2.2 k v _ hd pv)
      refine letGo_none st'.1 ?_
      obtain ⟨_, _, _, rfl, pa, ea, la⟩ := rv.tup_inv
      refine unpack_go (s := { s with heap := h', toks := tk }) ok hT hw ⟨_, rfl, .inr (tpl_isTup ea)⟩ (by simpa using hlen2) la.es hb (by rw [slots_sh]; exact .nil) I1 fun α' h2 t2 a2 I2 st2 => ?_
      refine kk α' h2 t2 a2 I2 (st1.trans st2.pr) (fun b hb hnb o e => (st2.it b hb).2 o (hi1 b hb hnb o e)) ?_
      have j' : JL I l vs items (Pr fr α σ) (k + 1) h' := by
        refine ⟨st', fun b hb => ?_, fun i v d hd hv => st1.rep (j.2.2 i v d hd hv)⟩
        rcases j.2.1 b hb with q | ⟨q, o, e⟩
        · exact .inl q
        · by_cases hc : b ∈ [I]
          · exact .inl hc
          · exact .inr ⟨q, o, hk' b o hc e⟩
      exact j'.mono W st2.pr fun b hb o e => (st2.it b (hits b hb)).2 o e

/-- J of an iterator of pairs told by the library's WalksT -/
noncomputable def JT (fp wr : List Addr) (Pt : Nat → Array Value → Prop) (St : Nat → Heap → Prop) (rows : List (List D)) (P : Addr → Prop) (k : Nat) (h : Heap) : Prop :=
  St k h ∧ (∀ b ∈ fp, b ∈ wr ∨ (P b ∧ ∃ o, h.get? b = some o)) ∧ ∀ i vals ds, rows[i]? = some ds → Pt i vals → RepL h P vals.toList ds

theorem gwk_walksT {I : Addr} {fp wr : List Addr} {Pt : Nat → Array Value → Prop} {St : Nat → Heap → Prop} {Mid : Nat → Addr → Heap → Prop} {rows : List (List D)} (W : WalksT prog w A I fp wr rows.length Pt St Mid) (hex : ∀ k h, St k h → ∀ b ∈ wr, ∃ o, h.get? b = some o)
    (h2 : ∀ ds ∈ rows, ds.length = 2) :
    GWk prog w A I wr 2 rows (JT fp wr Pt St rows) where
  mono := fun {P P' k h h'} j hp hw => by
    obtain ⟨h1, h2, h3⟩ := j
    refine ⟨W.frame k h h' h1 fun b hb o e => ?_, fun b hb => ?_, fun i v d hd hv => (h3 i v d hd hv).mono hp⟩
    · rcases h2 b hb with q | ⟨q, _⟩
      · exact hw b q o e
      · exact (hp b o q e).2
    · rcases h2 b hb with q | ⟨q, o, e⟩
      · exact .inl q
      · exact .inr ⟨(hp b o q e).1, o, (hp b o q e).2⟩
  done := fun {P s Q E} j k => W.done s Q E j.1 fun h' tk hk => k h' tk hk
  self := fun {P k s Q E} j q => W.self k s Q E j.1 q
  next := fun {fr target tg} ok hA ht hw {k ds} hk {α σ τ s Q E} j Iv hits hb kk => by
    subst hA
    cases ht with
    | two hT hlen2 =>
      rename_i elts k2 pos
      have hlt : k < rows.length := (List.getElem?_eq_some_iff.mp hk).1
      refine W.item k s _ _ hlt j.1 fun T vals h' tk pv hTn hTup mid hk' => ⟨.ref T, rfl, ?_⟩
      have hTwr : T ∉ wr := W.apart k T h' mid
      refine W.go elts k2 pos k T _ _ _ mid fun h2' st' hk2 => ?_
      have hkk : ∀ b o, b ∉ wr → s.heap.get? b = some o → h2'.get? b = some o := fun b o hb e => hk2 b o hb (hk' b o hb e)
      obtain ⟨I1, st1, hi1⟩ := Iv.item hits hkk (hex _ _ st')
      have rv : RepL h2' (Pr fr α σ) vals.toList ds := st1.repL (j.2.2 k vals _ hk pv)
      have hlen3 : ds.length = 2 := h2 ds (List.mem_of_getElem? hk)
      have hT2 : IsTup h2' T vals.toList.toArray := by
        obtain ⟨o, ho, hc, n, hd⟩ := hTup
        exact ⟨o, hk2 T o hTwr ho, hc, n, by simpa using hd⟩
      refine unpack_go (s := { s with heap := h2', toks := tk }) ok hT hw ⟨_, rfl, .inr hT2⟩ (by simp [hlen2, hlen3]) rv.es hb (by rw [slots_sh]; exact .nil) I1 fun α' h3 t3 a3 I3 st3 => ?_
      refine kk α' h3 t3 a3 I3 (st1.trans st3.pr) (fun b hb hnb o e => (st3.it b hb).2 o (hi1 b hb hnb o e)) ?_
      refine ⟨W.frame _ _ _ st' fun b hb o e => ?_, fun b hb => ?_, fun i v d hd hv => st3.repL (st1.repL (j.2.2 i v d hd hv))⟩
      · rcases j.2.1 b hb with q | ⟨q, _⟩
        · exact (st3.it b (hits b q)).2 o e
        · by_cases hc : b ∈ wr
          · exact (st3.it b (hits b hc)).2 o e
          · obtain ⟨q2, o2, e2⟩ : ∃ (_ : Pr fr α σ b) (o2 : Obj), s.heap.get? b = some o2 := by
              rcases j.2.1 b hb with q | q
              · exact absurd q hc
              · exact ⟨q.1, q.2⟩
            exact (st3.pr b o q e).2
      · rcases j.2.1 b hb with q | ⟨q, o, e⟩
        · exact .inl q
        · by_cases hc : b ∈ wr
          · exact .inl hc
          · obtain ⟨p1, e1⟩ := st3.pr b o q (hkk b o hc e)
            exact .inr ⟨p1, o, e1⟩
end
end Mine
end

section
open PySem PySem.W PyProof.Rows PySem.Calls
set_option autoImplicit false
namespace Mine

noncomputable abbrev EvI := St → Option (List (List D) × St)
section
variable (prog : Program) (w : World) (fr : Fm)
/-- the expression e, made an iterator, gives the rows -/
noncomputable def SI (e : Expr) (n : Nat) (F : EvI) : Prop :=
  ∀ σ rows σ', F σ = some (rows, σ') → ∀ (α : Al) (s : Shared) (Q : Value → Shared → Prop) (E : Value → Shared → Prop), Inv fr α σ s.heap →
    (∀ I wr J h1 h' tk', Evo fr σ σ' → Inv fr α σ' h1 → Stp fr α σ s.heap α σ' h1 → Kp h1 h' → (∀ b ∈ wr, h1.get? b = none ∧ ∃ o, h'.get? b = some o) → GWk prog w fr.A I wr n rows J → J (fun b => Pr fr α σ' b ∧ b ∉ wr) 0 h' →
      Q (.ref I) { s with heap := h', toks := tk' }) →
    wpAny (model prog w) fr.A (eval e fr.env) (fun x s₁ => wpAny (model prog w) fr.A (pyIter x) Q E s₁) E s
end
noncomputable def list? : D → Option (List D)
  | .list l => some l
  | _ => none
theorem list?_eq {d : D} {l : List D} (h : list? d = some l) : d = .list l := by
  cases d with
  | list m => cases h; rfl
  | _ => cases h
noncomputable def one (l : List D) : List (List D) := l.map fun d => [d]
noncomputable def iList (F : Ev) : EvI := fun σ => (F σ).bind fun p => (list? p.1).map fun l => (one l, p.2)
noncomputable def iPairs (F : Ev) : EvI := fun σ => (F σ).bind fun p => (list? p.1).bind fun l => (rowsOf l).map fun r => (r, p.2)
noncomputable def iRng (F : Ev) : EvI := fun σ => (F σ).bind fun p => match p.1 with
  | .rng a b c => if near a ∧ near b ∧ (c = 1 ∨ c = 2 ∨ c = -1) then some (one (di (rngI a b c)), p.2) else none
  | _ => none
noncomputable def iRev (F : Ev) : EvI := fun σ => (F σ).bind fun p => (list? p.1).map fun l => (one l.reverse, p.2)
noncomputable def enumD (l : List D) : List (List D) := (List.range l.length).zip l |>.map fun p => [.int p.1, p.2]
noncomputable def iEnum (F : Ev) : EvI := fun σ => (F σ).bind fun p => (list? p.1).map fun l => (enumD l, p.2)
noncomputable def zipD (a b : List D) : List (List D) := (a.zip b).map fun p => [p.1, p.2]
noncomputable def iZip (F : EvL) : EvI := fun σ => (F σ).bind fun p => match p.1 with
  | [.list a, .list b] => some (zipD a b, p.2)
  | _ => none

theorem fit {z : Int} (h1 : -4000000 ≤ z) (h2 : z ≤ 4000000) : -2 ^ 63 ≤ z ∧ z < 2 ^ 63 := ⟨Int.le_trans (by decide) h1, Int.lt_of_le_of_lt h2 (by decide)⟩
theorem fit_near {z : Int} (h : near z) : -2 ^ 63 ≤ z ∧ z < 2 ^ 63 := fit (Int.le_trans (by decide) h.1) (Int.le_trans h.2 (by decide))
theorem half_near {a b : Int} (h1 : -1048576 ≤ a) (h2 : b ≤ 1048576) (h : a < b) : -4000000 ≤ (b - a - 1) / 2 + 1 ∧ (b - a - 1) / 2 + 1 ≤ 4000000 := by omega
theorem down_near {a b : Int} (h1 : a ≤ 1048576) (h2 : -1048576 ≤ b) : (((a - b).toNat : Nat) : Int) ≤ 4000000 := by omega
theorem near_small {a b c : Int} (ha : near a) (hb : near b) (hc : c = 1 ∨ c = 2 ∨ c = -1) : Builtin.Range.small a b c = true := by
  rcases hc with rfl | rfl | rfl
  · exact small_one (Int.le_trans (by decide) ha.1) (Int.lt_of_le_of_lt ha.2 (by decide)) (Int.le_trans (by decide) hb.1) (Int.lt_of_le_of_lt hb.2 (by decide))
  · unfold Builtin.Range.small Builtin.Range.rangeSize
    simp only [Builtin.Range.rangeFitsLong, Bool.and_eq_true, Bool.or_eq_true, decide_eq_true_eq, beq_iff_eq, show (2 : Int) > 0 by decide, if_true]
    refine ⟨⟨⟨⟨fit_near ha, fit_near hb⟩, by decide⟩, ?_⟩, .inr (fit (Int.le_trans (by decide) (Int.add_le_add_right hb.1 _)) (Int.le_trans (Int.add_le_add_right hb.2 _) (by decide)))⟩
    split
    · obtain ⟨h1, h2⟩ := half_near ha.1 hb.2 (by assumption)
      exact fit h1 h2
    · decide
  · unfold Builtin.Range.small
    rw [rangeSize_downNat]
    simp only [Builtin.Range.rangeFitsLong, Bool.and_eq_true, Bool.or_eq_true, decide_eq_true_eq, beq_iff_eq, show ¬ (-1 : Int) > 0 by decide, if_false]
    exact ⟨⟨⟨⟨fit_near ha, fit_near hb⟩, by decide⟩, fit (Int.le_trans (by decide) (Int.natCast_nonneg _)) (down_near ha.2 hb.1)⟩, .inr (fit (Int.le_trans (by decide) (Int.add_le_add_right hb.1 _)) (Int.le_trans (Int.add_le_add_right hb.2 _) (by decide)))⟩

section
variable {prog : Program} {w : World} {fr : Fm}

theorem SI.list (ok : FOk fr) {e : Expr} {F : Ev} (h : SE prog w fr e F) : SI prog w fr e 1 (iList F) := by
  rintro σ rows σ' hF α s Q E I k
  simp only [iList, Option.bind_eq_some_iff, Option.map_eq_some_iff] at hF
  obtain ⟨⟨d, σ1⟩, e1, l, e2, e3⟩ := hF
  cases e3
  replace e2 := list?_eq e2
  dsimp only at e2
  subst e2
  refine h σ _ σ1 e1 α s _ _ I fun v h1 t1 ev1 I1 st1 r1 => ?_
  obtain ⟨a, vs, n, rfl, hp, ho, rl⟩ := r1.list_inv
  have hl : h1.IsList a vs.toArray := ⟨_, ho, rfl, n, rfl⟩
  have hlt : a < h1.objs.size := Heap.lt_size ho
  refine wpAny_pyIter_list (s := { s with heap := h1, toks := t1 }) hl ?_
  have kp := Kp.push h1 ({ cls := .type "list_iterator", data := .fields #[.ref a, .int 0 0] } : Obj)
  have hi : (h1.push ({ cls := .type "list_iterator", data := .fields #[.ref a, .int 0 0] } : Obj)).get? h1.objs.size = some _ := Heap.get?_push_size _ rfl
  have hne : a ≠ h1.objs.size := Nat.ne_of_lt hlt
  have W := Walks.list (prog := prog) (w := w) (A := fr.A) ok.hh h1.objs.size a hne vs.toArray
  have hz : vs.toArray.size = l.length := by simp [rl.length]
  rw [hz] at W
  refine k h1.objs.size [h1.objs.size] _ h1 _ t1 ev1 I1 st1 kp (fun b hb => by rw [List.mem_singleton.mp hb]; exact ⟨no_size _, _, hi⟩) (gwk_walks W fun j hh st b hb => by
    rw [List.mem_singleton.mp hb]; obtain ⟨o, e, _⟩ := st.1; exact ⟨o, e⟩) ?_
  refine ⟨⟨⟨_, hi, rfl, rfl⟩, ⟨_, kp _ _ ho, rfl, n, rfl⟩⟩, fun b hb => ?_, fun i v d hd hv => ?_⟩
  · simp only [List.mem_cons, List.not_mem_nil, or_false] at hb
    rcases hb with rfl | rfl
    · exact .inl (by simp)
    · exact .inr ⟨⟨hp, by simpa using hne⟩, _, kp _ _ ho⟩
  · obtain ⟨d', h2, r2⟩ := rl.get' (i := i) (v := v) (by simpa using hv)
    rw [hd] at h2; cases h2
    exact r2.mono fun b o p e => ⟨⟨p, by simpa using Nat.ne_of_lt (Heap.lt_size e)⟩, kp _ _ e⟩

theorem SI.pairs (ok : FOk fr) {e : Expr} {F : Ev} (h : SE prog w fr e F) : SI prog w fr e 2 (iPairs F) := by
  rintro σ rows σ' hF α s Q E I k
  simp only [iPairs, Option.bind_eq_some_iff, Option.map_eq_some_iff] at hF
  obtain ⟨⟨d, σ1⟩, e1, l, e2, rws, e4, e3⟩ := hF
  cases e3
  replace e2 := list?_eq e2
  dsimp only at e2
  subst e2
  refine h σ _ σ1 e1 α s _ _ I fun v h1 t1 ev1 I1 st1 r1 => ?_
  obtain ⟨a, vs, n, rfl, hp, ho, rl⟩ := r1.list_inv
  have hl : h1.IsList a vs.toArray := ⟨_, ho, rfl, n, rfl⟩
  have hlt : a < h1.objs.size := Heap.lt_size ho
  refine wpAny_pyIter_list (s := { s with heap := h1, toks := t1 }) hl ?_
  have kp := Kp.push h1 ({ cls := .type "list_iterator", data := .fields #[.ref a, .int 0 0] } : Obj)
  have hi : (h1.push ({ cls := .type "list_iterator", data := .fields #[.ref a, .int 0 0] } : Obj)).get? h1.objs.size = some _ := Heap.get?_push_size _ rfl
  have hne : a ≠ h1.objs.size := Nat.ne_of_lt hlt
  refine k h1.objs.size [h1.objs.size] _ h1 _ t1 ev1 I1 st1 kp (fun b hb => by rw [List.mem_singleton.mp hb]; exact ⟨no_size _, _, hi⟩) (gwk_pairs ok.hh hne (vs := vs) e4 rl.length) ?_
  refine ⟨⟨⟨_, hi, rfl, rfl⟩, ⟨_, kp _ _ ho, rfl, n, rfl⟩⟩, fun b hb => ?_, fun i v d hd hv => ?_⟩
  · simp only [List.mem_cons, List.not_mem_nil, or_false] at hb
    rcases hb with rfl | rfl
    · exact .inl (by simp)
    · exact .inr ⟨⟨hp, by simpa using hne⟩, _, kp _ _ ho⟩
  · obtain ⟨d', h2, r2⟩ := rl.get' (i := i) (v := v) (by simpa using hv)
    rw [hd] at h2; cases h2
    exact r2.mono fun b o p e => ⟨⟨p, by simpa using Nat.ne_of_lt (Heap.lt_size e)⟩, kp _ _ e⟩

theorem rngI_get {a b c : Int} {i : Nat} {d : D} (h : (di (rngI a b c))[i]? = some d) : d = .int (a + (i : Int) * c) := by
  unfold di rngI at h
  simp only [List.getElem?_map, Option.map_eq_some_iff] at h
  obtain ⟨x, ⟨y, h1, rfl⟩, rfl⟩ := h
  obtain ⟨h2, rfl⟩ := List.getElem?_eq_some_iff.mp h1
  simp

theorem SI.rng (ok : FOk fr) {e : Expr} {F : Ev} (h : SE prog w fr e F) : SI prog w fr e 1 (iRng F) := by
  rintro σ rows σ' hF α s Q E I k
  simp only [iRng, Option.bind_eq_some_iff] at hF
  obtain ⟨⟨d, σ1⟩, e1, e2⟩ := hF
  cases d with
  | rng a b c =>
    dsimp only at e2
    split at e2
    · rename_i hc
      cases e2
      refine h σ _ _ e1 α s _ _ I fun v h1 t1 ev1 I1 st1 r1 => ?_
      cases r1 with
      | rng hp hr =>
        refine wpAny_pyIter_range (s := { s with heap := h1, toks := t1 }) hr (near_small hc.1 hc.2.1 hc.2.2) ?_
        have kp := Kp.push h1 ({ cls := .type "range_iterator", data := .fields #[rawInt a, rawInt (Builtin.Range.rangeSize a b c), rawInt c] } : Obj)
        have hi : (h1.push ({ cls := .type "range_iterator", data := .fields #[rawInt a, rawInt (Builtin.Range.rangeSize a b c), rawInt c] } : Obj)).get? h1.objs.size = some _ := Heap.get?_push_size _ rfl
        have hn := rangeSize_toNat a b c
        have W := Walks.range (prog := prog) (w := w) (A := fr.A) ok.hh h1.objs.size a c (di (rngI a b c)).length
        refine k h1.objs.size [h1.objs.size] _ h1 _ t1 ev1 I1 st1 kp (fun b hb => by rw [List.mem_singleton.mp hb]; exact ⟨no_size _, _, hi⟩) (gwk_walks W fun j hh st b hb => by
          rw [List.mem_singleton.mp hb]; exact ⟨_, st⟩) ?_
        refine ⟨?_, fun b hb => .inl hb, fun i v d hd hv => ?_⟩
        · have hz : (di (rngI a b c)).length = (Builtin.Range.rangeSize a b c).toNat := by simp [di, rngI]
          rw [hz]
          show IsRangeIter _ _ _ _ _
          have : ((Builtin.Range.rangeSize a b c).toNat : Int) - ((0 : Nat) : Int) = Builtin.Range.rangeSize a b c := by (first | lia | omega)
          rw [this]
          simpa using hi
        · obtain ⟨t, rfl⟩ := hv
          cases rngI_get hd
          exact .int _ _
    · cases e2
  | _ => cases e2

theorem SI.rev (ok : FOk fr) {B : Heap} {mg mb : Str → Option Value} (bo : BOk B fr) (bs : Base B mg mb) {x : Str} {pos pos' : Pos} {e : Expr} {F : Ev} (bn : BN fr mg x (.type "reversed"))
    (h : SE prog w fr e F) (he : ∀ env, starEach [e] env = [(false, eval e env)]) : SI prog w fr (.Call (.Name x pos) [e] [] pos') 1 (iRev F) := by
  rintro σ rows σ' hF α s Q E I k
  simp only [iRev, Option.bind_eq_some_iff, Option.map_eq_some_iff] at hF
  obtain ⟨⟨d, σ1⟩, e1, l, e2, e3⟩ := hF
  cases e3
  replace e2 := list?_eq e2
  dsimp only at e2
  subst e2
  refine Call_ (blt_name ok bs (I.base bo) bn.k bn.d bn.n bn.m bn.v (callWith_blt bn.f ?_ (he _) (by rfl)))
  refine args_cons (h σ _ σ1 e1 α s _ _ I fun v h1 t1 ev1 I1 st1 r1 => args_nil ?_) (he _)
  obtain ⟨a, vs, n, rfl, hp, ho, rl⟩ := r1.list_inv
  have hl : h1.IsList a vs.toArray := ⟨_, ho, rfl, n, rfl⟩
  have hlt : a < h1.objs.size := Heap.lt_size ho
  refine call_reversed_list (s := { s with heap := h1, toks := t1 }) hl ?_
  have hz : vs.toArray.size = l.reverse.length := by simp [rl.length]
  dsimp only
  rw [hz]
  have kp := Kp.push h1 (revObj a ((l.reverse.length : Int) - 1))
  have hi : (h1.push (revObj a ((l.reverse.length : Int) - 1))).get? h1.objs.size = some _ := Heap.get?_push_size _ rfl
  refine wpAny_pyIter_revIter (i := (l.reverse.length : Int) - 1) (l := a) ⟨_, hi, rfl, rfl⟩ ?_
  have hne : a ≠ h1.objs.size := Nat.ne_of_lt hlt
  have hW := (Walks.listRev (prog := prog) (w := w) (A := fr.A) ok.hh h1.objs.size a hne vs.toArray).bound
  rw [hz] at hW
  refine k h1.objs.size [h1.objs.size] _ h1 _ t1 ev1 I1 st1 kp (fun b hb => by rw [List.mem_singleton.mp hb]; exact ⟨no_size _, _, hi⟩) (gwk_walks hW fun j hh st b hb => by
    rw [List.mem_singleton.mp hb]; obtain ⟨o, e, _⟩ := st.2.1; exact ⟨o, e⟩) ?_
  have hr0 : (h1.push (revObj a ((l.reverse.length : Int) - 1))).IsRevIter h1.objs.size a ((l.reverse.length : Int) - 1 - ((0 : Nat) : Int)) := ⟨_, hi, rfl, by simp [revObj]⟩
  have hl0 : (h1.push (revObj a ((l.reverse.length : Int) - 1))).IsList a vs.toArray := ⟨_, kp _ _ ho, rfl, n, rfl⟩
  refine ⟨⟨Nat.zero_le _, hr0, hl0⟩, fun b hb => ?_, fun i v d hd hv => ?_⟩
  · simp only [List.mem_cons, List.not_mem_nil, or_false] at hb
    rcases hb with rfl | rfl
    · exact .inl (by simp)
    · exact .inr ⟨⟨hp, by simpa using hne⟩, _, kp _ _ ho⟩
  · obtain ⟨hv1, hv2⟩ := hv
    have hlen := rl.length
    simp only [List.length_reverse] at hv1 hv2
    rw [← hlen] at hv1 hv2
    obtain ⟨d', h2, r2⟩ := rl.get' (i := vs.length - 1 - i) (v := v) (by simpa using hv2)
    have : l.reverse[i]? = l[vs.length - 1 - i]? := by
      rw [List.getElem?_reverse (by (first | lia | omega))]; congr 1; (first | lia | omega)
    rw [this] at hd
    rw [hd] at h2; cases h2
    exact r2.mono fun b o p e => ⟨⟨p, by simpa using Nat.ne_of_lt (Heap.lt_size e)⟩, kp _ _ e⟩

theorem enumD_get {l : List D} {i : Nat} {ds : List D} (h : (enumD l)[i]? = some ds) : ∃ d, l[i]? = some d ∧ ds = [.int i, d] := by
  unfold enumD at h
  simp only [List.getElem?_map, Option.map_eq_some_iff] at h
  obtain ⟨⟨a, b⟩, h1, rfl⟩ := h
  obtain ⟨h2, h3⟩ := List.getElem?_zip_eq_some.mp h1
  obtain ⟨_, rfl⟩ := List.getElem?_eq_some_iff.mp h2
  exact ⟨b, h3, by simp⟩
theorem zipD_get {a b : List D} {i : Nat} {ds : List D} (h : (zipD a b)[i]? = some ds) : ∃ x y, a[i]? = some x ∧ b[i]? = some y ∧ ds = [x, y] := by
  unfold zipD at h
  simp only [List.getElem?_map, Option.map_eq_some_iff] at h
  obtain ⟨⟨x, y⟩, h1, rfl⟩ := h
  obtain ⟨h2, h3⟩ := List.getElem?_zip_eq_some.mp h1
  exact ⟨x, y, h2, h3, rfl⟩

theorem SI.enum (ok : FOk fr) {B : Heap} {mg mb : Str → Option Value} (bo : BOk B fr) (bs : Base B mg mb) {x : Str} {pos pos' : Pos} {e : Expr} {F : Ev} (bn : BN fr mg x (.type "enumerate"))
    (h : SE prog w fr e F) (he : ∀ env, starEach [e] env = [(false, eval e env)]) : SI prog w fr (.Call (.Name x pos) [e] [] pos') 2 (iEnum F) := by
  rintro σ rows σ' hF α s Q E I k
  simp only [iEnum, Option.bind_eq_some_iff, Option.map_eq_some_iff] at hF
  obtain ⟨⟨d, σ1⟩, e1, l, e2, e3⟩ := hF
  cases e3
  replace e2 := list?_eq e2
  dsimp only at e2
  subst e2
  refine Call_ (blt_name ok bs (I.base bo) bn.k bn.d bn.n bn.m bn.v (callWith_blt bn.f ?_ (he _) (by rfl)))
  refine args_cons (h σ _ σ1 e1 α s _ _ I fun v h1 t1 ev1 I1 st1 r1 => args_nil ?_) (he _)
  obtain ⟨a, vs, n, rfl, hp, ho, rl⟩ := r1.list_inv
  have hl : h1.IsList a vs.toArray := ⟨_, ho, rfl, n, rfl⟩
  have hlt : a < h1.objs.size := Heap.lt_size ho
  refine call_enumerate_list (s := { s with heap := h1, toks := t1 }) hl fun h' he' hit' hsz kp => ?_
  dsimp only at he' hit' hsz kp
  have W := WalksT.enumerate (prog := prog) (w := w) (A := fr.A) ok.hh (h1.objs.size + 1) h1.objs.size a (Nat.succ_ne_self _) (Nat.ne_of_lt (Nat.lt_succ_of_lt hlt)) (Nat.ne_of_lt hlt) vs.toArray
  have hz : vs.toArray.size = (enumD l).length := by simp [rl.length, enumD]
  rw [hz] at W
  refine W.self 0 _ _ _ ⟨⟨_, he'⟩, hit', ⟨_, kp _ _ ho, rfl, n, rfl⟩⟩ ?_
  have hfresh : ∀ b ∈ [h1.objs.size + 1, h1.objs.size], h1.get? b = none := fun b hb => by
    cases q : h1.get? b with
    | none => rfl
    | some o =>
      have := Heap.lt_size q
      simp only [List.mem_cons, List.not_mem_nil, or_false] at hb
      rcases hb with rfl | rfl
      · exact absurd this (Nat.not_lt_of_le (Nat.le_succ _))
      · exact absurd this (Nat.lt_irrefl _)
  have hex : ∀ (hh : Heap) (i : Nat), ((∃ old, IsEnum hh (h1.objs.size + 1) h1.objs.size i old) ∧ hh.IsListIter h1.objs.size a i ∧ hh.IsList a vs.toArray) → ∀ b ∈ [h1.objs.size + 1, h1.objs.size], ∃ o, hh.get? b = some o := by
    rintro hh i ⟨⟨old, q1⟩, ⟨o, q2, _⟩, _⟩ b hb
    simp only [List.mem_cons, List.not_mem_nil, or_false] at hb
    rcases hb with rfl | rfl
    · exact ⟨_, q1⟩
    · exact ⟨_, q2⟩
  refine k (h1.objs.size + 1) [h1.objs.size + 1, h1.objs.size] _ h1 h' t1 ev1 I1 st1 kp (fun b hb => ⟨hfresh b hb, hex h' 0 ⟨⟨_, he'⟩, hit', ⟨_, kp _ _ ho, rfl, n, rfl⟩⟩ b hb⟩)
    (gwk_walksT W (fun i hh st => hex hh i st) fun ds hds => by
      obtain ⟨i, hi⟩ := List.getElem?_of_mem hds
      obtain ⟨d, _, rfl⟩ := enumD_get hi
      rfl) ?_
  refine ⟨⟨⟨_, he'⟩, hit', ⟨_, kp _ _ ho, rfl, n, rfl⟩⟩, fun b hb => ?_, fun i vals ds hd hv => ?_⟩
  · simp only [List.mem_cons, List.not_mem_nil, or_false] at hb
    rcases hb with rfl | rfl | rfl
    · exact .inl (by simp)
    · exact .inl (by simp)
    · exact .inr ⟨⟨hp, fun hb => by rw [hfresh _ hb] at ho; cases ho⟩, _, kp _ _ ho⟩
  · obtain ⟨t, y, hy, rfl⟩ := hv
    obtain ⟨d, hd1, rfl⟩ := enumD_get hd
    obtain ⟨d', h2, r2⟩ := rl.get' (i := i) (v := y) (by simpa using hy)
    rw [hd1] at h2; cases h2
    exact .cons (.int _ _) (.cons (r2.mono fun b o p e => ⟨⟨p, fun hb => by rw [hfresh _ hb] at e; cases e⟩, kp _ _ e⟩) .nil)

theorem zipApart_ {z a b : Nat} (ha : a < z) (hb : b < z) : ZipApart (z + 4) (z + 2) (z + 3) z (z + 1) a b := by
  constructor <;> (show @Ne Nat _ _; (first | lia | omega))

theorem SI.zip (ok : FOk fr) {B : Heap} {mg mb : Str → Option Value} (bo : BOk B fr) (bs : Base B mg mb) {x : Str} {pos pos' : Pos} {e e' : Expr} {F : EvL} (bn : BN fr mg x (.type "zip"))
    (h : SL prog w fr [e, e'] F) (he : ∀ env, starEach [e, e'] env = (false, eval e env) :: starEach [e'] env) (he' : ∀ env pos, (backTo pos (starEach [e'] env)).any (·.1) = false) : SI prog w fr (.Call (.Name x pos) [e, e'] [] pos') 2 (iZip F) := by
  rintro σ rows σ' hF α s Q E I k
  simp only [iZip, Option.bind_eq_some_iff] at hF
  obtain ⟨⟨dl, σ1⟩, e1, e2⟩ := hF
  dsimp only at e2
  split at e2
  · rename_i la lb
    cases e2
    refine Call_ (blt_name ok bs (I.base bo) bn.k bn.d bn.n bn.m bn.v (callWith_blt bn.f ?_ (he _) (he' _ _)))
    refine h σ _ _ e1 α s _ _ _ I fun v h1 t1 ev1 I1 st1 r1 _ => ?_
    obtain ⟨va, vb, rfl, ra, rb⟩ := r1.two_inv
    obtain ⟨a, vs, n, rfl, hp, ho, rl⟩ := ra.list_inv
    obtain ⟨b, vs2, n2, rfl, hp2, ho2, rl2⟩ := rb.list_inv

    have hlt : a < h1.objs.size := Heap.lt_size ho
    have hlt2 : b < h1.objs.size := Heap.lt_size ho2
    refine call_zip_2 (s := { s with heap := h1, toks := t1 }) (l1 := a) (l2 := b) (xs := vs.toArray) (ys := vs2.toArray) ⟨_, ho, rfl, n, rfl⟩ ⟨_, ho2, rfl, n2, rfl⟩ fun h' z1 z2 z3 z4 z5 hsz kp => ?_
    dsimp only at z1 z2 z3 z4 z5 hsz kp
    have Dz : ZipApart (h1.objs.size + 4) (h1.objs.size + 2) (h1.objs.size + 3) h1.objs.size (h1.objs.size + 1) a b := zipApart_ hlt hlt2
    have W := WalksT.zip2 (prog := prog) (w := w) (A := fr.A) ok.hh _ _ _ _ _ _ _ Dz vs.toArray vs2.toArray
    have hz : min vs.toArray.size vs2.toArray.size = (zipD la lb).length := by simp [rl.length, rl2.length, zipD]
    rw [hz] at W
    have st0 : IsZip h' (h1.objs.size + 4) (h1.objs.size + 2) (h1.objs.size + 3) .none ∧ IsPair h' (h1.objs.size + 2) (.ref h1.objs.size) (.ref (h1.objs.size + 1)) ∧ (∃ a b, IsPair h' (h1.objs.size + 3) a b) ∧ h'.IsListIter h1.objs.size a 0 ∧ h'.IsListIter (h1.objs.size + 1) b 0 ∧ h'.IsList a vs.toArray ∧ h'.IsList b vs2.toArray :=
      ⟨z1, z2, ⟨_, _, z3⟩, z4, z5, ⟨_, kp _ _ ho, rfl, n, rfl⟩, ⟨_, kp _ _ ho2, rfl, n2, rfl⟩⟩
    refine W.self 0 _ _ _ st0 ?_
    -- the pair of iterators is set apart too
    have hfresh : ∀ c, h1.objs.size ≤ c → h1.get? c = none := fun c hc => by
      cases q : h1.get? c with
      | none => rfl
      | some o => exact absurd (Heap.lt_size q) (Nat.not_lt_of_le hc)
    have hwr : ∀ c ∈ [h1.objs.size + 4, h1.objs.size + 3, h1.objs.size, h1.objs.size + 1], h1.objs.size ≤ c := fun c hc => by
      simp only [List.mem_cons, List.not_mem_nil, or_false] at hc
      rcases hc with rfl | rfl | rfl | rfl
      · exact Nat.le_add_right _ _
      · exact Nat.le_add_right _ _
      · exact Nat.le_refl _
      · exact Nat.le_add_right _ _
    have hex : ∀ (i : Nat) (hh : Heap), (IsZip hh (h1.objs.size + 4) (h1.objs.size + 2) (h1.objs.size + 3) .none ∧ IsPair hh (h1.objs.size + 2) (.ref h1.objs.size) (.ref (h1.objs.size + 1)) ∧ (∃ a b, IsPair hh (h1.objs.size + 3) a b) ∧ hh.IsListIter h1.objs.size a i ∧ hh.IsListIter (h1.objs.size + 1) b i ∧ hh.IsList a vs.toArray ∧ hh.IsList b vs2.toArray) →
        ∀ c ∈ [h1.objs.size + 4, h1.objs.size + 3, h1.objs.size, h1.objs.size + 1], ∃ o, hh.get? c = some o := by
      rintro i hh ⟨q1, _, ⟨_, _, q3⟩, ⟨_, q4, _⟩, ⟨_, q5, _⟩, _, _⟩ c hc
      simp only [List.mem_cons, List.not_mem_nil, or_false] at hc
      rcases hc with rfl | rfl | rfl | rfl
      · exact ⟨_, q1⟩
      · exact ⟨_, q3⟩
      · exact ⟨_, q4⟩
      · exact ⟨_, q5⟩
    refine k (h1.objs.size + 4) _ _ h1 h' t1 ev1 I1 st1 kp (fun c hc => ⟨hfresh c (hwr c hc), hex 0 h' st0 c hc⟩)
      (gwk_walksT W hex fun ds hds => by
        obtain ⟨i, hi⟩ := List.getElem?_of_mem hds
        obtain ⟨_, _, _, _, rfl⟩ := zipD_get hi
        rfl) ?_
    refine ⟨st0, fun c hc => ?_, fun i vals ds hd hv => ?_⟩
    · simp only [List.mem_cons, List.not_mem_nil, or_false] at hc
      rcases hc with rfl | rfl | rfl | rfl | rfl | rfl | rfl
      · exact .inl (by simp)
      · exact .inr ⟨⟨I1.fresh (hfresh _ (Nat.le_add_right _ _)), by simp⟩, _, z2⟩
      · exact .inl (by simp)
      · exact .inl (by simp)
      · exact .inl (by simp)
      · exact .inr ⟨⟨hp, fun hb => by rw [hfresh _ (hwr _ hb)] at ho; cases ho⟩, _, kp _ _ ho⟩
      · exact .inr ⟨⟨hp2, fun hb => by rw [hfresh _ (hwr _ hb)] at ho2; cases ho2⟩, _, kp _ _ ho2⟩
    · obtain ⟨x, y, hx, hy, rfl⟩ := hv
      obtain ⟨dx, dy, hd1, hd2, rfl⟩ := zipD_get hd
      obtain ⟨d', h2, r2⟩ := rl.get' (i := i) (v := x) (by simpa using hx)
      rw [hd1] at h2; cases h2
      obtain ⟨d', h3, r3⟩ := rl2.get' (i := i) (v := y) (by simpa using hy)
      rw [hd2] at h3; cases h3
      exact .cons (r2.mono fun b o p e => ⟨⟨p, fun hb => by rw [hfresh _ (hwr _ hb)] at e; cases e⟩, kp _ _ e⟩)
        (.cons (r3.mono fun b o p e => ⟨⟨p, fun hb => by rw [hfresh _ (hwr _ hb)] at e; cases e⟩, kp _ _ e⟩) .nil)
  · cases e2
end
end Mine
end

section
open PySem PySem.W PyProof.Rows PySem.Calls
set_option autoImplicit false
namespace Mine

noncomputable def forGo (tgi : List Nat) (Bd : Ex) : List (List D) → St → Option (Fl × St)
  | [], σ => some (.nxt, σ)
  | r :: rs, σ => (bindE (tgi.zip (r.map .sh)) σ).bind fun τ => (Bd τ).bind fun p => match p.1 with
    | .nxt => forGo tgi Bd rs p.2
    | .ret d => some (.ret d, p.2)
noncomputable def yFor (S : EvI) (tgi : List Nat) (Bd : Ex) : Ex := fun σ => (S σ).bind fun p => forGo tgi Bd p.1 p.2
noncomputable def whlGo (T : Ev) (Bd : Ex) : Nat → St → Option (Fl × St)
  | 0, _ => none
  | k + 1, σ => (T σ).bind fun p => match p.1 with
    | .bool false => some (.nxt, p.2)
    | .bool true => (Bd p.2).bind fun q => match q.1 with
      | .nxt => whlGo T Bd k q.2
      | .ret d => some (.ret d, q.2)
    | _ => none
noncomputable def yWhl (fuel : Nat) (T : Ev) (Bd : Ex) : Ex := whlGo T Bd fuel

section
variable {prog : Program} {w : World} {fr : Fm} {α : Al} {σ : St} {h h' : Heap}

/-- what was set apart is let go, and may vanish -/
theorem Inv.done {wr its0 : List Addr} (I : Inv fr α σ h) (hi : α.its = wr ++ its0) (hd : ∀ b ∈ its0, b ∉ wr) (hk : ∀ b o, b ∉ wr → h.get? b = some o → h'.get? b = some o) :
    Inv fr { α with its := its0 } σ h' ∧ Stp0 fr α σ h { α with its := its0 } σ h' ∧ ∀ b ∈ its0, ∀ o, h.get? b = some o → h'.get? b = some o := by
  have sub : ∀ b ∈ wr, b ∈ α.its := fun b hb => by rw [hi]; exact List.mem_append_left _ hb
  have sub0 : ∀ b ∈ its0, b ∈ α.its := fun b hb => by rw [hi]; exact List.mem_append_right _ hb
  have hp : ∀ b, Pr fr α σ b → Pr fr { α with its := its0 } σ b := fun b p => ⟨p.old, p.loc, p.cell, p.own, fun hb => p.its (sub0 b hb)⟩
  have st : Stp0 fr α σ h { α with its := its0 } σ h' := fun b o p e => ⟨hp b p, hk b o (fun hb => p.its (sub b hb)) e⟩
  have nL : fr.env.locals ∉ wr := fun hb => (I.its _ (sub _ hb)).2.2.1 rfl
  have nC : ∀ x c, fr.env.cells.lookup x = some c → c ∉ wr := fun x c hc hb => (I.its _ (sub _ hb)).2.2.2.1 x c hc rfl
  have nO : ∀ i l, σ i = .ow l → α.ad i ∉ wr := fun i l hl hb => (I.its _ (sub _ hb)).2.2.2.2 i l hl rfl
  have lk : ∀ y w, Look fr.env h y w → Look fr.env h' y w := by
    rintro y w (⟨a, m, hn, hm⟩ | ⟨a, c, hc, o, ho', hd⟩)
    · exact .inl ⟨a, m, hn.at' fun o e => hk _ _ nL e, hm⟩
    · exact .inr ⟨a, c, hc, o, hk _ _ (nC y c hc) ho', hd⟩
  refine ⟨⟨?_, fun y c hc => ?_, fun b o hb e => ?_, I.box, fun j y hy d hd => ?_, fun j y hy l hl => lk y _ (I.ovar j y hy l hl), fun j l hl => ?_, fun b hb => ?_, I.dist⟩, st, fun b hb o e => hk b o (hd b hb) e⟩
  · obtain ⟨m, hn⟩ := I.ns
    exact ⟨m, hn.at' fun o e => hk _ _ nL e⟩
  · obtain ⟨w, o, ho', hd⟩ := I.cells y c hc
    exact ⟨w, o, hk _ _ (nC y c hc) ho', hd⟩
  · exact hk b o (fun hx => by rw [(I.its b (sub b hx)).2.1] at e; cases e) (I.keep b o hb e)
  · obtain ⟨w, a, q⟩ := I.var j y hy d hd
    exact ⟨w, lk y w a, st.rep q⟩
  · obtain ⟨a, vs, n, e, q⟩ := I.own j l hl
    exact ⟨a, vs, n, hk _ _ (nO j l hl) e, st.repL q⟩
  · obtain ⟨⟨o, e⟩, r⟩ := I.its b (sub0 b hb)
    exact ⟨⟨o, hk _ _ (hd b hb) e⟩, r⟩

theorem GWk.turn {A : Around} {I : Addr} {wr : List Addr} {n : Nat} {rows : List (List D)} {J : (Addr → Prop) → Nat → Heap → Prop} (W : GWk prog w A I wr n rows J) {target : Expr} {tg : List (Nat × Str)} (ok : FOk fr) (hA : fr.A = A) (ht : TgT n target tg) (hw : ∀ p ∈ tg, VW fr p.1 p.2)
    {k : Nat} {ds : List D} (hk : rows[k]? = some ds) {τ : St} {s : Shared} {Q : Unit → Shared → Prop} {R : Option Value → Shared → Prop} {E : Value → Shared → Prop}
    (hR : ∀ v s₁, wpAny (model prog w) A (letOwnedTupleGo target (.ref I) v) (fun _ s₂ => wpAny (model prog w) A (assign target fr.env v) Q E s₂) E s₁ → R (some v) s₁)
    (j : J (Pr fr α σ) k s.heap) (Iv : Inv fr α σ s.heap) (hits : ∀ b ∈ wr, b ∈ α.its)
    (hb : bindE ((tg.map (·.1)).zip (ds.map .sh)) σ = some τ)
    (kk : ∀ α' h' tk', α'.its = α.its → Inv fr α' τ h' → Stp0 fr α σ s.heap α' τ h' → (∀ b ∈ α.its, b ∉ wr → ∀ o, s.heap.get? b = some o → h'.get? b = some o) → J (Pr fr α' τ) (k + 1) h' → Q () { s with heap := h', toks := tk' }) :
    wpAny (model prog w) A (pyNext (.ref I)) R E s :=
  wpAny_mono (W.next ok hA ht hw hk j Iv hits hb kk) (fun _ s₁ ⟨v, e, h⟩ => by subst e; exact hR v s₁ h) fun _ _ e => e

theorem FlOk.nxt_inv {f : Flow} (k : FlOk fr α σ h .nxt f) : f = .next := by cases f <;> first | rfl | exact k.elim
theorem FlOk.ret_inv {d : D} {f : Flow} (k : FlOk fr α σ h (.ret d) f) : ∃ v, f = .ret v ∧ Rep h (Pr fr α σ) v d := by cases f <;> first | exact ⟨_, rfl, k⟩ | exact k.elim
inductive ForS (tgi : List Nat) (Bd : Ex) (row : List D) (rows : List (List D)) (σ : St) (r : Fl × St) : Prop
  | go {τ σ2 : St} (a : bindE (tgi.zip (row.map .sh)) σ = some τ) (b : Bd τ = some (.nxt, σ2)) (c : forGo tgi Bd rows σ2 = some r)
  | ret {τ σ2 : St} {d : D} (a : bindE (tgi.zip (row.map .sh)) σ = some τ) (b : Bd τ = some (.ret d, σ2)) (c : r = (.ret d, σ2))
theorem forGo_inv {tgi : List Nat} {Bd : Ex} {row : List D} {rows : List (List D)} {τ : St} {r : Fl × St} (e : forGo tgi Bd (row :: rows) τ = some r) : ForS tgi Bd row rows τ r := by
  simp only [forGo, Option.bind_eq_some_iff] at e
  obtain ⟨τ, b1, ⟨f1, σ2⟩, b2, b3⟩ := e
  cases f1 with
  | nxt => exact .go b1 b2 b3
  | ret d => exact .ret b1 b2 (Option.some.inj b3).symm
inductive WhlS (T : Ev) (Bd : Ex) (m : Nat) (σ : St) (r : Fl × St) : Prop
  | stop {σ1 : St} (a : T σ = some (.bool false, σ1)) (c : r = (.nxt, σ1))
  | go {σ1 σ2 : St} (a : T σ = some (.bool true, σ1)) (b : Bd σ1 = some (.nxt, σ2)) (c : whlGo T Bd m σ2 = some r)
  | ret {σ1 σ2 : St} {d : D} (a : T σ = some (.bool true, σ1)) (b : Bd σ1 = some (.ret d, σ2)) (c : r = (.ret d, σ2))
theorem whlGo_inv {T : Ev} {Bd : Ex} {m : Nat} {τ : St} {r : Fl × St} (e : whlGo T Bd (m + 1) τ = some r) : WhlS T Bd m τ r := by
  simp only [whlGo, Option.bind_eq_some_iff] at e
  obtain ⟨⟨c, σ1⟩, e1, e2⟩ := e
  cases c with
  | bool c =>
    cases c with
    | false => exact .stop e1 (Option.some.inj e2).symm
    | true =>
      simp only [Option.bind_eq_some_iff] at e2
      obtain ⟨⟨f1, σ2⟩, b2, b3⟩ := e2
      cases f1 with
      | nxt => exact .go e1 b2 b3
      | ret d => exact .ret e1 b2 (Option.some.inj b3).symm
  | _ => cases e2
theorem codeAny_forLoop_g {A : Around} {R : Result → Shared → Prop} {target : Expr} {it : Value} {body : List Stmt} {env : Env} {s : Shared} (I : Nat → Shared → Prop)
    (turn : ∀ n s, I n s → ∀ (N : Option Value → Shared → Prop) (E' : Value → Shared → Prop) (B : Unit → Shared → Prop) (F : Flow → Shared → Prop),
      (∀ s₁, R (.ok .next) s₁ → N none s₁) →
      (∀ v s₁, wpAny (model prog w) A (letOwnedTupleGo target it v) (fun _ s' => wpAny (model prog w) A (assign target env v) B E' s') E' s₁ → N (some v) s₁) →
      (∀ s₂, wpAny (model prog w) A (execs body env) F E' s₂ → B () s₂) → (∀ s₃ m, m < n → I m s₃ → F .next s₃) → (∀ v s₃, R (.ok (.ret v)) s₃ → F (.ret v) s₃) → wpAny (model prog w) A (pyNext it) N E' s)
    (n : Nat) (h : I n s) : codeAny (model prog w) A (.forLoop target it body [] env) R s :=
  codeAny_forLoop_any I (fun n s hI => by
    let E' : Value → Shared → Prop := notedBy (model prog w) A env fun e s' => R (.error e) s'
    let F : Flow → Shared → Prop := fun f s₃ => match f with
      | .next | .cont => ∃ m, m < n ∧ I m s₃
      | .brk => R (.ok .next) s₃
      | .ret v => R (.ok (.ret v)) s₃
    let B : Unit → Shared → Prop := fun _ s₂ => wpAny (model prog w) A (execs body env) F E' s₂
    exact turn n s hI _ E' B F (fun _ h => wpAny_execs_nil h) (fun _ _ h => h) (fun _ h => h) (fun _ m hm h => ⟨m, hm, h⟩) (fun _ _ h => h)) n h
inductive ForI (fr : Fm) (tgi : List Nat) (Bd : Ex) (rows : List (List D)) (r : Fl × St) (wr : List Addr) (J : (Addr → Prop) → Nat → Heap → Prop) (α : Al) (σ : St) (s : Shared) (m : Nat) (s' : Shared) : Prop
  | mk {k : Nat} {αk : Al} {σk : St} {hk : Heap} {tk : Nat} (e1 : m = rows.length - k) (e2 : k ≤ rows.length) (e3 : s' = { s with heap := hk, toks := tk }) (e4 : αk.its = wr ++ α.its) (e5 : Inv fr αk σk hk) (e6 : J (Pr fr αk σk) k hk) (e7 : Stp0 fr α σ s.heap αk σk hk)
      (e8 : ∀ b ∈ α.its, ∀ o, s.heap.get? b = some o → hk.get? b = some o) (e9 : forGo tgi Bd (rows.drop k) σk = some r) : ForI fr tgi Bd rows r wr J α σ s m s'
theorem SS.for (ok : FOk fr) {target iter : Expr} {body : List Stmt} {pos : Pos} {n : Nat} {tg : List (Nat × Str)} {S : EvI} {Bd : Ex} {tgi : List Nat} (hi : SI prog w fr iter n S) (ht : TgT n target tg) (hw : ∀ p ∈ tg, VW fr p.1 p.2) (htg : tg.map (·.1) = tgi)
    (hb : SSs prog w fr body Bd) (hs : ∀ env x, foldedSetIterable iter env x = pure x) : SS prog w fr (.For target iter body [] pos) (yFor S tgi Bd) := by
  subst htg
  rintro σ fl σ' hF α s Q E I k
  simp only [yFor, Option.bind_eq_some_iff] at hF
  obtain ⟨⟨rows, σ1⟩, e1, e2⟩ := hF
  dsimp only at e2
  refine wpAny_For (hi σ rows σ1 e1 α s _ _ I fun I0 wr J h1 h2 t2 ev1 I1 st1 kp hnew W j0 => ?_) (hs _)
  obtain ⟨I2, st2⟩ := I1.apart kp (fun b hb => (hnew b hb).1) (fun b hb => (hnew b hb).2)
  have hap : ∀ b ∈ α.its, b ∉ wr := fun b hb hc => by
    obtain ⟨⟨o, e⟩, _⟩ := I1.its b hb
    rw [(hnew b hc).1] at e; cases e
  have st02 := st1.trans st2
  refine codeAny_forLoop_g (ForI fr (tg.map (·.1)) Bd rows (fl, σ') wr J α σ s) ?_ rows.length
    (.mk (k := 0) (tk := t2) rfl (Nat.zero_le _) rfl rfl I2 (W.mono j0 (fun b o p e => ⟨⟨p.1.old, p.1.loc, p.1.cell, p.1.own, fun hb => by
      rcases List.mem_append.mp hb with hb | hb
      · exact p.2 hb
      · exact p.1.its hb⟩, e⟩) (fun _ _ _ e => e)) st02.pr (fun b hb o e => (st02.it b hb).2 o e) e2)
  intro m s' hFI N E' Bb Ff kN kS kB kF kR
  obtain ⟨rfl, hk', rfl, hits, Ik, jk, stk, itk, ek⟩ := hFI
  rename_i k' αk σk hk tk
  by_cases hlt : k' < rows.length
  · have hrow : rows[k']? = some rows[k'] := List.getElem?_eq_getElem hlt
    rw [List.drop_eq_getElem_cons hlt] at ek
    have stA : ∀ {α3 α4 : Al} {τ σ2 : St} {h3 h4 : Heap}, Stp0 fr αk σk hk α3 τ h3 → Stp fr α3 τ h3 α4 σ2 h4 → Stp0 fr α σ s.heap α4 σ2 h4 := fun a b => (stk.trans a).trans b.pr
    have itA : ∀ {α3 α4 : Al} {τ σ2 : St} {h3 h4 : Heap}, α3.its = αk.its → (∀ b ∈ αk.its, b ∉ wr → ∀ o, hk.get? b = some o → h3.get? b = some o) → Stp fr α3 τ h3 α4 σ2 h4 → ∀ b ∈ α.its, ∀ o, s.heap.get? b = some o → h4.get? b = some o := fun a3 it3 st4 b hb o e => by
      have hbk : b ∈ αk.its := by rw [hits]; exact List.mem_append_right _ hb
      exact (st4.it b (by rw [a3]; exact hbk)).2 o (it3 b hbk (hap b hb) o (itk b hb o e))
    cases forGo_inv ek with
    | go b1 b2 b3 =>
      refine W.turn ok rfl ht hw hrow (s := { s with heap := hk, toks := tk }) kS jk Ik (fun b hb => by rw [hits]; exact List.mem_append_left _ hb) b1 fun α3 h3 t3 a3 I3 st3 it3 j3 => kB _ ?_
      refine hb _ _ _ b2 α3 _ _ _ I3 fun f α4 h4 t4 a4 I4 st4 ok4 => ?_
      obtain rfl := ok4.nxt_inv
      exact kF _ _ (Nat.sub_lt_sub_left hlt (Nat.lt_succ_self k')) (.mk (k := k' + 1) (tk := t4) rfl hlt rfl (a4.trans (a3.trans hits)) I4 (W.mono j3 st4.pr (fun b hb o e => (st4.it b (by rw [a3, hits]; exact List.mem_append_left _ hb)).2 o e)) (stA st3 st4) (itA a3 it3 st4) b3)
    | ret b1 b2 b3 =>
      refine W.turn ok rfl ht hw hrow (s := { s with heap := hk, toks := tk }) kS jk Ik (fun b hb => by rw [hits]; exact List.mem_append_left _ hb) b1 fun α3 h3 t3 a3 I3 st3 it3 j3 => kB _ ?_
      refine hb _ _ _ b2 α3 _ _ _ I3 fun f α4 h4 t4 a4 I4 st4 ok4 => ?_
      cases b3
      obtain ⟨v, rfl, ok5⟩ := ok4.ret_inv
      obtain ⟨I5, st5⟩ := I4.back (α' := { α4 with its := α.its }) rfl (fun b hb => by rw [a4.trans (a3.trans hits)]; exact List.mem_append_right _ hb)
      exact kR _ _ (k (.ret v) { α4 with its := α.its } h4 t4 rfl I5 ⟨(stA st3 st4).trans st5, fun b hb => ⟨hb, fun o e => itA a3 it3 st4 b hb o e⟩⟩ (st5.rep ok5))
  · have he : k' = rows.length := Nat.le_antisymm hk' (Nat.le_of_not_lt hlt)
    subst he
    rw [List.drop_length] at ek
    cases ek
    refine W.done (s := { s with heap := hk, toks := tk }) jk fun h3 t3 hk3 => kN _ ?_
    dsimp only at hk3
    obtain ⟨I3, st3, it3⟩ := Ik.done hits hap hk3
    exact (k .next { αk with its := α.its } h3 t3 rfl I3 ⟨stk.trans st3, fun b hb => ⟨hb, fun o e => it3 b hb o (itk b hb o e)⟩⟩ trivial)

inductive WhlI (fr : Fm) (T : Ev) (Bd : Ex) (r : Fl × St) (α : Al) (σ : St) (s : Shared) (m : Nat) (s' : Shared) : Prop
  | mk {αk : Al} {σk : St} {hk : Heap} {tk : Nat} (e1 : s' = { s with heap := hk, toks := tk }) (e2 : αk.its = α.its) (e3 : Inv fr αk σk hk) (e4 : Stp fr α σ s.heap αk σk hk) (e5 : whlGo T Bd m σk = some r) : WhlI fr T Bd r α σ s m s'
theorem SS.while {test : Expr} {body : List Stmt} {pos : Pos} {T : Ev} {Bd : Ex} {fuel : Nat} (ht : ST prog w fr test T) (hb : SSs prog w fr body Bd) : SS prog w fr (.While test body [] pos) (yWhl fuel T Bd) := by
  rintro σ fl σ' hF α s Q E I k
  refine wpAny_While ?_
  refine codeAny_whileLoop (WhlI fr T Bd (fl, σ') α σ s) ?_ fuel (.mk (tk := s.toks) rfl rfl I Stp.refl hF)
  rintro m s' ⟨rfl, hits, Ik, stk, ek⟩
  rename_i αk σk hk tk
  cases m with
  | zero => cases ek
  | succ m =>
    cases whlGo_inv ek with
    | stop e1 c =>
      refine ht σk _ _ e1 αk { s with heap := hk, toks := tk } _ _ Ik fun h1 t1 ev1 I1 st1 => ?_
      cases c
      exact wpAny_execs_nil (k .next αk h1 t1 hits I1 (stk.trans st1) trivial)
    | go e1 b2 b3 =>
      refine ht σk _ _ e1 αk { s with heap := hk, toks := tk } _ _ Ik fun h1 t1 ev1 I1 st1 => ?_
      simp only [if_true]
      refine hb _ _ _ b2 αk _ _ _ I1 fun f α4 h4 t4 a4 I4 st4 ok4 => ?_
      obtain rfl := ok4.nxt_inv
      exact ⟨m, Nat.lt_succ_self m, .mk (tk := t4) rfl (a4.trans hits) I4 ((stk.trans st1).trans st4) b3⟩
    | ret e1 b2 b3 =>
      refine ht σk _ _ e1 αk { s with heap := hk, toks := tk } _ _ Ik fun h1 t1 ev1 I1 st1 => ?_
      simp only [if_true]
      refine hb _ _ _ b2 αk _ _ _ I1 fun f α4 h4 t4 a4 I4 st4 ok4 => ?_
      cases b3
      obtain ⟨v, rfl, ok5⟩ := ok4.ret_inv
      exact k (.ret v) α4 h4 t4 (a4.trans hits) I4 ((stk.trans st1).trans st4) ok5
end
end Mine
end

section
open PySem PySem.W PyProof.Rows PySem.Calls
set_option autoImplicit false
namespace Mine

noncomputable def xTrue : Ev := fun σ => some (.bool true, σ)
noncomputable def compGo (tgi : List Nat) (T Fe : Ev) : List (List D) → St → Option (List D)
  | [], _ => some []
  | r :: rs, σ => (bindE (tgi.zip (r.map .sh)) σ).bind fun τ => (T τ).bind fun p => match p.1 with
    | .bool true => (Fe p.2).bind fun q => (compGo tgi T Fe rs q.2).map (q.1 :: ·)
    | .bool false => compGo tgi T Fe rs p.2
    | _ => none
noncomputable def shc : Cell → Cell
  | .sh d => .sh d
  | _ => .no
/-- what a comprehension's own frame knows at its start -/
noncomputable def inner (fm : List (Nat × Nat)) (σ : St) : St := fun j => match fm.lookup j with
  | some i => shc (σ i)
  | none => .no
noncomputable def xComp (S : EvI) (fm : List (Nat × Nat)) (tgi : List Nat) (T Fe : Ev) : Ev := fun σ => (S σ).bind fun p =>
  if p.1.length ≤ 1048576 then (compGo tgi T Fe p.1 (inner fm p.2)).map fun l => (.list l, p.2) else none

theorem closure_ {scope : Scope} {env : Env} (c : Str → Addr) (h : ∀ x ∈ scope.names, x.2 = .free → env.cells.lookup x.1 = some (c x.1)) :
    closureFor scope env = pure ((scope.names.filter (·.2 == .free)).reverse.map fun x => (x.1, c x.1)) := by
  have key : ∀ (l : List (Str × NameKind)) (acc : List (Str × Addr)), (∀ x ∈ l, x.2 = .free → env.cells.lookup x.1 = some (c x.1)) →
      (forIn l acc fun (x : Str × NameKind) (r : List (Str × Addr)) => if (x.2 == .free) = true then do let a ← cellOf env x.1; (pure (ForInStep.yield ((x.1, a) :: r)) : Sem _) else pure (ForInStep.yield r)) =
        (pure ((l.filter (·.2 == .free)).reverse.map (fun x => (x.1, c x.1)) ++ acc) : Sem (List (Str × Addr))) := by
    intro l
    induction l with
    | nil => intro acc _; rfl
    | cons x l ih =>
      intro acc hl
      have ih' := fun acc => ih acc fun y hy => hl y (List.mem_cons_of_mem _ hy)
      rw [List.forIn_cons]
      by_cases hx : x.2 = .free
      · have hc := hl x List.mem_cons_self hx
        simp only [hx, beq_self_eq_true, if_true, cellOf, hc, pure_bind, List.filter_cons, List.reverse_cons, List.map_append, List.map_cons, List.map_nil, List.append_assoc, List.cons_append, List.nil_append]
        exact ih' _
      · have hb : (x.2 == NameKind.free) = false := by simpa using hx
        simp only [hb, Bool.false_eq_true, if_false, pure_bind, List.filter_cons]
        exact ih' _
  have := key scope.names [] h
  simp only [List.append_nil] at this
  unfold closureFor
  dsimp only
  refine Eq.trans ?_ this
  exact bind_pure _

section
variable (prog : Program) (w : World) (fr : Fm)
/-- the tests of a comprehension -/
noncomputable def SCt (ifs : List Expr) (F : Ev) : Prop :=
  ∀ σ b σ', F σ = some (.bool b, σ') → ∀ (α : Al) (s : Shared) (Q : Bool → Shared → Prop) (E : Value → Shared → Prop), Inv fr α σ s.heap →
    (∀ h' tk', Evo fr σ σ' → Inv fr α σ' h' → Stp fr α σ s.heap α σ' h' → Q b { s with heap := h', toks := tk' }) →
    wpAny (model prog w) fr.A (forIn ifs true fun c r => if r = true then do let ok ← isTrue c fr.env (eval c fr.env); pure (ForInStep.yield ok) else pure (ForInStep.yield r)) Q E s
end

section
variable {prog : Program} {w : World} {fr : Fm}
theorem SCt.nil : SCt prog w fr [] xTrue := by
  rintro σ b σ' h α s Q E I k
  cases h
  exact wpAny_tests_nil (k s.heap s.toks (Evo.refl _) I Stp.refl)
theorem SCt.one {c : Expr} {T : Ev} (h : ST prog w fr c T) : SCt prog w fr [c] T := by
  rintro σ b σ' hT α s Q E I k
  exact wpAny_tests_one (h σ b σ' hT α s Q E I k)

/-- the frame of a comprehension within the frame fr -/
structure CFr (B : Heap) (fr : Fm) (scope : Scope) (cl : List (Str × Addr)) (names' : List Str) (fr' : Fm) : Prop where
  A : fr'.A = fr.A
  env : ∃ C, fr'.env = compEnvC scope cl C fr.env
  names : fr'.names = names'
  ok : FOk fr'
  bo : BOk B fr'
  bi : fr'.bi = 1000000
structure COk (fr : Fm) (scope : Scope) (cl : List (Str × Addr)) (names' : List Str) (fm : List (Nat × Nat)) : Prop where
  clos : closureFor scope fr.env = pure cl
  cell : ∀ y ∈ scope.names, y.2 ≠ .cell
  kind : scope.kind = .function
  nms : ∀ x ∈ scope.names, x.2 = .local → scope.names.lookup x.1 = some .local
  nodup : names'.Nodup
  sub : ∀ x c, cl.lookup x = some c → fr.env.cells.lookup x = some c
  free : ∀ j i, fm.lookup j = some i → ∃ x, names'[j]? = some x ∧ fr.names[i]? = some x ∧ fr.env.kindOf x = some .cell ∧ (relabel scope fr.env).names.lookup x = some .cell ∧ cl.lookup x = fr.env.cells.lookup x

theorem codeAny_compLoop_any {A : Around} {elt target iter : Expr} {ifs : List Expr} {scope : Scope} {pos : Pos} {it acc : Value} {env : Env} {R : Result → Shared → Prop} {s : Shared} (I : Nat → Shared → Prop)
    (turn : ∀ n s, I n s → wpAny (model prog w) A (pyNext it) (fun r s₁ => match r with
      | none => R (.ok .next) s₁
      | some v => wpAny (model prog w) A (letOwnedTupleGo target it v) (fun _ s₁' => wpAny (model prog w) A (assign target env v) (fun _ s₂ =>
          wpAny (model prog w) A (forIn ifs true fun c r => if r = true then do let ok ← isTrue c env (eval c env); pure (ForInStep.yield ok) else pure (ForInStep.yield r)) (fun ok s₃ =>
            if ok = true then wpAny (model prog w) A (eval elt env) (fun x s₄ =>
              wpAny (model prog w) A (call (.builtin "list.append") [acc, x]) (fun _ s₅ => ∃ m, m < n ∧ I m s₅) (notedBy (model prog w) A env fun e s' => R (.error e) s') s₄) (notedBy (model prog w) A env fun e s' => R (.error e) s') s₃
            else ∃ m, m < n ∧ I m s₃) (notedBy (model prog w) A env fun e s' => R (.error e) s') s₂)
          (notedBy (model prog w) A env fun e s' => R (.error e) s') s₁') (notedBy (model prog w) A env fun e s' => R (.error e) s') s₁) (notedBy (model prog w) A env fun e s' => R (.error e) s') s)
    (n : Nat) (h : I n s) : codeAny (model prog w) A (.compLoop (.ListComp elt [⟨target, iter, ifs, 0⟩] scope pos) 0 it acc env) R s := by
  refine codeAny_loop rfl I (fun n s hI => ?_) n h
  show wpAny _ A ((compTurn (.ListComp elt [⟨target, iter, ifs, 0⟩] scope pos) 0 it acc env).onRaise (fun x => do noteFrame x env; theTreesLotGoes x)) _ _ s
  refine wpAny_noted ?_
  rw [compTurn_list]
  refine wpAny_bind (wpAny_standAt (wpAny_bind (wpAny_mono (turn n s hI) (fun r s₁ h₁ => ?_) fun _ _ h' => h')))
  cases r with
  | none => exact wpAny_pure h₁
  | some v =>
    refine wpAny_bind (wpAny_mono h₁ (fun _ s₁' h₁' => ?_) fun _ _ h' => h')
    refine wpAny_bind (wpAny_mono h₁' (fun _ s₂ h₂ => wpAny_bind (wpAny_mono h₂ (fun ok s₃ h₃ => ?_) fun _ _ h' => h')) fun _ _ h' => h')
    cases ok with
    | false => exact wpAny_pure ⟨rfl, h₃⟩
    | true =>
      exact wpAny_bind (wpAny_bind (wpAny_mono h₃ (fun x s₄ h₄ => wpAny_bind (wpAny_mono h₄ (fun _ s₅ h₅ => wpAny_pure (wpAny_pure ⟨rfl, h₅⟩)) fun _ _ h' => h')) fun _ _ h' => h'))

theorem codeAny_compLoop_g {A : Around} {elt target iter : Expr} {ifs : List Expr} {scope : Scope} {pos : Pos} {it acc : Value} {env : Env} {R : Result → Shared → Prop} {s : Shared} (I : Nat → Shared → Prop)
    (turn : ∀ n s, I n s → ∀ (N : Option Value → Shared → Prop) (E' : Value → Shared → Prop) (B : Unit → Shared → Prop) (T : Bool → Shared → Prop) (X K : Value → Shared → Prop),
      (∀ s₁, R (.ok .next) s₁ → N none s₁) →
      (∀ v s₁, wpAny (model prog w) A (letOwnedTupleGo target it v) (fun _ s' => wpAny (model prog w) A (assign target env v) B E' s') E' s₁ → N (some v) s₁) →
      (∀ s₂, wpAny (model prog w) A (forIn ifs true fun c r => if r = true then do let ok ← isTrue c env (eval c env); pure (ForInStep.yield ok) else pure (ForInStep.yield r)) T E' s₂ → B () s₂) →
      (∀ s₃, wpAny (model prog w) A (eval elt env) X E' s₃ → T true s₃) → (∀ s₃ m, m < n → I m s₃ → T false s₃) →
      (∀ x s₄, wpAny (model prog w) A (call (.builtin "list.append") [acc, x]) K E' s₄ → X x s₄) → (∀ v s₅ m, m < n → I m s₅ → K v s₅) → wpAny (model prog w) A (pyNext it) N E' s)
    (n : Nat) (h : I n s) : codeAny (model prog w) A (.compLoop (.ListComp elt [⟨target, iter, ifs, 0⟩] scope pos) 0 it acc env) R s :=
  codeAny_compLoop_any I (fun n s hI => by
    let E' : Value → Shared → Prop := notedBy (model prog w) A env fun e s' => R (.error e) s'
    let K : Value → Shared → Prop := fun _ s₅ => ∃ m, m < n ∧ I m s₅
    let X : Value → Shared → Prop := fun x s₄ => wpAny (model prog w) A (call (.builtin "list.append") [acc, x]) K E' s₄
    let T : Bool → Shared → Prop := fun ok s₃ => if ok = true then wpAny (model prog w) A (eval elt env) X E' s₃ else ∃ m, m < n ∧ I m s₃
    let B : Unit → Shared → Prop := fun _ s₂ => wpAny (model prog w) A (forIn ifs true fun c r => if r = true then do let ok ← isTrue c env (eval c env); pure (ForInStep.yield ok) else pure (ForInStep.yield r)) T E' s₂
    exact turn n s hI _ E' B T X K (fun _ h => h) (fun _ _ h => h) (fun _ h => h) (fun _ h => by show (if true = true then _ else _); rw [if_pos rfl]; exact h) (fun _ m hm h => by show (if false = true then _ else _); rw [if_neg Bool.false_ne_true]; exact ⟨m, hm, h⟩) (fun _ _ h => h) (fun _ _ m hm h => ⟨m, hm, h⟩)) n h

inductive CompI (prog : Program) (w : World) (fr' : Fm) (tgi : List Nat) (T Fe : Ev) (rows : List (List D)) (l : List D) (wr : List Addr) (D0 : Addr) (J : (Addr → Prop) → Nat → Heap → Prop) (s : Shared) (m : Nat) (s' : Shared) : Prop
  | mk {k : Nat} {αk : Al} {τk : St} {hk : Heap} {tk : Nat} {ys : List Value} {nn : Nat} {acc rest : List D} (e1 : m = rows.length - k) (e2 : k ≤ rows.length) (e3 : s' = { s with heap := hk, toks := tk }) (e4 : αk.its = D0 :: wr) (e5 : Inv fr' αk τk hk) (e6 : J (Pr fr' αk τk) k hk)
      (e7 : hk.get? D0 = some (lst ys nn)) (e8 : RepL hk (Pr fr' αk τk) ys acc) (e9 : acc.length ≤ k) (e10 : compGo tgi T Fe (rows.drop k) τk = some rest) (e11 : acc ++ rest = l) : CompI prog w fr' tgi T Fe rows l wr D0 J s m s'
theorem comp_core {B : Heap} (ok : FOk fr) (bo : BOk B fr) {scope : Scope} {cl : List (Str × Addr)} {names' : List Str} {fm : List (Nat × Nat)} (co : COk fr scope cl names' fm) {target iter elt : Expr} {ifs : List Expr} {pos : Pos} {n : Nat} {S : EvI} {tg : List (Nat × Str)} {T Fe : Ev}
    (hi : SI prog w fr iter n S) (ht : TgT n target tg) (hw : ∀ fr', CFr B fr scope cl names' fr' → ∀ p ∈ tg, VW fr' p.1 p.2)
    (hT : ∀ fr', CFr B fr scope cl names' fr' → SCt prog w fr' ifs T) (hE : ∀ fr', CFr B fr scope cl names' fr' → SE prog w fr' elt Fe)
    {σ σ1 : St} {rows : List (List D)} {l : List D} (e1 : S σ = some (rows, σ1)) (hz : rows.length ≤ 1048576) (e2 : compGo (tg.map (·.1)) T Fe rows (inner fm σ1) = some l)
    {α : Al} {s : Shared} {E : Value → Shared → Prop} {RR : Value → Addr → Result → Shared → Prop} (I : Inv fr α σ s.heap)
    (hRR : ∀ D C h1 h2 t2 vs nn, Evo fr σ σ1 → Inv fr α σ1 h1 → Stp fr α σ s.heap α σ1 h1 → Kp h1 h2 → h1.get? D = none → h1.get? C = none → D ≠ C → h2.get? D = some (lst vs nn) →
      RepL h2 (fun b => (Pr fr α σ1 b ∨ h1.get? b = none) ∧ b ≠ D ∧ b ≠ C) vs l → (∃ m, h2.Ns C m) → RR (.ref D) C (.ok .next) { s with heap := h2, toks := t2 }) :
    wpAny (model prog w) fr.A (eval iter fr.env) (fun x s₁ => wpAny (model prog w) fr.A (pyIter x) (fun it s₂ => wpAny (model prog w) fr.A (newList []) (fun acc s₃ =>
      wpAny (model prog w) fr.A (newFunctionEnv scope fr.env.globals cl [] fr.env.qual none .none (some fr.env)) (fun cenv s₄ =>
        codeAny (model prog w) fr.A (.compStart (.ListComp elt [⟨target, iter, ifs, 0⟩] scope pos) 0 it acc { cenv with scope := relabel scope fr.env }) (RR acc cenv.locals) s₄) E s₃) E s₂) E s₁) E s := by
  refine hi σ rows σ1 e1 α s _ _ I fun I0 wr J h1 h2 t2 ev1 I1 st1 kp hnew W j0 => ?_
  refine wpAny_newObj_type (wpAny_newFunctionEnv co.cell (by intro y hy; simp at hy) (fun h3 hns3 hsb3 => ?_) co.kind)
  dsimp only at hns3 hsb3 ⊢
  generalize hH : h2.push { cls := .type "list", dict := none, data := .seq ([] : List Value).toArray } = H2 at hns3 hsb3 ⊢
  generalize hD : h2.objs.size = D0 at hns3 hsb3 ⊢
  have hC : H2.objs.size = D0 + 1 := by rw [← hH, Heap.size_push, hD]
  generalize hCC : H2.objs.size = C0 at hC hns3 hsb3 ⊢
  have hDC : D0 ≠ C0 := by rw [hC]; exact Nat.ne_of_lt (Nat.lt_succ_self _)
  have hlt2 : ∀ {b o}, h2.get? b = some o → b < D0 := fun {b o} e => hD ▸ Heap.lt_size e
  have hD2 : h2.get? D0 = none := by rw [← hD]; exact no_size _
  have hC2 : h2.get? C0 = none := by
    cases q : h2.get? C0 with
    | none => rfl
    | some o => have := hlt2 q; rw [hC] at this; exact absurd this (Nat.not_lt_of_le (Nat.le_succ _))
  have kp3 : Kp h2 h3 := fun b o e => by
    have hb : b ≠ C0 := by rintro rfl; rw [hC2] at e; cases e
    exact hsb3.extBut b o hb (Heap.get?_push_of_some _ (hH ▸ Heap.get?_push_of_some _ e))
  have hD3 : h3.get? D0 = some (lst [] 0) := hsb3.extBut _ _ hDC (Heap.get?_push_of_some _ (hH ▸ by rw [← hD]; exact Heap.get?_push_size _ rfl))
  have hD1 : h1.get? D0 = none := kp.none hD2
  have hC1 : h1.get? C0 = none := kp.none hC2
  have hwr2 : ∀ b ∈ wr, ∃ o, h2.get? b = some o := fun b hb => (hnew b hb).2
  have hDwr : D0 ∉ wr := fun hb => by obtain ⟨o, e⟩ := hwr2 _ hb; rw [hD2] at e; cases e
  have hCwr : C0 ∉ wr := fun hb => by obtain ⟨o, e⟩ := hwr2 _ hb; rw [hC2] at e; cases e
  let fr' : Fm := { A := fr.A, env := compEnvC scope cl C0 fr.env, names := names', entry := h1, old := Pr fr α σ1, bx := none, bi := 1000000 }
  have hcell1 : ∀ x c, cl.lookup x = some c → ∃ v o, h1.get? c = some o ∧ o.data = .cell v := fun x c hc => by
    obtain ⟨v, o, e, d⟩ := I1.cells x c (co.sub x c hc)
    exact ⟨v, o, e, d⟩
  have ok' : FOk fr' := by
    refine ⟨co.kind, ok.glob, ok.blt, hC1, fun x y c hx hy => ok.capart x y c (co.sub x c hx) (co.sub y c hy), fun x c hc => ?_, co.nodup, ok.hh⟩
    obtain ⟨v, o, e, _⟩ := hcell1 x c hc
    intro (hq : c = C0)
    rw [hq, hC1] at e; cases e
  have cf : CFr B fr scope cl names' fr' := ⟨rfl, ⟨C0, rfl⟩, rfl, ok', ⟨I1.base bo, fun a ha => (by cases ha)⟩, rfl⟩
  let α' : Al := ⟨fun _ => 0, D0 :: wr⟩
  have noow : ∀ j l, inner fm σ1 j = .ow l → False := fun j l hj => by
    simp only [inner] at hj
    split at hj
    · rename_i i _
      cases hh : σ1 i <;> rw [hh] at hj <;> cases hj
    · cases hj
  have prin : ∀ b o, Pr fr α σ1 b → h1.get? b = some o → Pr fr' α' (inner fm σ1) b := fun b o p e => by
    refine ⟨.inl p, ?_, fun x c hc => p.cell x c (co.sub x c hc), fun i l hl => (noow i l hl).elim, fun hb => ?_⟩
    · intro (hq : b = C0)
      rw [hq, hC1] at e; cases e
    · rcases List.mem_cons.mp hb with rfl | hb
      · rw [hD1] at e; cases e
      · rw [(hnew b hb).1] at e; cases e
  have I0' : Inv fr' α' (inner fm σ1) h3 := by
    refine ⟨⟨_, hns3⟩, fun x c hc => ?_, fun b o _ e => kp3 _ _ (kp _ _ e), fun a ha => (by cases ha), fun j x hx d hd => ?_, fun j x hx l hl => (noow j l hl).elim, fun j l hl => (noow j l hl).elim, fun b hb => ?_, fun i j l l' hi => (noow i l hi).elim⟩
    · obtain ⟨v, o, e, d⟩ := hcell1 x c hc
      exact ⟨v, o, kp3 _ _ (kp _ _ e), d⟩
    · simp only [inner] at hd
      split at hd
      · rename_i i hi'
        obtain ⟨x', hx1, hx2, hk1, hk2, hc⟩ := co.free j i hi'
        have : x = x' := by
          have hx' : names'[j]? = some x := hx
          rw [hx1] at hx'; cases hx'; rfl
        subst this
        have hsi : σ1 i = .sh d := by cases hh : σ1 i <;> rw [hh] at hd <;> cases hd; rfl
        obtain ⟨v, lk, r⟩ := I1.var i x hx2 d hsi
        refine ⟨v, ?_, r.mono fun b o p e => ⟨prin b o p e, kp3 _ _ (kp _ _ e)⟩⟩
        rcases lk with ⟨a, _⟩ | ⟨_, c, hc', hv⟩
        · rw [hk1] at a; cases a
        · exact .inr ⟨.inl hk2, c, hc.trans hc', (hv.keeps kp).keeps kp3⟩
      · cases hd
    · have hb1 : h1.get? b = none := by
        rcases List.mem_cons.mp hb with rfl | hb
        · exact hD1
        · exact (hnew b hb).1
      refine ⟨?_, hb1, ?_, fun x c hc => ?_, fun i l hl => (noow i l hl).elim⟩
      · rcases List.mem_cons.mp hb with rfl | hb
        · exact ⟨_, hD3⟩
        · obtain ⟨o, e⟩ := hwr2 b hb
          exact ⟨o, kp3 _ _ e⟩
      · rcases List.mem_cons.mp hb with rfl | hb
        · exact hDC
        · rintro rfl; exact hCwr hb
      · obtain ⟨v, o, e, _⟩ := hcell1 x c hc
        rintro rfl; rw [hb1] at e; cases e
  have j0' : J (Pr fr' α' (inner fm σ1)) 0 h3 := W.mono j0 (fun b o p e => ⟨⟨.inl p.1, fun (hq : b = C0) => (by rw [hq, hC2] at e; cases e), fun x c hc => p.1.cell x c (co.sub x c hc), fun i l hl => (noow i l hl).elim, fun hb => (List.mem_cons.mp hb).elim (fun hq => (by rw [hq, hD2] at e; cases e)) p.2⟩, kp3 _ _ e⟩) fun b _ o e => kp3 _ _ e
  have loop : ∀ s₃ : Shared, s₃ = { s with heap := h3, toks := t2 + ([] : List (Str × Value)).length } →
      codeAny (model prog w) fr.A (.compLoop (.ListComp elt [⟨target, iter, ifs, 0⟩] scope pos) 0 (.ref I0) (.ref D0) (compEnvC scope cl C0 fr.env)) (RR (.ref D0) C0) s₃ := by
    rintro s₃ rfl
    refine codeAny_compLoop_g (CompI prog w fr' (tg.map (·.1)) T Fe rows l wr D0 J s) ?_ rows.length
      (.mk (k := 0) (tk := t2 + ([] : List (Str × Value)).length) rfl (Nat.zero_le _) rfl rfl I0' j0' hD3 .nil (Nat.le_refl _) e2 rfl)
    intro m s' hCI N E' Bb Tt Xx Kk kN kS kB kT kF kX kK
    obtain ⟨rfl, hk', rfl, hits, Ik, jk, hDk, rk, hacc, ek, el⟩ := hCI
    rename_i k αk τk hk tk ys nn acc rest
    have hwrits : ∀ b ∈ wr, b ∈ αk.its := fun b hb => by rw [hits]; exact List.mem_cons_of_mem _ hb
    have hDits : D0 ∈ αk.its := by rw [hits]; exact List.mem_cons_self
    by_cases hlt : k < rows.length
    · have hrow : rows[k]? = some rows[k] := List.getElem?_eq_getElem hlt
      rw [List.drop_eq_getElem_cons hlt] at ek
      simp only [compGo, Option.bind_eq_some_iff] at ek
      obtain ⟨τ, b1, ⟨c, τ2⟩, b2, b3⟩ := ek
      refine W.turn (fr := fr') ok' rfl ht (hw fr' cf) hrow (s := { s with heap := hk, toks := tk }) kS jk Ik hwrits b1 ?_
      intro α3 h4 t4 a3 I4 st4 it4 j4
      refine kB _ ?_
      have hD4 : h4.get? D0 = some (lst ys nn) := it4 D0 hDits hDwr _ hDk
      have r4 := st4.repL rk
      have hwr4 : ∀ b ∈ wr, b ∈ α3.its := fun b hb => by rw [a3]; exact hwrits b hb
      have hD4i : D0 ∈ α3.its := by rw [a3]; exact hDits
      cases c with
      | bool c =>
        refine hT fr' cf τ c τ2 b2 α3 _ _ _ I4 fun h5 t5 ev5 I5 st5 => ?_
        have hD5 := (st5.it D0 hD4i).2 _ hD4
        have r5 := st5.repL r4
        have j5 := W.mono j4 st5.pr fun b hb o e => (st5.it b (hwr4 b hb)).2 o e
        cases c with
        | false =>
          exact kF _ _ (Nat.sub_lt_sub_left hlt (Nat.lt_succ_self k)) (.mk (k := k + 1) (tk := t5) rfl hlt rfl (a3.trans hits) I5 j5 hD5 r5 (Nat.le_succ_of_le hacc) b3 el)
        | true =>
          simp only [Option.bind_eq_some_iff, Option.map_eq_some_iff] at b3
          obtain ⟨⟨d, τ3⟩, b4, rest', b5, b6⟩ := b3
          refine kT _ (hE fr' cf τ2 d τ3 b4 α3 _ _ _ I5 fun v h6 t6 ev6 I6 st6 r6 => kX _ _ ?_)
          have hD6 := (st6.it D0 hD4i).2 _ hD5
          have r6' := st6.repL r5
          have j6 := W.mono j5 st6.pr fun b hb o e => (st6.it b (hwr4 b hb)).2 o e
          have hyl := rk.length
          refine wpAny_list_append_plain (s := { s with heap := h6, toks := t6 }) (l := D0) (items := ys.toArray) ⟨nn, hD6⟩ (fun h7 hp7 hs7 => ?_) (by simp [sizeLine_eq]; (first | lia | omega))
          obtain ⟨n7, hD7⟩ := hp7
          have hD7' : h7.get? D0 = some (lst (ys ++ [v]) n7) := by rw [hD7]; simp
          obtain ⟨I7, st7, it7⟩ := I6.item (wr := [D0]) (h' := h7) (fun b hb => by rw [List.mem_singleton.mp hb]; exact hD4i) (fun b o hb e => hs7.extBut b o (by simpa using hb) e) (fun b hb => by rw [List.mem_singleton.mp hb]; exact ⟨_, hD7⟩)
          have j7 := W.mono j6 st7 fun b hb o e => it7 b (hwr4 b hb) (by simp; rintro rfl; exact hDwr hb) o e
          exact kK _ _ _ (Nat.sub_lt_sub_left hlt (Nat.lt_succ_self k)) (.mk (k := k + 1) (tk := t6) (acc := acc ++ [d]) (rest := rest') rfl hlt rfl (a3.trans hits) I7 j7 hD7' ((st7.repL r6').append (.cons (st7.rep r6) .nil)) (by rw [List.length_append]; exact Nat.succ_le_succ hacc) b5 (by rw [← el, ← b6]; simp))
      | _ => cases b3
    · have he : k = rows.length := Nat.le_antisymm hk' (Nat.le_of_not_lt hlt)
      subst he
      rw [List.drop_length] at ek
      cases ek
      simp only [List.append_nil] at el
      subst el
      refine W.done (s := { s with heap := hk, toks := tk }) jk fun h5 t5 hk5 => kN _ ?_
      dsimp only at hk5
      refine hRR D0 C0 h1 h5 t5 ys nn ev1 I1 st1 (fun b o e => hk5 b o (fun hb => by rw [(hnew b hb).1] at e; cases e) (Ik.keep b o (fun hx => by cases hx) e)) hD1 hC1 hDC (hk5 _ _ hDwr hDk) (rk.mono fun b o p e => ⟨⟨p.old, fun hb => p.its (by rw [hb]; exact hDits), p.loc⟩, hk5 b o (fun hb => p.its (hwrits b hb)) e⟩) ?_
      obtain ⟨mm, hm⟩ := Ik.ns
      exact ⟨mm, Heap.Ns.at' (h := hk) (h' := h5) (a := C0) hm fun o e => hk5 _ o hCwr e⟩
  have hself : wpAny (model prog w) fr.A (pyIter (.ref I0)) (fun it' s' => codeAny (model prog w) fr.A (.compLoop (.ListComp elt [⟨target, iter, ifs, 0⟩] scope pos) 0 it' (.ref D0) (compEnvC scope cl C0 fr.env)) (RR (.ref D0) C0) s')
      (notedBy (model prog w) fr.A (compEnvC scope cl C0 fr.env) fun x s' => RR (.ref D0) C0 (.error x) s') { s with heap := h3, toks := t2 + ([] : List (Str × Value)).length } :=
    W.self j0' (loop _ rfl)
  exact codeAny_compStart_list (loop _ rfl) hself

theorem SE.comp {B : Heap} (ok : FOk fr) (bo : BOk B fr) {scope : Scope} {cl : List (Str × Addr)} {names' : List Str} {fm : List (Nat × Nat)} (co : COk fr scope cl names' fm) {target iter elt : Expr} {ifs : List Expr} {pos : Pos} {n : Nat} {S : EvI} {tg : List (Nat × Str)} {tgi : List Nat} {T Fe : Ev}
    (hi : SI prog w fr iter n S) (ht : TgT n target tg) (hw : ∀ fr', CFr B fr scope cl names' fr' → ∀ p ∈ tg, VW fr' p.1 p.2) (htg : tg.map (·.1) = tgi)
    (hT : ∀ fr', CFr B fr scope cl names' fr' → SCt prog w fr' ifs T) (hE : ∀ fr', CFr B fr scope cl names' fr' → SE prog w fr' elt Fe) (hs : ∀ env x, foldedSetIterable iter env x = pure x) :
    SE prog w fr (.ListComp elt [⟨target, iter, ifs, 0⟩] scope pos) (xComp S fm tgi T Fe) := by
  subst htg
  rintro σ d σ' hF α s Q E I k
  simp only [xComp, Option.bind_eq_some_iff] at hF
  obtain ⟨⟨rows, σ1⟩, e1, e2⟩ := hF
  dsimp only at e2
  split at e2
  · rename_i hz
    simp only [Option.map_eq_some_iff] at e2
    obtain ⟨l, e3, e4⟩ := e2
    cases e4
    rw [eval_ListComp]
    refine wpAny_comprehension_free (use := none) rfl (hs _) co.clos co.kind co.nms ?_
    refine comp_core (RR := fun acc C => compPost (model prog w) fr.A E none Q acc C) ok bo co hi ht hw hT hE e1 hz e3 I ?_
    intro D C h1 h2 t2 vs nn ev1 I1 st1 kp hD hC hDC ho rl hns
    obtain ⟨m, hns⟩ := hns
    refine ⟨m, hns, fun h' hs' => ?_⟩
    have kp' : Kp h1 h' := fun b o e => hs'.extBut b o (by rintro rfl; rw [hC] at e; cases e) (kp _ _ e)
    refine k _ h' t2 ev1 (I1.kp kp') (st1.trans (Stp.kp kp')) (.list (I1.fresh hD) (hs'.extBut _ _ hDC ho) (rl.mono fun b o p e => ⟨p.1.elim id fun q => I1.fresh q, hs'.extBut b o p.2.2 e⟩))
  · cases e2

/-- a comprehension stored at once under a name -/
theorem SS.comp {B : Heap} (ok : FOk fr) (bo : BOk B fr) {scope : Scope} {cl : List (Str × Addr)} {names' : List Str} {fm : List (Nat × Nat)} (co : COk fr scope cl names' fm) {target iter elt : Expr} {ifs : List Expr} {pos spos py : Pos} {y : Str} {i : Nat} {n : Nat} {S : EvI} {tg : List (Nat × Str)} {tgi : List Nat} {T Fe : Ev}
    (vw : VW fr i y) (hi : SI prog w fr iter n S) (ht : TgT n target tg) (hw : ∀ fr', CFr B fr scope cl names' fr' → ∀ p ∈ tg, VW fr' p.1 p.2) (htg : tg.map (·.1) = tgi)
    (hT : ∀ fr', CFr B fr scope cl names' fr' → SCt prog w fr' ifs T) (hE : ∀ fr', CFr B fr scope cl names' fr' → SE prog w fr' elt Fe) (hs : ∀ env x, foldedSetIterable iter env x = pure x)
    (hsw : swapsWith (.ListComp elt [⟨target, iter, ifs, 0⟩] scope pos) (some (.Name y py)) spos.line fr.env = pure true) :
    SS prog w fr (.Assign [.Name y py] (.ListComp elt [⟨target, iter, ifs, 0⟩] scope pos) spos) (ySet i (xComp S fm tgi T Fe)) := by
  subst htg
  rintro σ fl σ' hF α s Q E I k
  simp only [ySet, Option.map_eq_some_iff, xComp, Option.bind_eq_some_iff] at hF
  obtain ⟨⟨d, σ2⟩, ⟨⟨rows, σ1⟩, e1, e2⟩, e5⟩ := hF
  dsimp only at e2
  split at e2
  · rename_i hz
    simp only [Option.map_eq_some_iff] at e2
    obtain ⟨l, e3, e4⟩ := e2
    cases e4
    cases e5
    rw [exec_Assign_Name_used _ _ _ _ hsw]
    refine wpAny_bind (wpAny_standAt (wpAny_bind ?_))
    show wpAny _ fr.A (do let _ ← comprehension (.ListComp elt [⟨target, iter, ifs, 0⟩] scope pos) scope fr.env _ (newList []) false (eval iter fr.env) (some (assign (.Name y py) fr.env))) _ _ s
    refine wpAny_bind (wpAny_mono (wpAny_comprehension_free (use := some (assign (.Name y py) fr.env)) (Q := fun _ s' => Q .next s') rfl (hs _) co.clos co.kind co.nms ?_) (fun _ s' hq => wpAny_pure (wpAny_pure hq)) fun _ _ e => e)
    refine comp_core (RR := fun acc C => compPost (model prog w) fr.A E (some (assign (.Name y py) fr.env)) (fun _ s' => Q .next s') acc C) ok bo co hi ht hw hT hE e1 hz e3 I ?_
    intro D C h1 h2 t2 vs nn ev1 I1 st1 kp hD hC hDC ho rl hns
    obtain ⟨m, hns⟩ := hns
    -- the comprehension's names are set apart
    have hC2 : ∃ o, h2.get? C = some o := by obtain ⟨o, _, _, e, _⟩ := hns; exact ⟨o, e⟩
    obtain ⟨I2, st2⟩ := I1.apart (new := [C]) kp (fun b hb => by rw [List.mem_singleton.mp hb]; exact hC) (fun b hb => by rw [List.mem_singleton.mp hb]; exact hC2)
    have prj : ∀ b, (Pr fr α σ2 b ∨ h1.get? b = none) → b ≠ C → Pr fr { α with its := [C] ++ α.its } σ2 b := fun b p hb => by
      have q : Pr fr α σ2 b := p.elim id fun q => I1.fresh q
      exact ⟨q.old, q.loc, q.cell, q.own, fun hm => by
        rcases List.mem_cons.mp hm with rfl | hm
        · exact hb rfl
        · exact q.its hm⟩
    have rD : Rep h2 (Pr fr { α with its := [C] ++ α.its } σ2) (.ref D) (.list l) := .list (prj D (.inr hD) hDC) ho (rl.mono fun b o p e => ⟨prj b p.1 p.2.2, e⟩)
    show wpAny _ fr.A (assign (.Name y py) fr.env (.ref D)) _ _ _
    refine wpAny_assign_Name (store_ ok I2.ns I2.cells vw.k fun h3 t3 S => ?_)
    obtain ⟨I3, st3⟩ := I2.store_sh ok vw.n vw.b S rD
    have hCn := I2.its C (by simp)
    have hC3 : h3.get? C = h2.get? C := S.same C hCn.2.2.1 hCn.2.2.2.1
    refine ⟨m, hns.at' fun o e => hC3.trans e, fun h4 hs4 => ?_⟩
    have hap : ∀ b ∈ α.its, b ∉ [C] := fun b hb hm => by
      rw [List.mem_singleton.mp hm] at hb
      obtain ⟨⟨o, e⟩, _⟩ := I1.its C hb
      rw [hC] at e; cases e
    obtain ⟨I4, st4, it4⟩ := I3.done (wr := [C]) (its0 := α.its) (h' := h4) rfl hap (fun b o hb e => hs4.extBut b o (by simpa using hb) e)
    have stA := (st1.trans st2).trans st3
    exact k .next _ h4 t3 rfl I4 ⟨stA.pr.trans st4, fun b hb => ⟨hb, fun o e => it4 b hb o ((stA.it b hb).2 o e)⟩⟩ trivial
  · cases e2
end
end Mine
end

section
open PySem PySem.W PyProof.Rows PySem.Calls
set_option autoImplicit false
namespace Mine

/-- a def of the text as the base heap has it -/
structure Def (B : Heap) (mg : Str → Option Value) (name : Str) (params : Arguments) (body : List Stmt) (scope : Scope) (f : Addr) (o : Obj) (pm cd doc : Value) : Prop where
  m : mg name = some (.ref f)
  g : B.get? f = some o
  d : o.data = .func (docDef name params body scope pm cd doc)
  c : B.CodeRec cd name

theorem bindL_miss {kindOf : Str → Option NameKind} {x : Str} : ∀ {ps : List Str} {vs : List Value} {m : Str → Option Value}, x ∉ ps → bindL kindOf (ps.zip vs) m x = m x
  | [], _, _, _ => by simp [bindL]
  | _ :: _, [], _, _ => by simp [bindL]
  | p :: ps, v :: vs, m, h => by
    have h1 : x ≠ p := fun e => h (by simp [e])
    have h2 : x ∉ ps := fun e => h (by simp [e])
    show bindL kindOf (ps.zip vs) _ x = _
    rw [bindL_miss h2]
    split
    · simp [h1]
    · rfl
theorem bindC_miss {kindOf : Str → Option NameKind} {x : Str} : ∀ {ps : List Str} {vs : List Value} {m : Str → Option Value}, x ∉ ps → bindC kindOf (ps.zip vs) m x = m x
  | [], _, _, _ => by simp [bindC]
  | _ :: _, [], _, _ => by simp [bindC]
  | p :: ps, v :: vs, m, h => by
    have h1 : x ≠ p := fun e => h (by simp [e])
    have h2 : x ∉ ps := fun e => h (by simp [e])
    show bindC kindOf (ps.zip vs) _ x = _
    rw [bindC_miss h2]
    split
    · rfl
    · simp [h1]
theorem bindL_at {kindOf : Str → Option NameKind} {x : Str} {v : Value} : ∀ {ps : List Str} {vs : List Value} {m : Str → Option Value} {j : Nat}, ps.Nodup → ps[j]? = some x → vs[j]? = some v → kindOf x = some .local → bindL kindOf (ps.zip vs) m x = some v
  | [], _, _, _, _, h, _, _ => by simp at h
  | _ :: _, [], _, _, _, _, h, _ => by simp at h
  | p :: ps, v' :: vs, m, j, hn, h1, h2, hk => by
    obtain ⟨hn1, hn2⟩ := List.nodup_cons.mp hn
    cases j with
    | zero =>
      simp at h1 h2
      subst h1 h2
      show bindL kindOf (ps.zip vs) _ p = _
      rw [bindL_miss hn1, if_pos hk]
      simp
    | succ j =>
      show bindL kindOf (ps.zip vs) _ x = _
      exact bindL_at (j := j) hn2 (by simpa using h1) (by simpa using h2) hk
theorem bindC_at {kindOf : Str → Option NameKind} {x : Str} {v : Value} : ∀ {ps : List Str} {vs : List Value} {m : Str → Option Value} {j : Nat}, ps.Nodup → ps[j]? = some x → vs[j]? = some v → kindOf x = some .cell → bindC kindOf (ps.zip vs) m x = some v
  | [], _, _, _, _, h, _, _ => by simp at h
  | _ :: _, [], _, _, _, _, h, _ => by simp at h
  | p :: ps, v' :: vs, m, j, hn, h1, h2, hk => by
    obtain ⟨hn1, hn2⟩ := List.nodup_cons.mp hn
    cases j with
    | zero =>
      simp at h1 h2
      subst h1 h2
      show bindC kindOf (ps.zip vs) _ p = _
      rw [bindC_miss hn1, if_neg (by rw [hk]; intro h; cases h)]
      simp
    | succ j =>
      show bindC kindOf (ps.zip vs) _ x = _
      exact bindC_at (j := j) hn2 (by simpa using h1) (by simpa using h2) hk

/-- the frame of a def's call -/
structure DFr (prog : Program) (w : World) (B : Heap) (mg mb : Str → Option Value) (n : Nat) (scope : Scope) (names : List Str) (bi : Nat) (fr : Fm) : Prop where
  ok : FOk fr
  bo : BOk B fr
  r : Rm fr.A n
  names : fr.names = names
  sc : fr.env.scope = scope
  cells : fr.env.cells = cellsFrom (fr.env.locals + 1) scope.names []
  cnew : ∀ x c, fr.env.cells.lookup x = some c → fr.entry.get? c = none
  bi : fr.bi = bi

noncomputable def initS (ds : List D) : St := fun j => match ds[j]? with
  | some d => .sh d
  | none => .no
noncomputable def resD : Fl → D
  | .ret d => d
  | .nxt => .none
/-- what a def gives -/
noncomputable def gOf (k : Nat) (F : Ex) : List D → Option D := fun ds => if ds.length = k then (F (initS ds)).map fun r => resD r.1 else none
noncomputable def initB (ns : List Int) (ds : List D) : St := fun j => match j with
  | 0 => .ow (di ns)
  | j + 1 => initS ds j
noncomputable def gOfB (k : Nat) (F : Ex) : List Int → List D → Option (D × List Int) := fun ns ds => if ds.length = k then (F (initB ns ds)).bind fun r => (own? (r.2 0)).bind fun l => (ints? l).map fun ns' => (resD r.1, ns') else none

section
variable {prog : Program} {w : World} {B : Heap} {mg mb : Str → Option Value}

theorem lookup_mem {β : Type} {l : List (Str × β)} {x : Str} {c : β} (h : l.lookup x = some c) : (x, c) ∈ l := by
  induction l with
  | nil => cases h
  | cons p l ih =>
    obtain ⟨y, d⟩ := p
    rw [List.lookup_cons] at h
    split at h
    · rename_i e
      have : x = y := by simpa using e
      cases h; subst this; exact List.mem_cons_self
    · exact List.mem_cons_of_mem _ (ih h)

theorem pair_inj {cs : List (Str × Addr)} (hp : cs.Pairwise fun x y => x.2 ≠ y.2) {x y : Str} {c : Addr} (hx : (x, c) ∈ cs) (hy : (y, c) ∈ cs) : x = y := by
  induction cs with
  | nil => cases hx
  | cons p cs ih =>
    obtain ⟨h1, h2⟩ := List.pairwise_cons.mp hp
    rcases List.mem_cons.mp hx with e1 | hx'
    · rcases List.mem_cons.mp hy with e2 | hy'
      · rw [← e2] at e1; cases e1; rfl
      · subst e1; exact absurd rfl (h1 (y, c) hy')
    · rcases List.mem_cons.mp hy with e2 | hy'
      · subst e2; exact absurd rfl (h1 (x, c) hx')
      · exact ih h2 hx' hy'

theorem mkFrame {A : Around} {s s₁ : Shared} {P : Addr → Prop} {name : Str} {params : Arguments} {body : List Stmt} {scope : Scope} {pm cd doc : Value} {f : Addr} {n : Nat} {names : List Str} {m cm : Str → Option Value} {bx : Option Addr} {bi : Nat}
    (hr : Rm A (n + 1)) (hB : Kp B s.heap) (hbx : ∀ a, bx = some a → B.get? a = none) (hkind : scope.kind = .function) (hnd : names.Nodup)
    (x : InCallC s (callEnvC (docDef name params body scope pm cd doc) s.heap.objs.size f).locals m (callEnvC (docDef name params body scope pm cd doc) s.heap.objs.size f).cells cm s₁) :
    DFr prog w B mg mb n scope names bi { A := A.deeper (callEnvC (docDef name params body scope pm cd doc) s.heap.objs.size f), env := callEnvC (docDef name params body scope pm cd doc) s.heap.objs.size f, names := names, entry := s.heap, old := P, bx := bx, bi := bi } where
  ok := {
    kind := hkind
    glob := rfl
    blt := rfl
    lnew := no_size _
    capart := fun y z c hy hz => pair_inj x.apart (lookup_mem hy) (lookup_mem hz)
    cloc := fun y c hc => Nat.ne_of_gt (x.above y c (lookup_mem hc))
    nodup := hnd
    hh := hr.h }
  bo := ⟨hB, hbx⟩
  r := hr.deeper
  names := rfl
  sc := rfl
  cells := rfl
  cnew := fun y c hc => by
    have := x.above y c (lookup_mem hc)
    cases q : s.heap.get? c with
    | none => rfl
    | some o => exact absurd (Heap.lt_size q) (Nat.not_lt_of_lt this)
  bi := rfl

theorem inv0 {fr : Fm} {P : Addr → Prop} {H h₁ : Heap} {ds : List D} {m : Str → Option Value} (e0 : fr.old = P) (e1 : fr.entry = H) (e2 : fr.bx = none) (hns : h₁.Ns fr.env.locals m) (hcell : ∀ y c, fr.env.cells.lookup y = some c → ∃ v o, h₁.get? c = some o ∧ o.data = .cell v) (hkp : Kp H h₁) (hL : H.get? fr.env.locals = none)
    (hC : ∀ y c, fr.env.cells.lookup y = some c → H.get? c = none) (lk : ∀ (j : Nat) (y : Str) (d : D), fr.names[j]? = some y → ds[j]? = some d → ∃ v, Look fr.env h₁ y v ∧ Rep H P v d) : Inv fr ⟨fun _ => 0, []⟩ (initS ds) h₁ := by
  have no : ∀ i l, initS ds i = .ow l → False := fun i l hl => by
    simp only [initS] at hl
    split at hl <;> cases hl
  refine ⟨⟨_, hns⟩, hcell, fun b o _ e => hkp b o (by rw [e1] at e; exact e), fun a ha => (by rw [e2] at ha; cases ha), fun j y hy d' hd => ?_, fun j y _ l hl => (no j l hl).elim, fun j l hl => (no j l hl).elim, fun b hb => (by cases hb), fun i j l l' hi => (no i l hi).elim⟩
  simp only [initS] at hd
  cases hj : ds[j]? with
  | none => rw [hj] at hd; cases hd
  | some d2 =>
    rw [hj] at hd; cases hd
    obtain ⟨v, l, r⟩ := lk j y _ hy hj
    exact ⟨v, l, r.mono fun b o p e => ⟨⟨.inl (by rw [e0]; exact p), fun (q : b = fr.env.locals) => (by rw [q, hL] at e; cases e), fun y c hc (q : b = c) => (by rw [q, hC y c hc] at e; cases e), fun i l hl => (no i l hl).elim, fun hb => (by cases hb)⟩, hkp b o e⟩⟩
theorem fnOK {name : Str} {params : Arguments} {body : List Stmt} {scope : Scope} {f : Addr} {o : Obj} {pm cd doc : Value} {n k : Nat} {ps locs : List Str} {F : Ex} (D0 : Def B mg name params body scope f o pm cd doc) (hlim : B.NoLimit)
    (hbind : ∀ vs : List Value, vs.length = k → bindArgs (docDef name params body scope pm cd doc) ⟨vs, []⟩ = pure (ps.zip vs)) (hps : ps.length = k)
    (hkind : ∀ L : Nat, ∀ x ∈ ps, scope.names.lookup x = some .local ∨ (scope.names.lookup x = some .cell ∧ ((cellsFrom (L + 1) scope.names []).lookup x).isSome = true))
    (hnd : (ps ++ locs).Nodup) (hk : scope.kind = .function) (hco : scope.isCoroutine = false) (hgen : scope.isGenerator = false)
    (hF : ∀ fr, DFr prog w B mg mb n scope (ps ++ locs) 1000000 fr → SSs prog w fr body F) : FnOK prog w B (n + 1) f (gOf k F) := by
  intro A s P vs ds d hr hB rl hG Q E kk
  simp only [gOf] at hG
  split at hG
  · rename_i hlen
    simp only [Option.map_eq_some_iff] at hG
    obtain ⟨⟨fl, σ'⟩, e1, e2⟩ := hG
    have hvl : vs.length = k := rl.length.trans hlen
    refine wpAny_call (codeAny_call_cells (fd := docDef name params body scope pm cd doc) (by have := hr.d; (first | lia | omega)) (hB _ _ D0.g) D0.d (hlim.keeps hB) (D0.c.keeps hB) rfl (hbind vs hvl) rfl (fun x hx => hkind _ x.1 (List.of_mem_zip hx).1) (fun s₁ x => ?_) hco hgen hk)
    have fx := mkFrame (prog := prog) (w := w) (mg := mg) (mb := mb) (P := P) (bx := none) (bi := 1000000) (names := ps ++ locs) hr hB (fun a ha => (by cases ha)) hk hnd x
    obtain ⟨h₁, t₁, rfl, hkp⟩ := x.done
    have hnames : ∀ {j y}, (ps ++ locs)[j]? = some y → ∀ {d}, ds[j]? = some d → ps[j]? = some y := fun {j y} hy {d} hd => by
      have : j < ps.length := by have := (List.getElem?_eq_some_iff.mp hd).1; (first | lia | omega)
      rwa [List.getElem?_append_left this] at hy
    refine hF _ fx (initS ds) fl σ' e1 ⟨fun _ => 0, []⟩ _ _ _ ?_ fun f' α' h' t' a' I' st' ok' => ?_
    · refine inv0 (H := s.heap) rfl rfl rfl x.toInCall.ns (fun y c hc => ⟨_, x.cell y c hc⟩) hkp (no_size _) (fun y c hc => fx.cnew y c hc) fun j y d2 hy hj => ?_
      obtain ⟨v, hv, rv⟩ := rl.get hj
      have hy' := hnames hy hj
      have hndp : ps.Nodup := (List.nodup_append.mp hnd).1
      refine ⟨v, ?_, rv⟩
      rcases hkind s.heap.objs.size y (List.mem_of_getElem? hy') with q | ⟨q, q2⟩
      · exact .inl ⟨q, _, x.toInCall.ns, bindL_at hndp hy' hv q⟩
      · obtain ⟨c, hc⟩ := Option.isSome_iff_exists.mp q2
        refine .inr ⟨.inl q, c, hc, ?_⟩
        have := x.cell y c hc
        rwa [bindC_at hndp hy' hv q] at this
    · dsimp only at e2
      subst e2
      have hkeep : Kp s.heap h' := fun b o e => I'.keep b o (fun q => (by cases q)) e
      cases fl with
      | nxt => cases f' with
        | next => exact kk _ h' t' hkeep .none
        | _ => exact ok'.elim
      | ret d => cases f' with
        | ret v => exact kk v h' t' hkeep (Rep.mono (fun b o p e => ⟨p.old, e⟩) ok')
        | _ => exact ok'.elim
  · cases hG

theorem fnB {name : Str} {params : Arguments} {body : List Stmt} {scope : Scope} {f : Addr} {o : Obj} {pm cd doc : Value} {n k : Nat} {box : Str} {ps locs : List Str} {F : Ex} (D0 : Def B mg name params body scope f o pm cd doc) (hlim : B.NoLimit)
    (hbind : ∀ vs : List Value, vs.length = k + 1 → bindArgs (docDef name params body scope pm cd doc) ⟨vs, []⟩ = pure ((box :: ps).zip vs)) (hps : ps.length = k)
    (hkind : ∀ L : Nat, ∀ x ∈ box :: ps, scope.names.lookup x = some .local ∨ (scope.names.lookup x = some .cell ∧ ((cellsFrom (L + 1) scope.names []).lookup x).isSome = true))
    (hnd : (box :: ps ++ locs).Nodup) (hk : scope.kind = .function) (hco : scope.isCoroutine = false) (hgen : scope.isGenerator = false)
    (hF : ∀ fr, DFr prog w B mg mb n scope (box :: ps ++ locs) 0 fr → SSs prog w fr body F) : FnB prog w B (n + 1) f (gOfB k F) := by
  intro A s P bx vb nb ns vs ds d ns' hr hB hbn hb hints rl hPb hG Q E kk
  simp only [gOfB] at hG
  split at hG
  · rename_i hlen
    simp only [Option.bind_eq_some_iff, Option.map_eq_some_iff] at hG
    obtain ⟨⟨fl, σ'⟩, e1, l', e2, ns2, e3, e4⟩ := hG
    cases e4
    replace e2 : σ' 0 = .ow l' := own?_eq e2
    have hvl : (Value.ref bx :: vs).length = k + 1 := by simp [rl.length, hlen]
    refine wpAny_call (codeAny_call_cells (fd := docDef name params body scope pm cd doc) (by have := hr.d; (first | lia | omega)) (hB _ _ D0.g) D0.d (hlim.keeps hB) (D0.c.keeps hB) rfl (hbind _ hvl) rfl (fun x hx => hkind _ x.1 (List.of_mem_zip hx).1) (fun s₁ x => ?_) hco hgen hk)
    have fx := mkFrame (prog := prog) (w := w) (mg := mg) (mb := mb) (P := P) (bx := some bx) (bi := 0) (names := box :: ps ++ locs) hr hB (fun a ha => (by cases ha; exact hbn)) hk hnd x
    obtain ⟨h₁, t₁, rfl, hkp⟩ := x.done
    have hndp : (box :: ps).Nodup := (List.nodup_append.mp hnd).1
    have lk : ∀ {j y v}, (box :: ps)[j]? = some y → (Value.ref bx :: vs)[j]? = some v → Look (callEnvC (docDef name params body scope pm cd doc) s.heap.objs.size f) h₁ y v := fun {j y v} hy hv => by
      rcases hkind s.heap.objs.size y (List.mem_of_getElem? hy) with q | ⟨q, q2⟩
      · exact .inl ⟨q, _, x.toInCall.ns, bindL_at hndp hy hv q⟩
      · obtain ⟨c, hc⟩ := Option.isSome_iff_exists.mp q2
        refine .inr ⟨.inl q, c, hc, ?_⟩
        have := x.cell y c hc
        rwa [bindC_at hndp hy hv q] at this
    have ow0 : ∀ {j l}, initB ns ds j = .ow l → j = 0 ∧ l = di ns := fun {j l} h => by
      cases j with
      | zero => cases h; exact ⟨rfl, rfl⟩
      | succ j =>
        simp only [initB, initS] at h
        split at h <;> cases h
    have hnames : ∀ {j y}, (box :: ps ++ locs)[j + 1]? = some y → ∀ {d}, ds[j]? = some d → (box :: ps)[j + 1]? = some y := fun {j y} hy {d} hd => by
      have : j + 1 < (box :: ps).length := by have := (List.getElem?_eq_some_iff.mp hd).1; simp; (first | lia | omega)
      rwa [List.getElem?_append_left this] at hy
    have pr0 : ∀ b o, P b → s.heap.get? b = some o → Pr { A := A.deeper (callEnvC (docDef name params body scope pm cd doc) s.heap.objs.size f), env := callEnvC (docDef name params body scope pm cd doc) s.heap.objs.size f, names := box :: ps ++ locs, entry := s.heap, old := P, bx := some bx, bi := 0 } ⟨fun _ => bx, []⟩ (initB ns ds) b := fun b o p e => by
      refine ⟨.inl p, ?_, fun y c hc => ?_, fun i l hl => hPb b p, fun hb => (by cases hb)⟩
      · rintro rfl
        have e' : s.heap.get? s.heap.objs.size = some o := e
        rw [no_size] at e'; cases e'
      · have := fx.cnew y c hc
        rintro rfl
        have e' : s.heap.get? b = none := this
        rw [e] at e'; cases e'
    refine hF _ fx (initB ns ds) fl σ' e1 ⟨fun _ => bx, []⟩ _ _ _ ?_ fun f' α' h' t' a' I' st' ok' => ?_
    · refine ⟨⟨_, x.toInCall.ns⟩, fun y c hc => ⟨_, x.cell y c hc⟩, fun b o _ e => hkp b o e, fun a ha => (by cases ha; exact ⟨rfl, _, rfl⟩), fun j y hy d' hd => ?_, fun j y hy l hl => ?_, fun j l hl => ?_, fun b hb => (by cases hb), fun i j l l' hi hj hij => ?_⟩
      · cases j with
        | zero => cases hd
        | succ j =>
          simp only [initB, initS] at hd
          cases hj : ds[j]? with
          | none => rw [hj] at hd; cases hd
          | some d2 =>
            rw [hj] at hd; cases hd
            obtain ⟨v, hv, rv⟩ := rl.get hj
            exact ⟨v, lk (hnames hy hj) (by simpa using hv), rv.mono fun b o p e => ⟨pr0 b o p e, hkp b o e⟩⟩
      · obtain ⟨rfl, rfl⟩ := ow0 hl
        have : y = box := by simpa using hy.symm
        subst this
        exact lk (j := 0) rfl rfl
      · obtain ⟨rfl, rfl⟩ := ow0 hl
        exact ⟨.inr rfl, vb, nb, hkp _ _ hb, rep_ints hints⟩
      · exact absurd ((ow0 hi).1.trans (ow0 hj).1.symm) hij
    · have hkeep : ∀ b o, b ≠ bx → s.heap.get? b = some o → h'.get? b = some o := fun b o hne e => I'.keep b o (fun q => hne (by cases q; rfl)) e
      have hbx' : ∃ vb' nb', h'.get? bx = some (lst vb' nb') ∧ IntsAre vb' ns' := by
        obtain ⟨h1, _⟩ := I'.box bx rfl
        obtain ⟨_, vs', n', ho', rl'⟩ := I'.own 0 l' e2
        have h1' : α'.ad 0 = bx := h1
        rw [h1'] at ho'
        exact ⟨vs', n', ho', rl'.toInts e3⟩
      cases fl with
      | nxt => cases f' with
        | next => exact kk _ h' t' hkeep hbx' .none
        | _ => exact ok'.elim
      | ret d => cases f' with
        | ret v => exact kk v h' t' hkeep hbx' (Rep.mono (fun b o p e => ⟨p.old, e⟩) ok')
        | _ => exact ok'.elim
  · cases hG
end
end Mine
end

section
open PySem PySem.W PyProof.Rows PySem.Calls
set_option autoImplicit false
namespace Mine

noncomputable def xNeg (F : Ev) : Ev := fun σ => (F σ).bind fun p => match p.1 with
  | .int i => some (.int (-i), p.2)
  | _ => none
noncomputable def xBool (b : Bool) : Ev := fun σ => some (.bool b, σ)
noncomputable def yExpr (F : Ev) : Ex := fun σ => (F σ).bind fun p => match p.1 with
  | .none => some (.nxt, p.2)
  | _ => none

section
variable {prog : Program} {w : World} {fr : Fm}
theorem SE.neg {e : Expr} {pos : Pos} {F : Ev} (h : SE prog w fr e F) : SE prog w fr (.UnaryOp .USub e pos) (xNeg F) := by
  rintro σ d σ' hF α s Q E I k
  simp only [xNeg, Option.bind_eq_some_iff] at hF
  obtain ⟨⟨a, σ1⟩, e1, e2⟩ := hF
  refine wpAny_UnaryOp (h σ a σ1 e1 α s _ _ I fun v h1 t1 ev1 I1 st1 r1 => ?_)
  cases r1 with
  | int i t =>
    cases e2
    exact PyProof.Rows.neg_int (k _ h1 _ ev1 I1 st1 (.int _ _))
  | _ => cases e2

theorem SE.bool {b : Bool} {k : Nat} {pos : Pos} : SE prog w fr (.Constant (.bool b) k pos) (xBool b) := by
  rintro σ d σ' h α s Q E I k
  cases h
  exact wpAny_Constant_bool (k _ _ s.toks (Evo.refl _) I Stp.refl (.bool _))

theorem SS.expr {e : Expr} {pos : Pos} {F : Ev} (h : SE prog w fr e F) (hi : interactive fr.env = false) (hs : ∀ env, swapsWith e none pos.line env = pure false) : SS prog w fr (.Expr e pos) (yExpr F) := by
  rintro σ fl σ' hF α s Q E I k
  simp only [yExpr, Option.bind_eq_some_iff] at hF
  obtain ⟨⟨a, σ1⟩, e1, e2⟩ := hF
  refine wpAny_Expr (h σ a σ1 e1 α s _ _ I fun v h1 t1 ev1 I1 st1 r1 => ?_) hi (hs _)
  cases r1 with
  | none =>
    cases e2
    exact k .next α h1 t1 rfl I1 st1 trivial
  | _ => cases e2
end

/-! ### a def that gives a list just made -/
noncomputable abbrev ExN := St → Option (List D × St)
section
variable (prog : Program) (w : World) (fr : Fm)
noncomputable def SSN (sts : List Stmt) (F : ExN) : Prop :=
  ∀ σ l σ', F σ = some (l, σ') → ∀ (α : Al) (s : Shared) (Q : Flow → Shared → Prop) (E : Value → Shared → Prop), Inv fr α σ s.heap →
    (∀ a vs n α' h1 h' tk', Inv fr α' σ' h1 → Kp h1 h' → h1.get? a = none → h'.get? a = some (lst vs n) → RepL h1 (Pr fr α' σ') vs l → Q (.ret (.ref a)) { s with heap := h', toks := tk' }) →
    wpAny (model prog w) fr.A (execs sts fr.env) Q E s
end
noncomputable def ySeqN (F : Ex) (G : ExN) : ExN := fun σ => (F σ).bind fun p => match p.1 with
  | .nxt => G p.2
  | _ => none
section
variable {prog : Program} {w : World} {fr : Fm}
theorem SSN.cons {st : Stmt} {sts : List Stmt} {F : Ex} {G : ExN} (h1 : SS prog w fr st F) (h2 : SSN prog w fr sts G) : SSN prog w fr (st :: sts) (ySeqN F G) := by
  rintro σ l σ' h α s Q E I k
  simp only [ySeqN, Option.bind_eq_some_iff] at h
  obtain ⟨⟨f1, σ1⟩, e1, e2⟩ := h
  refine wpAny_execs_cons (h1 σ f1 σ1 e1 α s _ _ I fun f α1 h' t' a1 I1 st1 ok1 => ?_)
  cases f1 with
  | nxt => cases f with
    | next => exact h2 σ1 l σ' e2 α1 _ _ _ I1 k
    | _ => exact ok1.elim
  | ret d => cases e2
theorem SSN.ret {e : Expr} {pos : Pos} {F : EvL} (h : SF prog w fr e F) : SSN prog w fr [.Return (some e) pos] F := by
  rintro σ l σ' hF α s Q E I k
  refine wpAny_execs_cons (wpAny_Return_some (h σ l σ' hF α s _ _ I fun a vs n h1 h' t' ev1 I1 st1 kp ha ho r1 => ?_))
  exact k a vs n α h1 h' t' I1 kp ha ho r1
end

section
variable (prog : Program) (w : World) (B : Heap)
noncomputable def FnNew (n : Nat) (f : Addr) (G : List D → Option (List D)) : Prop :=
  ∀ (A : Around) (s : Shared) (P : Addr → Prop) (vs : List Value) (ds l : List D), Rm A n → Kp B s.heap → RepL s.heap P vs ds → G ds = some l → ∀ (Q E : Value → Shared → Prop),
    (∀ a vs' n' h1 h' tk', Kp s.heap h1 → Kp h1 h' → h1.get? a = none → h'.get? a = some (lst vs' n') → RepL h1 (fun b => P b ∨ s.heap.get? b = none) vs' l → Q (.ref a) { s with heap := h', toks := tk' }) →
    wpAny (model prog w) A (call (.ref f) vs) Q E s
end
noncomputable def gOfN (k : Nat) (F : ExN) : List D → Option (List D) := fun ds => if ds.length = k then (F (initS ds)).map fun r => r.1 else none
noncomputable def fCallN (G : List D → Option (List D)) (F : EvL) : EvL := fun σ => (F σ).bind fun p => (G p.1).map fun l => (l, p.2)

section
variable {prog : Program} {w : World} {B : Heap} {mg mb : Str → Option Value}
theorem fnNew {name : Str} {params : Arguments} {body : List Stmt} {scope : Scope} {f : Addr} {o : Obj} {pm cd doc : Value} {n k : Nat} {ps locs : List Str} {F : ExN} (D0 : Def B mg name params body scope f o pm cd doc) (hlim : B.NoLimit)
    (hbind : ∀ vs : List Value, vs.length = k → bindArgs (docDef name params body scope pm cd doc) ⟨vs, []⟩ = pure (ps.zip vs)) (hps : ps.length = k)
    (hkind : ∀ L : Nat, ∀ x ∈ ps, scope.names.lookup x = some .local ∨ (scope.names.lookup x = some .cell ∧ ((cellsFrom (L + 1) scope.names []).lookup x).isSome = true))
    (hnd : (ps ++ locs).Nodup) (hk : scope.kind = .function) (hco : scope.isCoroutine = false) (hgen : scope.isGenerator = false)
    (hF : ∀ fr, DFr prog w B mg mb n scope (ps ++ locs) 1000000 fr → SSN prog w fr body F) : FnNew prog w B (n + 1) f (gOfN k F) := by
  intro A s P vs ds l hr hB rl hG Q E kk
  simp only [gOfN] at hG
  split at hG
  · rename_i hlen
    simp only [Option.map_eq_some_iff] at hG
    obtain ⟨⟨l', σ'⟩, e1, e2⟩ := hG
    have hvl : vs.length = k := rl.length.trans hlen
    refine wpAny_call (codeAny_call_cells (fd := docDef name params body scope pm cd doc) (by have := hr.d; (first | lia | omega)) (hB _ _ D0.g) D0.d (hlim.keeps hB) (D0.c.keeps hB) rfl (hbind vs hvl) rfl (fun x hx => hkind _ x.1 (List.of_mem_zip hx).1) (fun s₁ x => ?_) hco hgen hk)
    have fx := mkFrame (prog := prog) (w := w) (mg := mg) (mb := mb) (P := P) (bx := none) (bi := 1000000) (names := ps ++ locs) hr hB (fun a ha => (by cases ha)) hk hnd x
    obtain ⟨h₁, t₁, rfl, hkp⟩ := x.done
    have hnames : ∀ {j y}, (ps ++ locs)[j]? = some y → ∀ {d}, ds[j]? = some d → ps[j]? = some y := fun {j y} hy {d} hd => by
      have : j < ps.length := by have := (List.getElem?_eq_some_iff.mp hd).1; (first | lia | omega)
      rwa [List.getElem?_append_left this] at hy
    refine hF _ fx (initS ds) l' σ' e1 ⟨fun _ => 0, []⟩ _ _ _ ?_ fun a vs' n' α' h1 h' t' I' kp ha ho r' => ?_
    · refine inv0 (H := s.heap) rfl rfl rfl x.toInCall.ns (fun y c hc => ⟨_, x.cell y c hc⟩) hkp (no_size _) (fun y c hc => fx.cnew y c hc) fun j y d2 hy hj => ?_
      obtain ⟨v, hv, rv⟩ := rl.get hj
      have hy' := hnames hy hj
      have hndp : ps.Nodup := (List.nodup_append.mp hnd).1
      refine ⟨v, ?_, rv⟩
      rcases hkind s.heap.objs.size y (List.mem_of_getElem? hy') with q | ⟨q, q2⟩
      · exact .inl ⟨q, _, x.toInCall.ns, bindL_at hndp hy' hv q⟩
      · obtain ⟨c, hc⟩ := Option.isSome_iff_exists.mp q2
        refine .inr ⟨.inl q, c, hc, ?_⟩
        have := x.cell y c hc
        rwa [bindC_at hndp hy' hv q] at this
    · dsimp only at e2
      subst e2
      have hkeep : Kp s.heap h1 := fun b o e => I'.keep b o (fun q => (by cases q)) e
      exact kk a vs' n' h1 h' t' hkeep kp ha ho (r'.mono fun b o p e => ⟨p.old, e⟩)
  · cases hG
end

/-! ### names that a frame's scope tells -/
noncomputable def bnames : List Str := ["abs", "enumerate", "int", "len", "list", "max", "min", "range", "reversed", "sorted", "sum", "zip"]
structure Free (mg : Str → Option Value) : Prop where
  f : ∀ x ∈ bnames, mg x = none

/-- what a frame's proof leans on -/
structure Fk (prog : Program) (w : World) (B : Heap) (mg mb : Str → Option Value) (n : Nat) (sc : Scope) (names cs : List Str) (bi : Nat) (fr : Fm) : Prop where
  ok : FOk fr
  bo : BOk B fr
  bs : Base B mg mb
  fb : Free mg
  r : Rm fr.A n
  names : fr.names = names
  scp : fr.env.scope = sc
  stc : ∀ x ∈ cs, Stb fr x
  bi : fr.bi = bi
  kind : sc.kind = .function

theorem DFr.fk {prog : Program} {w : World} {B : Heap} {mg mb : Str → Option Value} {n : Nat} {scope : Scope} {names cs : List Str} {bi : Nat} {fr : Fm} (d : DFr prog w B mg mb n scope names bi fr) (bs : Base B mg mb) (fb : Free mg)
    (hcs : ∀ L : Nat, ∀ x ∈ cs, scope.names.lookup x = some .cell ∧ ((cellsFrom (L + 1) scope.names []).lookup x).isSome = true) : Fk prog w B mg mb n scope names cs bi fr where
  ok := d.ok
  bo := d.bo
  bs := bs
  fb := fb
  r := d.r
  names := d.names
  scp := d.sc
  stc := fun x hx => by
    obtain ⟨h1, h2⟩ := hcs fr.env.locals x hx
    rw [← d.cells] at h2
    obtain ⟨c, hc⟩ := Option.isSome_iff_exists.mp h2
    exact .inr ⟨by show fr.env.scope.names.lookup x = _; rw [d.sc]; exact h1, c, hc, d.cnew x c hc⟩
  bi := d.bi
  kind := by rw [← d.sc]; exact d.ok.kind

noncomputable def okr (names : List Str) (i : Nat) (x : Str) : Bool := (names[i]? == some x) && nameOk x
noncomputable def okw (sc : Scope) (names cs : List Str) (bi i : Nat) (x : Str) : Bool := okr names i x && (sc.names.lookup x == some .local || cs.contains x) && (i != bi)
noncomputable def okb (sc : Scope) (x : Str) : Bool := (sc.names.lookup x == some .globalImplicit) && !(x == ("__debug__" : Str)) && (x != ("__name__" : Str)) && bnames.contains x
noncomputable def okg (sc : Scope) (x : Str) : Bool := (sc.names.lookup x == some .globalImplicit) && !(x == ("__debug__" : Str))

/-- a def to be called -/
structure Cal (prog : Program) (w : World) (B : Heap) (mg : Str → Option Value) (n : Nat) (x : Str) (G : List D → Option D) : Prop where
  e : ∃ f o fd, FnOK prog w B n f G ∧ mg x = some (.ref f) ∧ B.get? f = some o ∧ o.data = .func fd
structure CalB (prog : Program) (w : World) (B : Heap) (mg : Str → Option Value) (n : Nat) (x : Str) (G : List Int → List D → Option (D × List Int)) : Prop where
  e : ∃ f o fd, FnB prog w B n f G ∧ mg x = some (.ref f) ∧ B.get? f = some o ∧ o.data = .func fd
structure CalN (prog : Program) (w : World) (B : Heap) (mg : Str → Option Value) (n : Nat) (x : Str) (G : List D → Option (List D)) : Prop where
  e : ∃ f o fd, FnNew prog w B n f G ∧ mg x = some (.ref f) ∧ B.get? f = some o ∧ o.data = .func fd

section
variable {prog : Program} {w : World} {B : Heap} {mg mb : Str → Option Value} {n : Nat} {sc : Scope} {names cs : List Str} {bi : Nat} {fr : Fm}
namespace Fk
theorem rd (f : Fk prog w B mg mb n sc names cs bi fr) {i : Nat} {x : Str} (h : okr names i x = true) : fr.names[i]? = some x ∧ nameOk x = true := by
  simp only [okr, Bool.and_eq_true, beq_iff_eq] at h
  rw [f.names]; exact h
theorem vw (f : Fk prog w B mg mb n sc names cs bi fr) {i : Nat} {x : Str} (h : okw sc names cs bi i x = true) : VW fr i x := by
  simp only [okw, Bool.and_eq_true, Bool.or_eq_true, beq_iff_eq, bne_iff_ne, List.contains_iff_mem] at h
  obtain ⟨⟨h1, h2⟩, h3⟩ := h
  obtain ⟨h4, h5⟩ := f.rd h1
  refine ⟨h4, ?_, by rw [f.bi]; exact h3, h5⟩
  rcases h2 with h2 | h2
  · exact .inl (by show fr.env.scope.names.lookup x = _; rw [f.scp]; exact h2)
  · exact f.stc x h2
theorem var (f : Fk prog w B mg mb n sc names cs bi fr) {i : Nat} {x : Str} {pos : Pos} (h : okr names i x = true) : SE prog w fr (.Name x pos) (xVar i) := SE.var f.ok (f.rd h).1 (f.rd h).2
theorem mov (f : Fk prog w B mg mb n sc names cs bi fr) {i : Nat} {x : Str} {pos : Pos} (h : (okr names i x && (i != bi)) = true) : SE prog w fr (.Name x pos) (xMov i) := by
  simp only [Bool.and_eq_true, bne_iff_ne] at h
  exact SE.mov f.ok (f.rd h.1).1 (f.rd h.1).2 (by rw [f.bi]; exact h.2)
theorem own (f : Fk prog w B mg mb n sc names cs bi fr) {i : Nat} {x : Str} {pos : Pos} (h : okr names i x = true) : SR prog w fr (.Name x pos) (bOwn i) := SR.own f.ok (f.rd h).1 (f.rd h).2
theorem slot (f : Fk prog w B mg mb n sc names cs bi fr) {t : Nat} (h : (decide (names.length ≤ t) && (t != bi)) = true) : fr.names[t]? = none ∧ t ≠ fr.bi := by
  simp only [Bool.and_eq_true, decide_eq_true_eq, bne_iff_ne] at h
  exact ⟨by rw [f.names]; exact List.getElem?_eq_none h.1, by rw [f.bi]; exact h.2⟩
theorem bn (f : Fk prog w B mg mb n sc names cs bi fr) {x : Str} {fv : Value} (h : okb sc x = true) (hv : bootBuiltins x = some fv) (hf : (∃ id, fv = .builtin id) ∨ ∃ T, fv = .type T) : BN fr mg x fv := by
  simp only [okb, Bool.and_eq_true, beq_iff_eq, Bool.not_eq_true', bne_iff_ne, List.contains_iff_mem] at h
  obtain ⟨⟨⟨h1, h2⟩, h3⟩, h4⟩ := h
  exact ⟨by show fr.env.scope.names.lookup x = _; rw [f.scp]; exact h1, h2, h3, f.fb.f x h4, hv, hf⟩
theorem gl (f : Fk prog w B mg mb n sc names cs bi fr) {x : Str} (h : okg sc x = true) : fr.env.kindOf x = some .globalImplicit ∧ (x == ("__debug__" : Str)) = false := by
  simp only [okg, Bool.and_eq_true, beq_iff_eq, Bool.not_eq_true'] at h
  exact ⟨by show fr.env.scope.names.lookup x = _; rw [f.scp]; exact h.1, h.2⟩
theorem call (f : Fk prog w B mg mb n sc names cs bi fr) {m : Nat} {x : Str} {pos pos' : Pos} {e : Expr} {es : List Expr} {G : List D → Option D} {F : EvL} (c : Cal prog w B mg m x G) (hm : m ≤ n) (h : okg sc x = true)
    (hl : SL prog w fr (e :: es) F) (he : ∀ env, starEach (e :: es) env = (false, eval e env) :: starEach es env) : SE prog w fr (.Call (.Name x pos) (e :: es) [] pos') (xCall G F) := by
  obtain ⟨g, o, fd, h1, h2, h3, h4⟩ := c.e
  exact SE.call f.ok f.bo f.bs h1 (f.r.less hm) h2 h3 h4 (f.gl h).1 (f.gl h).2 hl he
theorem callB (f : Fk prog w B mg mb n sc names cs bi fr) {m i : Nat} {x y : Str} {pos pos' pos2 : Pos} {es : List Expr} {G : List Int → List D → Option (D × List Int)} {F : EvL} (c : CalB prog w B mg m x G) (hm : m ≤ n) (h : okg sc x = true)
    (hy : okr names i y = true) (hl : SL prog w fr es F) : SE prog w fr (.Call (.Name x pos) (.Name y pos2 :: es) [] pos') (xCallB i G F) := by
  obtain ⟨g, o, fd, h1, h2, h3, h4⟩ := c.e
  exact SE.callB f.ok f.bo f.bs h1 (f.r.less hm) h2 h3 h4 (f.gl h).1 (f.gl h).2 (f.rd hy).1 (f.rd hy).2 hl
theorem callN (f : Fk prog w B mg mb n sc names cs bi fr) {m : Nat} {x : Str} {pos pos' : Pos} {e : Expr} {es : List Expr} {G : List D → Option (List D)} {F : EvL} (c : CalN prog w B mg m x G) (hm : m ≤ n) (h : okg sc x = true)
    (hl : SL prog w fr (e :: es) F) (he : ∀ env, starEach (e :: es) env = (false, eval e env) :: starEach es env) : SF prog w fr (.Call (.Name x pos) (e :: es) [] pos') (fCallN G F) := by
  obtain ⟨g, o, fd, h1, h2, h3, h4⟩ := c.e
  rintro σ l σ' hF α s Q E I k
  simp only [fCallN, Option.bind_eq_some_iff, Option.map_eq_some_iff] at hF
  obtain ⟨⟨ds, σ1⟩, e1, l', e2, e3⟩ := hF
  cases e3
  refine Call_ (glob_name f.ok f.bs (I.base f.bo) (f.gl h).1 (f.gl h).2 h2 ?_)
  refine callWith_def h4 (hl σ ds _ e1 α s _ _ _ I fun vs h1' t1 ev1 I1 st1 r1 _ => ⟨I1.base f.bo _ _ h3, ?_⟩) (he _)
  refine h1 _ _ _ _ _ _ (f.r.less hm) (I1.base f.bo) r1 e2 _ _ fun a vs' n' h2' h3' t3 kp kp2 ha ho r2 => ?_
  exact k a vs' n' h2' h3' t3 ev1 (I1.kp kp) (st1.trans (Stp.kp kp)) kp2 ha ho (repL_join I1 r2)
theorem b1 (f : Fk prog w B mg mb n sc names cs bi fr) {x : Str} {pos pos' : Pos} {e : Expr} {fv : Value} {g : D → Option D} {R : Rd} (h : okb sc x = true) (hv : bootBuiltins x = some fv) (hf : (∃ id, fv = .builtin id) ∨ ∃ T, fv = .type T)
    (hg : ∀ s P v d r, RepB s.heap P v d → g d = some r → Giv prog w fr.A (PySem.call fv [v]) s P r)
    (hl : SR prog w fr e R) (he : ∀ env, starEach [e] env = [(false, eval e env)]) : SE prog w fr (.Call (.Name x pos) [e] [] pos') (xB1 g R) := SE.b1 f.ok f.bo f.bs (f.bn h hv hf) hg hl he
theorem b2 (f : Fk prog w B mg mb n sc names cs bi fr) {x : Str} {pos pos' : Pos} {e e' : Expr} {fv : Value} {g : D → D → Option D} {F : EvL} (h : okb sc x = true) (hv : bootBuiltins x = some fv) (hf : (∃ id, fv = .builtin id) ∨ ∃ T, fv = .type T)
    (hg : ∀ s P va vb a b r, Rep s.heap P va a → Rep s.heap P vb b → g a b = some r → Giv prog w fr.A (PySem.call fv [va, vb]) s P r)
    (hl : SL prog w fr [e, e'] F) (he : ∀ env, starEach [e, e'] env = [(false, eval e env), (false, eval e' env)]) : SE prog w fr (.Call (.Name x pos) [e, e'] [] pos') (xB2 g F) := SE.b2 f.ok f.bo f.bs (f.bn h hv hf) hg hl he
theorem b3 (f : Fk prog w B mg mb n sc names cs bi fr) {x : Str} {pos pos' : Pos} {e e' e2 : Expr} {fv : Value} {g : D → D → D → Option D} {F : EvL} (h : okb sc x = true) (hv : bootBuiltins x = some fv) (hf : (∃ id, fv = .builtin id) ∨ ∃ T, fv = .type T)
    (hg : ∀ s P va vb vc a b c r, Rep s.heap P va a → Rep s.heap P vb b → Rep s.heap P vc c → g a b c = some r → Giv prog w fr.A (PySem.call fv [va, vb, vc]) s P r)
    (hl : SL prog w fr [e, e', e2] F) (he : ∀ env, starEach [e, e', e2] env = (false, eval e env) :: starEach [e', e2] env) (hp : ∀ env pos, (backTo pos (starEach [e', e2] env)).any (·.1) = false) : SE prog w fr (.Call (.Name x pos) [e, e', e2] [] pos') (xB3 g F) :=
  SE.b3 f.ok f.bo f.bs (f.bn h hv hf) hg hl he hp

theorem bLt (id : String) : (∃ i, Value.builtin id = .builtin i) ∨ ∃ T, Value.builtin id = .type T := .inl ⟨id, rfl⟩
theorem bTy (T : String) : (∃ i, Value.type T = .builtin i) ∨ ∃ T', Value.type T = .type T' := .inr ⟨T, rfl⟩

theorem len (f : Fk prog w B mg mb n sc names cs bi fr) {pos pos' : Pos} {e : Expr} {R : Rd} (h : okb sc "len" = true) (hl : SR prog w fr e R) (he : ∀ env, starEach [e] env = [(false, eval e env)]) : SE prog w fr (.Call (.Name "len" pos) [e] [] pos') (xB1 bLen R) :=
  f.b1 h (by rfl) (bLt _) (fun _ _ _ _ _ r e => b_len r e) hl he
theorem sum (f : Fk prog w B mg mb n sc names cs bi fr) {pos pos' : Pos} {e : Expr} {R : Rd} (h : okb sc "sum" = true) (hl : SR prog w fr e R) (he : ∀ env, starEach [e] env = [(false, eval e env)]) : SE prog w fr (.Call (.Name "sum" pos) [e] [] pos') (xB1 bSum R) :=
  f.b1 h (by rfl) (bLt _) (fun _ _ _ _ _ r e => b_sum f.r.h r e) hl he
theorem min (f : Fk prog w B mg mb n sc names cs bi fr) {pos pos' : Pos} {e : Expr} {R : Rd} (h : okb sc "min" = true) (hl : SR prog w fr e R) (he : ∀ env, starEach [e] env = [(false, eval e env)]) : SE prog w fr (.Call (.Name "min" pos) [e] [] pos') (xB1 bMin R) :=
  f.b1 h (by rfl) (bLt _) (fun _ _ _ _ _ r e => b_min f.r.h r e) hl he
theorem max (f : Fk prog w B mg mb n sc names cs bi fr) {pos pos' : Pos} {e : Expr} {R : Rd} (h : okb sc "max" = true) (hl : SR prog w fr e R) (he : ∀ env, starEach [e] env = [(false, eval e env)]) : SE prog w fr (.Call (.Name "max" pos) [e] [] pos') (xB1 bMax R) :=
  f.b1 h (by rfl) (bLt _) (fun _ _ _ _ _ r e => b_max f.r.h r e) hl he
theorem abs (f : Fk prog w B mg mb n sc names cs bi fr) {pos pos' : Pos} {e : Expr} {R : Rd} (h : okb sc "abs" = true) (hl : SR prog w fr e R) (he : ∀ env, starEach [e] env = [(false, eval e env)]) : SE prog w fr (.Call (.Name "abs" pos) [e] [] pos') (xB1 bAbs R) :=
  f.b1 h (by rfl) (bLt _) (fun _ _ _ _ _ r e => b_abs r e) hl he
theorem int (f : Fk prog w B mg mb n sc names cs bi fr) {pos pos' : Pos} {e : Expr} {R : Rd} (h : okb sc "int" = true) (hl : SR prog w fr e R) (he : ∀ env, starEach [e] env = [(false, eval e env)]) : SE prog w fr (.Call (.Name "int" pos) [e] [] pos') (xB1 bInt R) :=
  f.b1 h (by rfl) (bTy _) (fun _ _ _ _ _ r e => b_int r e) hl he
theorem list (f : Fk prog w B mg mb n sc names cs bi fr) {pos pos' : Pos} {e : Expr} {R : Rd} (h : okb sc "list" = true) (hl : SR prog w fr e R) (he : ∀ env, starEach [e] env = [(false, eval e env)]) : SE prog w fr (.Call (.Name "list" pos) [e] [] pos') (xB1 bList R) :=
  f.b1 h (by rfl) (bTy _) (fun _ _ _ _ _ r e => b_list f.r.h r e) hl he
theorem rng1 (f : Fk prog w B mg mb n sc names cs bi fr) {pos pos' : Pos} {e : Expr} {R : Rd} (h : okb sc "range" = true) (hl : SR prog w fr e R) (he : ∀ env, starEach [e] env = [(false, eval e env)]) : SE prog w fr (.Call (.Name "range" pos) [e] [] pos') (xB1 bRng1 R) :=
  f.b1 h (by rfl) (bTy _) (fun _ _ _ _ _ r e => b_rng1 r e) hl he
theorem rng2 (f : Fk prog w B mg mb n sc names cs bi fr) {pos pos' : Pos} {e e' : Expr} {F : EvL} (h : okb sc "range" = true) (hl : SL prog w fr [e, e'] F) (he : ∀ env, starEach [e, e'] env = [(false, eval e env), (false, eval e' env)]) : SE prog w fr (.Call (.Name "range" pos) [e, e'] [] pos') (xB2 bRng2 F) :=
  f.b2 h (by rfl) (bTy _) (fun _ _ _ _ _ _ _ r r' e => b_rng2 r r' e) hl he
theorem rng3 (f : Fk prog w B mg mb n sc names cs bi fr) {pos pos' : Pos} {e e' e2 : Expr} {F : EvL} (h : okb sc "range" = true) (hl : SL prog w fr [e, e', e2] F) (he : ∀ env, starEach [e, e', e2] env = (false, eval e env) :: starEach [e', e2] env) (hp : ∀ env pos, (backTo pos (starEach [e', e2] env)).any (·.1) = false) :
    SE prog w fr (.Call (.Name "range" pos) [e, e', e2] [] pos') (xB3 bRng3 F) :=
  f.b3 h (by rfl) (bTy _) (fun _ _ _ _ _ _ _ _ _ r r' r2 e => b_rng3 r r' r2 e) hl he hp
theorem max2 (f : Fk prog w B mg mb n sc names cs bi fr) {pos pos' : Pos} {e e' : Expr} {F : EvL} (h : okb sc "max" = true) (hl : SL prog w fr [e, e'] F) (he : ∀ env, starEach [e, e'] env = [(false, eval e env), (false, eval e' env)]) : SE prog w fr (.Call (.Name "max" pos) [e, e'] [] pos') (xB2 bMax2 F) :=
  f.b2 h (by rfl) (bLt _) (fun _ _ _ _ _ _ _ r r' e => b_max2 f.r.h r r' e) hl he
theorem sorted (f : Fk prog w B mg mb n sc names cs bi fr) {pos pos' : Pos} {e : Expr} {R : Rd} (h : okb sc "sorted" = true) (hl : SR prog w fr e R) (he : ∀ env, starEach [e] env = [(false, eval e env)]) : SE prog w fr (.Call (.Name "sorted" pos) [e] [] pos') (xB1 bSort2 R) :=
  f.b1 h (by rfl) (bLt _) (fun _ _ _ _ _ r e => b_sort2 r e) hl he
theorem copy (f : Fk prog w B mg mb n sc names cs bi fr) {pos pos' : Pos} {e : Expr} {R : Rd} (h : okb sc "list" = true) (hl : SR prog w fr e R) (he : ∀ env, starEach [e] env = [(false, eval e env)]) : SF prog w fr (.Call (.Name "list" pos) [e] [] pos') (fCopy R) :=
  SF.copy f.ok f.bo f.bs (f.bn h (by rfl) (bTy _)) hl he
theorem irev (f : Fk prog w B mg mb n sc names cs bi fr) {pos pos' : Pos} {e : Expr} {F : Ev} (h : okb sc "reversed" = true) (hl : SE prog w fr e F) (he : ∀ env, starEach [e] env = [(false, eval e env)]) : SI prog w fr (.Call (.Name "reversed" pos) [e] [] pos') 1 (iRev F) :=
  SI.rev f.ok f.bo f.bs (f.bn h (by rfl) (bTy _)) hl he
theorem ienum (f : Fk prog w B mg mb n sc names cs bi fr) {pos pos' : Pos} {e : Expr} {F : Ev} (h : okb sc "enumerate" = true) (hl : SE prog w fr e F) (he : ∀ env, starEach [e] env = [(false, eval e env)]) : SI prog w fr (.Call (.Name "enumerate" pos) [e] [] pos') 2 (iEnum F) :=
  SI.enum f.ok f.bo f.bs (f.bn h (by rfl) (bTy _)) hl he
theorem izip (f : Fk prog w B mg mb n sc names cs bi fr) {pos pos' : Pos} {e e' : Expr} {F : EvL} (h : okb sc "zip" = true) (hl : SL prog w fr [e, e'] F) (he : ∀ env, starEach [e, e'] env = (false, eval e env) :: starEach [e'] env) (he' : ∀ env pos, (backTo pos (starEach [e'] env)).any (·.1) = false) :
    SI prog w fr (.Call (.Name "zip" pos) [e, e'] [] pos') 2 (iZip F) :=
  SI.zip f.ok f.bo f.bs (f.bn h (by rfl) (bTy _)) hl he he'
theorem setO (f : Fk prog w B mg mb n sc names cs bi fr) {x : Str} {p pos : Pos} {e : Expr} {i t : Nat} {F : EvL} (hw : okw sc names cs bi i x = true) (ht : (decide (names.length ≤ t) && (t != bi)) = true) (h : SF prog w fr e F) (hs : ∀ env, swapsWith e (some (.Name x p)) pos.line env = pure false) : SS prog w fr (.Assign [.Name x p] e pos) (ySetO i t F) :=
  SS.setO f.ok (f.vw hw) (f.slot ht).1 (f.slot ht).2 h hs
theorem ow (f : Fk prog w B mg mb n sc names cs bi fr) {e : Expr} {rest : List Expr} {t : Nat} {F : EvL} {G : EvE} (ht : (decide (names.length ≤ t) && (t != bi)) = true) (h1 : SF prog w fr e F) (h2 : SX prog w fr rest G) (he : ∀ env, starEach (e :: rest) env = (false, eval e env) :: starEach rest env) : SX prog w fr (e :: rest) (eOw t F G) :=
  SX.ow (f.slot ht).1 (f.slot ht).2 h1 h2 he
theorem inter (f : Fk prog w B mg mb n sc names cs bi fr) : interactive fr.env = false := by
  unfold interactive
  rw [f.ok.kind]; rfl
end Fk

theorem swapS {ts : List Expr} {v : Expr} {env env' : Env} (h : env.scope = env'.scope) : swappedStores ts v env = swappedStores ts v env' := by
  obtain ⟨s, a, b, c, d, e, f, g, i⟩ := env
  obtain ⟨s', a', b', c', d', e', f', g', i'⟩ := env'
  cases h
  unfold swappedStores Env.kindOf Env.blockKind
  rfl
theorem swapW {v : Expr} {t : Option Expr} {k : Nat} {env env' : Env} (h : env.scope = env'.scope) : swapsWith v t k env = swapsWith v t k env' := by
  obtain ⟨s, a, b, c, d, e, f, g, i⟩ := env
  obtain ⟨s', a', b', c', d', e', f', g', i'⟩ := env'
  cases h
  unfold swapsWith Env.kindOf Env.blockKind
  rfl
noncomputable def envS (sc : Scope) : Env := { scope := sc, locals := 0, globals := 0, cells := [] }

/-- the frame of a comprehension, its scope told -/
noncomputable def relS (c o : Scope) : Scope := { c with names := c.names.map fun (n, k) => if (k == .free && o.kind == .function && o.names.lookup n == some .cell) then (n, .cell) else (n, k) }
theorem CFr.fk {scope : Scope} {cl : List (Str × Addr)} {names' : List Str} {fr' : Fm} (c : CFr B fr scope cl names' fr') (f : Fk prog w B mg mb n sc names cs bi fr) (hk : scope.kind = .function) : Fk prog w B mg mb n (relS scope sc) names' [] 1000000 fr' where
  ok := c.ok
  bo := c.bo
  bs := f.bs
  fb := f.fb
  r := by rw [c.A]; exact f.r
  names := c.names
  scp := by
    obtain ⟨C, e⟩ := c.env
    rw [e, ← f.scp]
    rfl
  stc := fun x hx => by cases hx
  bi := c.bi
  kind := hk
end
end Mine
end

section
open PySem PySem.W PyProof.Rows PySem.Calls
set_option autoImplicit false
namespace Mine

noncomputable def clOf (scope : Scope) (env : Env) : List (Str × Addr) := (scope.names.filter (·.2 == .free)).reverse.map fun x => (x.1, (env.cells.lookup x.1).getD 0)
noncomputable def okc (sc : Scope) (names cs : List Str) (scope : Scope) (names' : List Str) (fm : List (Nat × Nat)) : Bool :=
  scope.names.all (fun x => x.2 != .cell) && (scope.kind == .function) && scope.names.all (fun x => x.2 != .local || scope.names.lookup x.1 == some .local) && decide names'.Nodup &&
    scope.names.all (fun x => x.2 != .free || (cs.contains x.1 && sc.names.lookup x.1 == some .cell)) &&
    fm.all fun p => match names'[p.1]? with
      | some x => (names[p.2]? == some x) && scope.names.contains (x, .free) && ((relS scope sc).names.lookup x == some .cell)
      | none => false

theorem lookup_memN {α β : Type} [BEq α] [LawfulBEq α] {l : List (α × β)} {x : α} {c : β} (h : l.lookup x = some c) : (x, c) ∈ l := by
  induction l with
  | nil => cases h
  | cons p l ih =>
    obtain ⟨y, d⟩ := p
    rw [List.lookup_cons] at h
    split at h
    · rename_i e
      have : x = y := by simpa using e
      cases h; subst this; exact List.mem_cons_self
    · exact List.mem_cons_of_mem _ (ih h)

theorem lookup_map {c : Str → Addr} {l : List (Str × NameKind)} {x : Str} (h : ∃ k, (x, k) ∈ l) : (l.map fun y => (y.1, c y.1)).lookup x = some (c x) := by
  induction l with
  | nil => obtain ⟨k, h⟩ := h; cases h
  | cons p l ih =>
    rw [List.map_cons, List.lookup_cons]
    by_cases hx : x = p.1
    · subst hx; simp
    · have : (x == p.1) = false := by simpa using hx
      simp only [this]
      obtain ⟨k, hk⟩ := h
      rcases List.mem_cons.mp hk with e | hk
      · exact absurd (congrArg Prod.fst e) hx
      · exact ih ⟨k, hk⟩

section
variable {prog : Program} {w : World} {B : Heap} {mg mb : Str → Option Value} {n : Nat} {sc : Scope} {names cs : List Str} {bi : Nat} {fr : Fm}
namespace Fk
theorem cell_at (f : Fk prog w B mg mb n sc names cs bi fr) {x : Str} (hx : x ∈ cs) (hk : sc.names.lookup x = some .cell) : ∃ c, fr.env.cells.lookup x = some c := by
  rcases f.stc x hx with h | ⟨_, c, hc, _⟩
  · have : fr.env.scope.names.lookup x = some .local := h
    rw [f.scp, hk] at this; cases this
  · exact ⟨c, hc⟩

theorem cok (f : Fk prog w B mg mb n sc names cs bi fr) {scope : Scope} {names' : List Str} {fm : List (Nat × Nat)} (h : okc sc names cs scope names' fm = true) : COk fr scope (clOf scope fr.env) names' fm := by
  simp only [okc, Bool.and_eq_true, decide_eq_true_eq, beq_iff_eq, List.all_eq_true, Bool.or_eq_true, bne_iff_ne] at h
  obtain ⟨⟨⟨⟨⟨h1, h2⟩, h3⟩, h4⟩, h5⟩, h6⟩ := h
  have hfree : ∀ x ∈ scope.names, x.2 = .free → fr.env.cells.lookup x.1 = some ((fr.env.cells.lookup x.1).getD 0) := fun x hx hf => by
    rcases h5 x hx with q | ⟨q1, q2⟩
    · exact absurd hf q
    · obtain ⟨c, hc⟩ := f.cell_at (List.contains_iff_mem.mp q1) q2
      rw [hc]; rfl
  refine ⟨closure_ (fun x => (fr.env.cells.lookup x).getD 0) hfree, h1, h2, fun x hx hl => ?_, h4, fun x c hc => ?_, fun j i hji => ?_⟩
  · rcases h3 x hx with q | q
    · exact absurd hl q
    · exact q
  · have hm := lookup_mem hc
    simp only [clOf, List.mem_map, List.mem_reverse, List.mem_filter, beq_iff_eq] at hm
    obtain ⟨y, ⟨hy1, hy2⟩, hy3⟩ := hm
    cases hy3
    exact hfree y hy1 hy2
  · have hm := lookup_memN hji
    have q := h6 _ hm
    dsimp only at q
    split at q
    · rename_i x hx
      simp only [Bool.and_eq_true, beq_iff_eq, List.contains_iff_mem] at q
      obtain ⟨⟨q1, q2⟩, q3⟩ := q
      refine ⟨x, hx, by rw [f.names]; exact q1, ?_, ?_, ?_⟩
      · rcases h5 _ q2 with r | ⟨_, r⟩
        · exact absurd rfl r
        · show fr.env.scope.names.lookup x = _
          rw [f.scp]; exact r
      · have : relabel scope fr.env = relS scope sc := by rw [← f.scp]; rfl
        rw [this]; exact q3
      · rw [hfree _ q2 rfl]
        unfold clOf
        exact lookup_map (c := fun x => (fr.env.cells.lookup x).getD 0) ⟨.free, by simp [q2]⟩
    · cases q

theorem comp (f : Fk prog w B mg mb n sc names cs bi fr) {scope : Scope} {names' : List Str} {fm : List (Nat × Nat)} (hc : okc sc names cs scope names' fm = true) {target iter elt : Expr} {ifs : List Expr} {pos : Pos} {m : Nat} {S : EvI} {tg : List (Nat × Str)} {tgi : List Nat} {T Fe : Ev}
    (hi : SI prog w fr iter m S) (ht : TgT m target tg) (hw : (tg.all fun p => okw (relS scope sc) names' [] 1000000 p.1 p.2) = true) (htg : tg.map (·.1) = tgi)
    (hT : ∀ fr', Fk prog w B mg mb n (relS scope sc) names' [] 1000000 fr' → SCt prog w fr' ifs T) (hE : ∀ fr', Fk prog w B mg mb n (relS scope sc) names' [] 1000000 fr' → SE prog w fr' elt Fe) (hs : ∀ env x, foldedSetIterable iter env x = pure x) :
    SE prog w fr (.ListComp elt [⟨target, iter, ifs, 0⟩] scope pos) (xComp S fm tgi T Fe) :=
  have co := f.cok hc
  SE.comp f.ok f.bo co hi ht (fun fr' c p hp => (c.fk f co.kind).vw (List.all_eq_true.mp hw p hp)) htg (fun fr' c => hT fr' (c.fk f co.kind)) (fun fr' c => hE fr' (c.fk f co.kind)) hs

theorem scomp (f : Fk prog w B mg mb n sc names cs bi fr) {scope : Scope} {names' : List Str} {fm : List (Nat × Nat)} (hc : okc sc names cs scope names' fm = true) {target iter elt : Expr} {ifs : List Expr} {pos spos py : Pos} {y : Str} {i m : Nat} {S : EvI} {tg : List (Nat × Str)} {tgi : List Nat} {T Fe : Ev}
    (hv : okw sc names cs bi i y = true) (hi : SI prog w fr iter m S) (ht : TgT m target tg) (hw : (tg.all fun p => okw (relS scope sc) names' [] 1000000 p.1 p.2) = true) (htg : tg.map (·.1) = tgi)
    (hT : ∀ fr', Fk prog w B mg mb n (relS scope sc) names' [] 1000000 fr' → SCt prog w fr' ifs T) (hE : ∀ fr', Fk prog w B mg mb n (relS scope sc) names' [] 1000000 fr' → SE prog w fr' elt Fe) (hs : ∀ env x, foldedSetIterable iter env x = pure x)
    (hsw : swapsWith (.ListComp elt [⟨target, iter, ifs, 0⟩] scope pos) (some (.Name y py)) spos.line (envS sc) = pure true) :
    SS prog w fr (.Assign [.Name y py] (.ListComp elt [⟨target, iter, ifs, 0⟩] scope pos) spos) (ySet i (xComp S fm tgi T Fe)) :=
  have co := f.cok hc
  SS.comp f.ok f.bo co (f.vw hv) hi ht (fun fr' c p hp => (c.fk f co.kind).vw (List.all_eq_true.mp hw p hp)) htg (fun fr' c => hT fr' (c.fk f co.kind)) (fun fr' c => hE fr' (c.fk f co.kind)) hs ((swapW (env' := envS sc) f.scp).trans hsw)
end Fk

/-- the slots that a tuple's elements take -/
noncomputable def Sl (X : EvE) (ts : List Nat) : Prop := ∀ σ els σ', X σ = some (els, σ') → slots els = ts
theorem Sl.nil : Sl eNil [] := fun σ els σ' h => by cases h; rfl
theorem Sl.sh {F : Ev} {G : EvE} {ts : List Nat} (h : Sl G ts) : Sl (eSh F G) ts := fun σ els σ' e => by
  simp only [eSh, Option.bind_eq_some_iff, Option.map_eq_some_iff] at e
  obtain ⟨p, _, ⟨l, τ⟩, h2, h3⟩ := e
  cases h3
  have := h _ _ _ h2
  simpa [slots] using this
theorem Sl.ow {t : Nat} {F : EvL} {G : EvE} {ts : List Nat} (h : Sl G ts) : Sl (eOw t F G) (t :: ts) := fun σ els σ' e => by
  simp only [eOw, Option.bind_eq_some_iff, Option.map_eq_some_iff] at e
  obtain ⟨p, _, u, _, ⟨l, τ⟩, h2, h3⟩ := e
  cases h3
  have := h _ _ _ h2
  simpa [slots] using this

namespace Fk
theorem vws (f : Fk prog w B mg mb n sc names cs bi fr) {tg : List (Nat × Str)} (h : (tg.all fun p => okw sc names cs bi p.1 p.2) = true) : ∀ p ∈ tg, VW fr p.1 p.2 := fun p hp => f.vw (List.all_eq_true.mp h p hp)
theorem swp (f : Fk prog w B mg mb n sc names cs bi fr) {elts es : List Expr} {k1 k2 : Nat} {tpos vpos pos : Pos} {tg : List (Nat × Str)} {is : List Nat} {X : EvE} {ts : List Nat} (ht : (tg.all fun p => okw sc names cs bi p.1 p.2) = true) (his : (tg.map (·.1)).reverse = is) (hX : SX prog w fr es X) (hlen : es.length = tg.length) (hz : es.length ≤ 1000)
    (hsl : Sl X ts) (hts : ts.Nodup)
    (hs : ∀ env, swapsWithSole [.Tuple elts k1 tpos] (.Tuple es k2 vpos) pos.line env = pure false)
    (hw : swappedStores [.Tuple elts k1 tpos] (.Tuple es k2 vpos) (envS sc) = pure (some (tg.map (·.2)))) :
    SS prog w fr (.Assign [.Tuple elts k1 tpos] (.Tuple es k2 vpos) pos) (ySwp is X) := by
  subst his
  exact SS.swp f.ok (f.vws ht) hX hlen hz (fun σ els σ' e => by
    have := hsl σ els σ' e
    have h2 : slots els.reverse = ts.reverse := by rw [← this]; simp [slots, List.filterMap_reverse]
    rw [h2]; unfold List.Nodup; rw [List.pairwise_reverse]; exact hts.imp fun h => Ne.symm h) hs ((swapS (env' := envS sc) f.scp).trans hw)
theorem tup (f : Fk prog w B mg mb n sc names cs bi fr) {elts es : List Expr} {k1 k2 : Nat} {tpos vpos pos : Pos} {tg : List (Nat × Str)} {is : List Nat} {X : EvE} {ts : List Nat} (hT : TgE elts tg) (ht : (tg.all fun p => okw sc names cs bi p.1 p.2) = true) (his : tg.map (·.1) = is) (hX : SX prog w fr es X) (hlen : es.length = tg.length) (hz : es.length ≤ 1000)
    (hsl : Sl X ts) (hts : ts.Nodup)
    (hs : ∀ env, swapsWithSole [.Tuple elts k1 tpos] (.Tuple es k2 vpos) pos.line env = pure false)
    (hw : swappedStores [.Tuple elts k1 tpos] (.Tuple es k2 vpos) (envS sc) = pure none) :
    SS prog w fr (.Assign [.Tuple elts k1 tpos] (.Tuple es k2 vpos) pos) (yTup is X) := by
  subst his
  exact SS.tup f.ok hT (f.vws ht) hX hlen hz (fun σ els σ' e => by rw [hsl σ els σ' e]; exact hts) hs ((swapS (env' := envS sc) f.scp).trans hw)
theorem unp (f : Fk prog w B mg mb n sc names cs bi fr) {elts : List Expr} {e : Expr} {k1 : Nat} {tpos pos : Pos} {tg : List (Nat × Str)} {is : List Nat} {F : Ev} (hT : TgE elts tg) (ht : (tg.all fun p => okw sc names cs bi p.1 p.2) = true) (his : tg.map (·.1) = is) (hF : SE prog w fr e F)
    (hs : ∀ env, swapsWithSole [.Tuple elts k1 tpos] e pos.line env = pure false)
    (hw : ∀ env, swappedStores [.Tuple elts k1 tpos] e env = pure none) :
    SS prog w fr (.Assign [.Tuple elts k1 tpos] e pos) (yUnp is F) := by
  subst his
  exact SS.unp f.ok hT (f.vws ht) hF hs hw
theorem for_ (f : Fk prog w B mg mb n sc names cs bi fr) {target iter : Expr} {body : List Stmt} {pos : Pos} {m : Nat} {tg : List (Nat × Str)} {S : EvI} {Bd : Ex} {tgi : List Nat} (hi : SI prog w fr iter m S) (ht : TgT m target tg) (hw : (tg.all fun p => okw sc names cs bi p.1 p.2) = true) (htg : tg.map (·.1) = tgi)
    (hb : SSs prog w fr body Bd) (hs : ∀ env x, foldedSetIterable iter env x = pure x) : SS prog w fr (.For target iter body [] pos) (yFor S tgi Bd) :=
  SS.for f.ok hi ht (f.vws hw) htg hb hs
theorem set (f : Fk prog w B mg mb n sc names cs bi fr) {x : Str} {p pos : Pos} {e : Expr} {i : Nat} {F : Ev} (hw : okw sc names cs bi i x = true) (h : SE prog w fr e F) (hs : ∀ env, swapsWith e (some (.Name x p)) pos.line env = pure false) : SS prog w fr (.Assign [.Name x p] e pos) (ySet i F) := SS.set f.ok (f.vw hw) h hs
theorem aug (f : Fk prog w B mg mb n sc names cs bi fr) {x : Str} {p pos : Pos} {e : Expr} {i : Nat} {F : Ev} (hw : okw sc names cs bi i x = true) (h : SE prog w fr e F) : SS prog w fr (.AugAssign (.Name x p) .Add e pos) (yAug i oIadd F) := SS.aug f.ok (f.vw hw) h fun _ _ _ _ _ _ _ r r' e => g_iadd r r' e
theorem at_ (f : Fk prog w B mg mb n sc names cs bi fr) {x : Str} {p pos pos' : Pos} {e ix : Expr} {i : Nat} {F G : Ev} (hw : okr names i x = true) (h : SE prog w fr e F) (hi : SE prog w fr ix G)
    (hs : ∀ env, swapsWith e (some (.Subscript (.Name x p) ix pos')) pos.line env = pure false) : SS prog w fr (.Assign [.Subscript (.Name x p) ix pos'] e pos) (yAt i F G) := SS.at f.ok (f.rd hw).1 (f.rd hw).2 h hi hs
theorem augAt (f : Fk prog w B mg mb n sc names cs bi fr) {x : Str} {p pos pos' : Pos} {e ix : Expr} {i : Nat} {F G : Ev} (hw : okr names i x = true) (hi : SE prog w fr ix G) (h : SE prog w fr e F)
    (ha : ∀ ov iv new, augStore ix ov iv new = (do holding [new, ov, iv] (setItem ov iv new); release [new, ov, iv] []; pure .next)) : SS prog w fr (.AugAssign (.Subscript (.Name x p) ix pos') .Add e pos) (yAugAt i oIadd G F) :=
  SS.augAt f.ok (f.rd hw).1 (f.rd hw).2 hi h (fun _ _ _ _ _ _ _ r r' e => g_iadd r r' e) ha
theorem app (f : Fk prog w B mg mb n sc names cs bi fr) {x : Str} {p ap cp pos : Pos} {e : Expr} {i : Nat} {F : Ev} {pl : Env → Sem Bool} (hw : okr names i x = true) (h : SE prog w fr e F)
    (hs : ∀ env, swapsWith (.Call (.Attribute (.Name x p) "append" ap) [e] [] cp) none pos.line env = pure false)
    (he : ∀ env, eval (.Call (.Attribute (.Name x p) "append" ap) [e] [] cp) env = (do
      let ov ← eval (.Name x p) env
      standAt ap.atName
      let (f, first) ← holding [ov] (getMethod ov "append" (pl env))
      callWith cp f first (backTo cp (starEach [e] env)) []))
    (hst : ∀ env, starEach [e] env = [(false, eval e env)]) :
    SS prog w fr (.Expr (.Call (.Attribute (.Name x p) "append" ap) [e] [] cp) pos) (yApp i F) := SS.app f.ok (f.rd hw).1 (f.rd hw).2 h f.inter hs he hst
theorem expr (f : Fk prog w B mg mb n sc names cs bi fr) {e : Expr} {pos : Pos} {F : Ev} (h : SE prog w fr e F) (hs : ∀ env, swapsWith e none pos.line env = pure false) : SS prog w fr (.Expr e pos) (yExpr F) := SS.expr h f.inter hs

theorem add (_ : Fk prog w B mg mb n sc names cs bi fr) {l r : Expr} {pos : Pos} {F G : Ev} (hl : SE prog w fr l F) (hr : SE prog w fr r G) : SE prog w fr (.BinOp l .Add r pos) (xBin oAdd F G) := SE.bin hl hr fun _ _ _ _ _ _ _ r r' e => g_add r r' e
theorem sub (_ : Fk prog w B mg mb n sc names cs bi fr) {l r : Expr} {pos : Pos} {F G : Ev} (hl : SE prog w fr l F) (hr : SE prog w fr r G) : SE prog w fr (.BinOp l .Sub r pos) (xBin oSub F G) := SE.bin hl hr fun _ _ _ _ _ _ _ r r' e => g_sub r r' e
theorem mul (_ : Fk prog w B mg mb n sc names cs bi fr) {l r : Expr} {pos : Pos} {F G : Ev} (hl : SE prog w fr l F) (hr : SE prog w fr r G) : SE prog w fr (.BinOp l .Mult r pos) (xBin oMul F G) := SE.bin hl hr fun _ _ _ _ _ _ _ r r' e => g_mul r r' e
theorem div (_ : Fk prog w B mg mb n sc names cs bi fr) {l r : Expr} {pos : Pos} {F G : Ev} (hl : SE prog w fr l F) (hr : SE prog w fr r G) : SE prog w fr (.BinOp l .FloorDiv r pos) (xBin oDiv F G) := SE.bin hl hr fun _ _ _ _ _ _ _ r r' e => g_div r r' e
theorem mod (_ : Fk prog w B mg mb n sc names cs bi fr) {l r : Expr} {pos : Pos} {F G : Ev} (hl : SE prog w fr l F) (hr : SE prog w fr r G) : SE prog w fr (.BinOp l .Mod r pos) (xBin oMod F G) := SE.bin hl hr fun _ _ _ _ _ _ _ r r' e => g_mod r r' e
theorem pow (_ : Fk prog w B mg mb n sc names cs bi fr) {l r : Expr} {pos : Pos} {F G : Ev} (hl : SE prog w fr l F) (hr : SE prog w fr r G) : SE prog w fr (.BinOp l .Pow r pos) (xBin oPow F G) := SE.bin hl hr fun _ _ _ _ _ _ _ r r' e => g_pow r r' e
theorem shl (_ : Fk prog w B mg mb n sc names cs bi fr) {l r : Expr} {pos : Pos} {F G : Ev} (hl : SE prog w fr l F) (hr : SE prog w fr r G) : SE prog w fr (.BinOp l .LShift r pos) (xBin oShl F G) := SE.bin hl hr fun _ _ _ _ _ _ _ r r' e => g_shl r r' e

/-- a comparison, and what it computes -/
structure Cm (A : Around) (op : CmpOp) (c : D → D → Option D) : Prop where
  g : ∀ {prog : Program} {w : World} (s : Shared) (P : Addr → Prop) (va vb : Value) (a b d : D), Rep s.heap P va a → Rep s.heap P vb b → c a b = some d → Giv prog w A (compareOp op va vb) s P d
theorem lt (_ : Fk prog w B mg mb n sc names cs bi fr) : Cm fr.A .Lt cLt := ⟨fun _ _ _ _ _ _ _ r r' e => g_lt r r' e⟩
theorem le (_ : Fk prog w B mg mb n sc names cs bi fr) : Cm fr.A .LtE cLe := ⟨fun _ _ _ _ _ _ _ r r' e => g_le r r' e⟩
theorem gt (_ : Fk prog w B mg mb n sc names cs bi fr) : Cm fr.A .Gt cGt := ⟨fun _ _ _ _ _ _ _ r r' e => g_gt r r' e⟩
theorem ge (_ : Fk prog w B mg mb n sc names cs bi fr) : Cm fr.A .GtE cGe := ⟨fun _ _ _ _ _ _ _ r r' e => g_ge r r' e⟩
theorem eq (_ : Fk prog w B mg mb n sc names cs bi fr) : Cm fr.A .Eq cEq := ⟨fun _ _ _ _ _ _ _ r r' e => g_eq r r' e⟩
theorem ne (f : Fk prog w B mg mb n sc names cs bi fr) : Cm fr.A .NotEq cNe := ⟨fun _ _ _ _ _ _ _ r r' e => g_ne (by have := f.r.u; (first | lia | omega)) r r' e⟩
theorem nin (_ : Fk prog w B mg mb n sc names cs bi fr) : Cm fr.A .NotIn cNin := ⟨fun _ _ _ _ _ _ _ r r' e => g_nin r r' e⟩
theorem cmp {l r : Expr} {op : CmpOp} {pos : Pos} {F G : Ev} {c : D → D → Option D} (cm : Cm fr.A op c) (hl : SE prog w fr l F) (hr : SE prog w fr r G) (hm : behindInMarks op r = false) : SE prog w fr (.Compare l [op] [r] pos) (xBin c F G) := SE.cmp hl hr cm.g hm
theorem tcmp {l r : Expr} {op : CmpOp} {pos : Pos} {F G : Ev} {c : D → D → Option D} (cm : Cm fr.A op c) (hl : SE prog w fr l F) (hr : SE prog w fr r G) (hm : behindInMarks op r = false) : ST prog w fr (.Compare l [op] [r] pos) (xBin c F G) := ST.cmp hl hr cm.g hm
theorem chn {l r q : Expr} {o1 o2 : CmpOp} {pos : Pos} {F G H : Ev} {c d : D → D → Option D} (cm : Cm fr.A o1 c) (cm2 : Cm fr.A o2 d) (hl : SE prog w fr l F) (hr : SE prog w fr r G) (hq : SE prog w fr q H) (hm : lastMarks [o1, o2] [r, q] = false) :
    SE prog w fr (.Compare l [o1, o2] [r, q] pos) (xChn c d F G H) := SE.chn hl hr hq cm.g cm2.g hm
theorem tchn {l r q : Expr} {o1 o2 : CmpOp} {pos : Pos} {F G H : Ev} {c d : D → D → Option D} (cm : Cm fr.A o1 c) (cm2 : Cm fr.A o2 d) (hl : SE prog w fr l F) (hr : SE prog w fr r G) (hq : SE prog w fr q H) (hm : lastMarks [o1, o2] [r, q] = false) :
    ST prog w fr (.Compare l [o1, o2] [r, q] pos) (xChn c d F G H) := ST.chn hl hr hq cm.g cm2.g hm
end Fk

theorem cellsFrom_some {x : Str} : ∀ {names : List (Str × NameKind)} {n : Nat} {acc : List (Str × Addr)}, (acc.lookup x).isSome = true ∨ names.lookup x = some .cell → ((cellsFrom n names acc).lookup x).isSome = true
  | [], n, acc, h => by
    rcases h with h | h
    · exact h
    · cases h
  | (y, k) :: r, n, acc, h => by
    unfold cellsFrom
    split
    · rename_i hk
      refine cellsFrom_some ?_
      by_cases hxy : x = y
      · subst hxy; left; simp
      · have hb : (x == y) = false := by simpa using hxy
        rcases h with h | h
        · left; rw [List.lookup_cons]; simp only [hb]; exact h
        · right; rw [List.lookup_cons] at h; simp only [hb] at h; exact h
    · rename_i hk
      refine cellsFrom_some ?_
      rcases h with h | h
      · exact .inl h
      · right
        rw [List.lookup_cons] at h
        by_cases hxy : x = y
        · subst hxy
          simp only [beq_self_eq_true] at h
          cases h
          exact absurd rfl hk
        · have hb : (x == y) = false := by simpa using hxy
          simp only [hb] at h; exact h
theorem okp {sc : Scope} {ps : List Str} (h : (ps.all fun x => sc.names.lookup x == some .local || sc.names.lookup x == some .cell) = true) : ∀ L : Nat, ∀ x ∈ ps, sc.names.lookup x = some .local ∨ (sc.names.lookup x = some .cell ∧ ((cellsFrom (L + 1) sc.names []).lookup x).isSome = true) := fun L x hx => by
  have := List.all_eq_true.mp h x hx
  simp only [Bool.or_eq_true, beq_iff_eq] at this
  rcases this with q | q
  · exact .inl q
  · exact .inr ⟨q, cellsFrom_some (.inr q)⟩
theorem okcs {sc : Scope} {cs : List Str} (h : (cs.all fun x => sc.names.lookup x == some .cell) = true) : ∀ L : Nat, ∀ x ∈ cs, sc.names.lookup x = some .cell ∧ ((cellsFrom (L + 1) sc.names []).lookup x).isSome = true := fun L x hx => by
  have := List.all_eq_true.mp h x hx
  simp only [beq_iff_eq] at this
  exact ⟨this, cellsFrom_some (.inr this)⟩
end

/-! ### the text's defs -/
noncomputable def stAt (k : Nat) : Stmt := (PySem.Challenge.pw_xm0988_01.main.body[k]?).getD (.Pass ⟨0, 0, 0, 0⟩)
noncomputable def bodyOf : Stmt → List Stmt
  | .FunctionDef _ _ b .. => b
  | _ => []
noncomputable def argsOf : Stmt → Arguments
  | .FunctionDef _ a .. => a
  | _ => ⟨[], [], none, [], [], none, []⟩
noncomputable def scOf : Stmt → Scope
  | .FunctionDef _ _ _ _ _ _ s .. => s
  | _ => ⟨.function, [], false, false, []⟩
end Mine
end

section
open PySem PySem.W PyProof.Rows PySem.Calls
set_option autoImplicit false
namespace Mine
noncomputable def nm_used_symbols : List Str := ["counts", "found", "symbol", "count"]
noncomputable def f_used_symbols : Ex :=
 (ySeq (ySetO 1 100 xNil)
 (ySeq (yFor (iEnum (xVar 0)) [2, 3]
 (ySeq (yIf (xBin cLt (xVar 3) (xInt 0))
 (ySeq yStuck
 yNil)
 yNil)
 (ySeq (yIf (xBin cGt (xVar 3) (xInt 0))
 (ySeq (yApp 1 (xTup (xCons (xVar 3) (xCons (xVar 2) xNil))))
 yNil)
 yNil)
 yNil)))
 (ySeq (yRet (xB1 bSort2 (bOwn 1)))
 yNil)))
noncomputable def g_used_symbols : List D → Option D := gOf 1 f_used_symbols
noncomputable def nm_total_bits : List Str := ["counts", "lengths", "found", "symbol", "count"]
noncomputable def f_total_bits : Ex :=
 (ySeq (ySet 2 (xInt 0))
 (ySeq (yFor (iEnum (xVar 0)) [3, 4]
 (ySeq (yIf (xBin cGt (xVar 4) (xInt 0))
 (ySeq (yIf (xOr (xBin cGe (xVar 3) (xB1 bLen (bGen (xVar 1)))) (xBin cEq (xSub (bGen (xVar 1)) (xVar 3)) (xInt 0)))
 (ySeq yStuck
 yNil)
 yNil)
 (ySeq (yAug 2 oIadd (xBin oMul (xVar 4) (xSub (bGen (xVar 1)) (xVar 3))))
 yNil))
 yNil)
 yNil))
 (ySeq (yRet (xVar 2))
 yNil)))
noncomputable def g_total_bits : List D → Option D := gOf 2 f_total_bits
noncomputable def nm_placed : List Str := ["size", "rows", "depths", "found", "place", "depth"]
noncomputable def f_placed : Ex :=
 (ySeq (ySetO 3 100 (fMul (xCons (xInt 0) xNil) (xVar 0)))
 (ySeq (yFor (iEnum (xVar 2)) [4, 5]
 (ySeq (yAt 3 (xVar 5) (xSub (bGen (xSub (bGen (xVar 1)) (xVar 4))) (xInt 1)))
 yNil))
 (ySeq (yRet (xMov 3))
 yNil)))
noncomputable def g_placed : List D → Option D := gOf 3 f_placed
noncomputable def nm_tree_depths : List Str := ["weights", "many", "parents", "leaf", "joined", "made", "both", "side", "taken", "depths", "place"]
noncomputable def f_tree_depths : Ex :=
 (ySeq (ySet 1 (xB1 bLen (bGen (xVar 0))))
 (ySeq (ySetO 0 100 (fCopy (bGen (xVar 0))))
 (ySeq (ySetO 2 101 (fMul (xCons (xInt 0) xNil) (xBin oSub (xBin oMul (xInt 2) (xVar 1)) (xInt 1))))
 (ySeq (ySwp [4, 3] (eSh (xInt 0) (eSh (xVar 1) eNil)))
 (ySeq (yFor (iRng (xB2 bRng2 (xCons (xVar 1) (xCons (xBin oSub (xBin oMul (xInt 2) (xVar 1)) (xInt 1)) xNil)))) [5]
 (ySeq (ySet 6 (xInt 0))
 (ySeq (yFor (iRng (xB1 bRng1 (bGen (xInt 2)))) [7]
 (ySeq (yIf (xAnd (xBin cLt (xVar 3) (xVar 1)) (xOr (xBin cGe (xVar 4) (xVar 5)) (xBin cLe (xSub (bOwn 0) (xVar 3)) (xSub (bOwn 0) (xVar 4)))))
 (ySeq (ySwp [3, 8] (eSh (xVar 3) (eSh (xBin oAdd (xVar 3) (xInt 1)) eNil)))
 yNil)
 (ySeq (ySwp [4, 8] (eSh (xVar 4) (eSh (xBin oAdd (xVar 4) (xInt 1)) eNil)))
 yNil))
 (ySeq (yAt 2 (xVar 5) (xVar 8))
 (ySeq (yAug 6 oIadd (xSub (bOwn 0) (xVar 8)))
 yNil))))
 (ySeq (yApp 0 (xVar 6))
 yNil))))
 (ySeq (ySetO 9 102 (fMul (xCons (xInt 0) xNil) (xBin oSub (xBin oMul (xInt 2) (xVar 1)) (xInt 1))))
 (ySeq (yFor (iRng (xB3 bRng3 (xCons (xBin oSub (xBin oMul (xInt 2) (xVar 1)) (xInt 3)) (xCons (xNeg (xInt 1)) (xCons (xNeg (xInt 1)) xNil))))) [10]
 (ySeq (yAt 9 (xBin oAdd (xSub (bOwn 9) (xSub (bOwn 2) (xVar 10))) (xInt 1)) (xVar 10))
 yNil))
 (ySeq (yRet (xUpto (bOwn 9) (xVar 1)))
 yNil))))))))
noncomputable def g_tree_depths : List D → Option D := gOf 1 f_tree_depths
noncomputable def nm_free_lengths : List Str := ["counts", "rows"]
noncomputable def f_free_lengths : Ex :=
 (ySeq (ySet 1 (xCall g_used_symbols (xCons (xVar 0) xNil)))
 (ySeq (yIf (xBin cLt (xB1 bLen (bGen (xVar 1))) (xInt 2))
 (ySeq (yRet (xCall g_placed (xCons (xB1 bLen (bGen (xVar 0))) (xCons (xVar 1) (xCons (xBin oMul (xList (xCons (xInt 1) xNil)) (xB1 bLen (bGen (xVar 1)))) xNil)))))
 yNil)
 yNil)
 (ySeq (yRet (xCall g_placed (xCons (xB1 bLen (bGen (xVar 0))) (xCons (xVar 1) (xCons (xCall g_tree_depths (xCons (xComp (iPairs (xVar 1)) [] [0, 1] xTrue (xVar 0)) xNil)) xNil)))))
 yNil)))
noncomputable def g_free_lengths : List D → Option D := gOf 1 f_free_lengths
noncomputable def nm_check_room : List Str := ["many", "longest"]
noncomputable def f_check_room : Ex :=
 (ySeq (yIf (xOr (xAnd (xBin cGt (xVar 0) (xInt 0)) (xBin cLt (xVar 1) (xInt 1))) (xBin cGt (xVar 0) (xBin oShl (xInt 1) (xB2 bMax2 (xCons (xInt 0) (xCons (xVar 1) xNil))))))
 (ySeq yStuck
 yNil)
 yNil)
 yNil)
noncomputable def g_check_room : List D → Option D := gOf 2 f_check_room
noncomputable def nm_merged : List Str := ["weights", "pairs", "row", "leaves", "leaf", "pair", "is_leaf"]
noncomputable def f_merged : Ex :=
 (ySeq (yTup [2, 3, 4, 5] (eOw 100 xNil (eOw 101 xNil (eSh (xInt 0) (eSh (xInt 0) eNil)))))
 (ySeq (yWhl 40 (xOr (xBin cLt (xVar 4) (xB1 bLen (bGen (xVar 0)))) (xBin cLt (xVar 5) (xB1 bLen (bGen (xVar 1)))))
 (ySeq (ySet 6 (xOr (xBin cEq (xVar 5) (xB1 bLen (bGen (xVar 1)))) (xAnd (xBin cLt (xVar 4) (xB1 bLen (bGen (xVar 0)))) (xBin cLe (xSub (bGen (xVar 0)) (xVar 4)) (xSub (bGen (xVar 1)) (xVar 5))))))
 (ySeq (yApp 3 (xVar 6))
 (ySeq (yIf (xVar 6)
 (ySeq (yApp 2 (xSub (bGen (xVar 0)) (xVar 4)))
 (ySeq (yAug 4 oIadd (xInt 1))
 yNil))
 (ySeq (yApp 2 (xSub (bGen (xVar 1)) (xVar 5)))
 (ySeq (yAug 5 oIadd (xInt 1))
 yNil)))
 yNil))))
 (ySeq (yRet (xTup (xCons (xMov 2) (xCons (xMov 3) xNil))))
 yNil)))
noncomputable def g_merged : List D → Option D := gOf 2 f_merged
noncomputable def nm_package_depths : List Str := ["weights", "longest", "rows", "row", "lap", "pairs", "leaves", "depths", "wanted", "taken", "is_leaf", "place"]
noncomputable def f_package_depths : Ex :=
 (ySeq (yTup [2, 3] (eOw 100 xNil (eSh (xList xNil) eNil)))
 (ySeq (yFor (iRng (xB1 bRng1 (bGen (xVar 1)))) [4]
 (ySeq (ySet 5 (xComp (iRng (xB3 bRng3 (xCons (xInt 0) (xCons (xBin oSub (xB1 bLen (bGen (xVar 3))) (xInt 1)) (xCons (xInt 2) xNil))))) [(1, 3)] [0] xTrue (xBin oAdd (xSub (bGen (xVar 1)) (xVar 0)) (xSub (bGen (xVar 1)) (xBin oAdd (xVar 0) (xInt 1))))))
 (ySeq (yUnp [3, 6] (xCall g_merged (xCons (xVar 0) (xCons (xVar 5) xNil))))
 (ySeq (yApp 2 (xVar 6))
 yNil))))
 (ySeq (ySwp [8, 7] (eOw 101 (fMul (xCons (xInt 0) xNil) (xB1 bLen (bGen (xVar 0)))) (eSh (xBin oSub (xBin oMul (xInt 2) (xB1 bLen (bGen (xVar 0)))) (xInt 2)) eNil)))
 (ySeq (yFor (iRev (xMov 2)) [6]
 (ySeq (ySet 9 (xInt 0))
 (ySeq (yFor (iList (xUpto (bGen (xVar 6)) (xVar 8))) [10]
 (ySeq (yAug 9 oIadd (xB1 bInt (bGen (xVar 10))))
 yNil))
 (ySeq (yFor (iRng (xB1 bRng1 (bGen (xVar 9)))) [11]
 (ySeq (yAugAt 7 oIadd (xVar 11) (xInt 1))
 yNil))
 (ySeq (ySet 8 (xBin oMul (xInt 2) (xBin oSub (xVar 8) (xVar 9))))
 yNil)))))
 (ySeq (yRet (xMov 7))
 yNil)))))
noncomputable def g_package_depths : List D → Option D := gOf 2 f_package_depths
noncomputable def nm_least_lengths : List Str := ["counts", "longest", "rows"]
noncomputable def f_least_lengths : Ex :=
 (ySeq (ySet 2 (xCall g_used_symbols (xCons (xVar 0) xNil)))
 (ySeq (yExpr (xCall g_check_room (xCons (xB1 bLen (bGen (xVar 2))) (xCons (xVar 1) xNil))))
 (ySeq (yIf (xBin cLt (xB1 bLen (bGen (xVar 2))) (xInt 2))
 (ySeq (yRet (xCall g_placed (xCons (xB1 bLen (bGen (xVar 0))) (xCons (xVar 2) (xCons (xBin oMul (xList (xCons (xInt 1) xNil)) (xB1 bLen (bGen (xVar 2)))) xNil)))))
 yNil)
 yNil)
 (ySeq (yRet (xCall g_placed (xCons (xB1 bLen (bGen (xVar 0))) (xCons (xVar 2) (xCons (xCall g_package_depths (xCons (xComp (iPairs (xVar 2)) [] [0, 1] xTrue (xVar 0)) (xCons (xVar 1) xNil))) xNil)))))
 yNil))))
noncomputable def g_least_lengths : List D → Option D := gOf 2 f_least_lengths
noncomputable def nm_law_box : List Str := ["script", "digits", "state", "cell"]
noncomputable def f_law_box : ExN :=
 (ySeqN (yTup [1, 2] (eSh (xInt 0) (eSh (xInt 1) eNil)))
 (ySeqN (yFor (iList (xUpto (bGen (xVar 0)) (xInt 30))) [3]
 (ySeq (yIf (xBin cGe (xVar 3) (xBin oPow (xInt 10) (xInt 18)))
 (ySeq (ySet 1 (xBin oSub (xBin oAdd (xVar 1) (xVar 3)) (xBin oPow (xInt 10) (xInt 18))))
 yNil)
 (ySeq (ySet 2 (xBin oAdd (xInt 1) (xBin oMod (xBin oAdd (xBin oMul (xVar 2) (xInt 1009)) (xVar 3)) (xInt 2147483629))))
 yNil))
 yNil))
 (xCons (xVar 1) (xCons (xVar 2) xNil))))
noncomputable def g_law_box : List D → Option (List D) := gOfN 1 f_law_box
noncomputable def nm_law_take : List Str := ["box", "many", "digit"]
noncomputable def f_law_take : Ex :=
 (ySeq (yIf (xBin cGt (xSub (bOwn 0) (xInt 0)) (xInt 0))
 (ySeq (ySet 2 (xBin oMod (xSub (bOwn 0) (xInt 0)) (xVar 1)))
 (ySeq (yAt 0 (xBin oDiv (xSub (bOwn 0) (xInt 0)) (xVar 1)) (xInt 0))
 (ySeq (yRet (xVar 2))
 yNil)))
 yNil)
 (ySeq (yAt 0 (xBin oMod (xBin oMul (xSub (bOwn 0) (xInt 1)) (xInt 48271)) (xInt 2147483647)) (xInt 1))
 (ySeq (yRet (xBin oMod (xBin oDiv (xSub (bOwn 0) (xInt 1)) (xInt 1024)) (xVar 1)))
 yNil)))
noncomputable def g_law_take : List Int → List D → Option (D × List Int) := gOfB 1 f_law_take
noncomputable def nm_law_counts : List Str := ["box", "many", "way", "found", "place", "spot", "more", "turn"]
noncomputable def f_law_counts : Ex :=
 (ySeq (ySwp [3, 2] (eSh (xCallB 0 g_law_take (xCons (xInt 4) xNil)) (eOw 100 xNil eNil)))
 (ySeq (yFor (iRng (xB1 bRng1 (bGen (xVar 1)))) [4]
 (ySeq (yIf (xAnd (xBin cEq (xVar 2) (xInt 2)) (xBin cGt (xVar 4) (xInt 1)))
 (ySeq (yApp 3 (xBin oAdd (xBin oAdd (xSub (bOwn 3) (xNeg (xInt 1))) (xSub (bOwn 3) (xNeg (xInt 2)))) (xCallB 0 g_law_take (xCons (xInt 2) xNil))))
 yNil)
 (ySeq (yApp 3 (xBin oAdd (xInt 1) (xCallB 0 g_law_take (xCons (xIf (xBin cEq (xVar 2) (xInt 0)) (xInt 9) (xInt 3)) xNil))))
 yNil))
 yNil))
 (ySeq (yIf (xBin cEq (xVar 2) (xInt 3))
 (ySeq (ySwp [6, 5] (eSh (xCallB 0 g_law_take (xCons (xVar 1) xNil)) (eSh (xCallB 0 g_law_take (xCons (xInt 30) xNil)) eNil)))
 (ySeq (yAt 3 (xBin oAdd (xSub (bOwn 3) (xVar 5)) (xVar 6)) (xVar 5))
 yNil))
 yNil)
 (ySeq (ySet 7 (xCallB 0 g_law_take (xCons (xVar 1) xNil)))
 (ySeq (yRet (xBin oAdd (xFrom (bOwn 3) (xVar 7)) (xUpto (bOwn 3) (xVar 7))))
 yNil)))))
noncomputable def g_law_counts : List Int → List D → Option (D × List Int) := gOfB 1 f_law_counts
noncomputable def nm_law_moves : List Str := ["box", "counts", "rows", "moves", "turn", "order", "low", "high", "one", "other", "moved"]
noncomputable def f_law_moves : Ex :=
 (ySeq (ySwp [3, 2] (eOw 100 (xCons (xVar 1) xNil) (eOw 101 xNil eNil)))
 (ySeq (yFor (iRng (xB1 bRng1 (bGen (xBin oAdd (xInt 1) (xCallB 0 g_law_take (xCons (xInt 2) xNil)))))) [4]
 (ySeq (ySet 5 (xB1 bSort2 (bGen (xComp (iEnum (xSub (bOwn 2) (xNeg (xInt 1)))) [] [0, 1] (xBin cGt (xVar 1) (xInt 0)) (xTup (xCons (xVar 1) (xCons (xVar 0) xNil)))))))
 (ySeq (ySet 6 (xCallB 0 g_law_take (xCons (xBin oSub (xB1 bLen (bGen (xVar 5))) (xInt 1)) xNil)))
 (ySeq (ySet 7 (xBin oAdd (xBin oAdd (xVar 6) (xInt 1)) (xCallB 0 g_law_take (xCons (xBin oSub (xBin oSub (xB1 bLen (bGen (xVar 5))) (xInt 1)) (xVar 6)) xNil))))
 (ySeq (ySwp [9, 8] (eSh (xSub (bGen (xSub (bGen (xVar 5)) (xVar 6))) (xInt 1)) (eSh (xSub (bGen (xSub (bGen (xVar 5)) (xVar 7))) (xInt 1)) eNil)))
 (ySeq (yIf (xOr (xBin cGt (xSub (bGen (xSub (bGen (xVar 5)) (xVar 6))) (xInt 0)) (xInt 1)) (xBin cGt (xB1 bLen (bGen (xVar 5))) (xInt 2)))
 (ySeq (ySetO 10 102 (fCopy (bGen (xSub (bOwn 2) (xNeg (xInt 1))))))
 (ySeq (yAt 10 (xBin oSub (xSub (bOwn 10) (xVar 8)) (xInt 1)) (xVar 8))
 (ySeq (yAt 10 (xBin oAdd (xSub (bOwn 10) (xVar 9)) (xInt 1)) (xVar 9))
 (ySeq (yApp 2 (xMov 10))
 (ySeq (yApp 3 (xList (xCons (xVar 8) (xCons (xVar 9) xNil))))
 yNil)))))
 yNil)
 yNil))))))
 (ySeq (yRet (xTup (xCons (xMov 2) (xCons (xMov 3) xNil))))
 yNil)))
noncomputable def g_law_moves : List Int → List D → Option (D × List Int) := gOfB 1 f_law_moves
noncomputable def nm_law_same : List Str := ["many"]
noncomputable def f_law_same : Ex :=
 (ySeq (yRet (xB1 bLen (bGen (xComp (iRng (xB1 bRng1 (bGen (xInt 4)))) [(1, 0)] [0] (xBin cLt (xBin oPow (xInt 2) (xVar 0)) (xVar 1)) (xVar 0)))))
 yNil)
noncomputable def g_law_same : List D → Option D := gOf 1 f_law_same
noncomputable def nm_law_near : List Str := ["used", "short"]
noncomputable def f_law_near : Ex :=
 (ySeq (ySet 1 (xB1 bLen (bGen (xComp (iRng (xB2 bRng2 (xCons (xInt 1) (xCons (xInt 4) xNil)))) [(1, 0)] [0] (xBin cLe (xBin oPow (xInt 2) (xVar 0)) (xB1 bLen (bGen (xVar 1)))) (xVar 0)))))
 (ySeq (yRet (xBin oAdd (xBin oMul (xB1 bSum (bGen (xVar 0))) (xVar 1)) (xB1 bSum (bGen (xUpto (bGen (xB1 bSort2 (bGen (xVar 0)))) (xBin oMul (xInt 2) (xBin oSub (xB1 bLen (bGen (xVar 0))) (xBin oPow (xInt 2) (xVar 1)))))))))
 yNil))
noncomputable def g_law_near : List D → Option D := gOf 1 f_law_near
noncomputable def nm_law_fewest : List Str := ["many", "whole", "longest", "totals", "length", "rest", "turn"]
noncomputable def f_law_fewest : Ex :=
 (ySeq (ySetO 3 100 xNil)
 (ySeq (yFor (iRng (xB2 bRng2 (xCons (xInt 1) (xCons (xVar 0) xNil)))) [4]
 (ySeq (ySet 5 (xB1 bList (bGen (xB2 bRng2 (xCons (xInt 1) (xCons (xBin oAdd (xVar 4) (xInt 1)) xNil))))))
 (ySeq (yFor (iRng (xB1 bRng1 (bGen (xBin oSub (xBin oSub (xVar 0) (xInt 1)) (xVar 4))))) [6]
 (ySeq (ySet 5 (xB1 bSort2 (bGen (xBin oAdd (xFrom (bGen (xVar 5)) (xInt 1)) (xList (xCons (xBin oAdd (xSub (bGen (xVar 5)) (xInt 0)) (xInt 1)) (xCons (xBin oAdd (xSub (bGen (xVar 5)) (xInt 0)) (xInt 1)) xNil)))))))
 yNil))
 (ySeq (yIf (xBin cLe (xB1 bMax (bGen (xVar 5))) (xVar 2))
 (ySeq (yApp 3 (xBin oAdd (xBin oMul (xBin oAdd (xBin oSub (xVar 1) (xVar 0)) (xInt 1)) (xVar 4)) (xB1 bSum (bGen (xVar 5)))))
 yNil)
 yNil)
 yNil))))
 (ySeq (yRet (xB1 bMin (bOwn 3)))
 yNil)))
noncomputable def g_law_fewest : List D → Option D := gOf 3 f_law_fewest
noncomputable def nm_law_evener : List Str := ["one", "other", "found", "done", "first", "second", "mine", "theirs"]
noncomputable def f_law_evener : Ex :=
 (ySeq (yTup [2, 3, 4, 5] (eOw 100 xNil (eSh (xInt 0) (eSh (xInt 0) (eSh (xInt 0) eNil)))))
 (ySeq (yFor (iZip (xCons (xB1 bSort2 (bGen (xVar 0))) (xCons (xB1 bSort2 (bGen (xVar 1))) xNil))) [6, 7]
 (ySeq (ySwp [5, 4] (eSh (xBin oAdd (xVar 4) (xVar 6)) (eSh (xBin oAdd (xVar 5) (xVar 7)) eNil)))
 (ySeq (yApp 2 (xBin oSub (xB2 bMax2 (xCons (xVar 4) (xCons (xVar 5) xNil))) (xVar 3)))
 (ySeq (ySet 3 (xB2 bMax2 (xCons (xVar 4) (xCons (xVar 5) xNil))))
 yNil))))
 (ySeq (yRet (xMov 2))
 yNil)))
noncomputable def g_law_evener : List D → Option D := gOf 2 f_law_evener
noncomputable def nm_law_told : List Str := ["counts", "longest"]
noncomputable def f_law_told : Ex :=
 (ySeq (yRet (xIf (xBin cGt (xVar 1) (xInt 0)) (xCall g_least_lengths (xCons (xVar 0) (xCons (xVar 1) xNil))) (xCall g_free_lengths (xCons (xVar 0) xNil))))
 yNil)
noncomputable def g_law_told : List D → Option D := gOf 2 f_law_told
noncomputable def nm_law_row_right : List Str := ["row", "total", "longest", "used", "many", "near", "limit"]
noncomputable def f_law_row_right : Ex :=
 (ySeq (ySet 3 (xB1 bSort2 (bGen (xComp (iList (xVar 0)) [] [0] (xBin cGt (xVar 0) (xInt 0)) (xVar 0)))))
 (ySeq (ySwp [5, 4] (eSh (xB1 bLen (bGen (xVar 3))) (eSh (xCall g_law_near (xCons (xVar 3) xNil)) eNil)))
 (ySeq (ySet 6 (xIf (xBin cGt (xVar 2) (xInt 0)) (xVar 2) (xBin oSub (xVar 4) (xInt 1))))
 (ySeq (yIf (xNot (xChn cLe cLe (xCall g_law_fewest (xCons (xVar 4) (xCons (xB1 bSum (bGen (xVar 3))) (xCons (xVar 6) xNil)))) (xVar 1) (xVar 5)))
 (ySeq (yRet (xBool false))
 yNil)
 yNil)
 (ySeq (yIf (xBin cGe (xBin oAdd (xSub (bGen (xVar 3)) (xInt 0)) (xSub (bGen (xVar 3)) (xInt 1))) (xSub (bGen (xVar 3)) (xNeg (xInt 1))))
 (ySeq (yRet (xBin cEq (xVar 1) (xVar 5)))
 yNil)
 yNil)
 (ySeq (yRet (xOr (xBin cLt (xVar 1) (xVar 5)) (xOr (xBin cNin (xVar 4) (xList (xCons (xInt 4) (xCons (xInt 8) xNil)))) (xBin cLe (xVar 6) (xCall g_law_same (xCons (xVar 4) xNil))))))
 yNil))))))
noncomputable def g_law_row_right : List D → Option D := gOf 3 f_law_row_right
noncomputable def nm_law_move_right : List Str := ["moved", "pair", "told", "fall", "one", "other", "ahead", "behind", "apart"]
noncomputable def f_law_move_right : Ex :=
 (ySeq (yUnp [4, 5] (xVar 1))
 (ySeq (yUnp [6, 7] (xVar 2))
 (ySeq (ySet 8 (xB1 bAbs (bGen (xBin oSub (xSub (bGen (xVar 6)) (xVar 4)) (xSub (bGen (xVar 6)) (xVar 5))))))
 (ySeq (yIf (xBin cEq (xSub (bGen (xVar 0)) (xVar 4)) (xInt 0))
 (ySeq (yRet (xBin cGe (xVar 3) (xBin oAdd (xVar 8) (xB1 bMin (bGen (xComp (iList (xVar 0)) [] [0] (xBin cGt (xVar 0) (xInt 0)) (xVar 0)))))))
 yNil)
 yNil)
 (ySeq (yRet (xChn cLe cLe (xVar 8) (xVar 3) (xBin oSub (xSub (bGen (xVar 7)) (xVar 4)) (xSub (bGen (xVar 7)) (xVar 5)))))
 yNil)))))
noncomputable def g_law_move_right : List D → Option D := gOf 4 f_law_move_right
noncomputable def nm_law_right : List Str := ["rows", "moves", "other", "longest", "many", "whole", "even", "steep", "every", "lengths", "totals", "turn", "pair", "wide", "second", "most", "fewest"]
noncomputable def f_law_right : Ex :=
 (ySeq (yTup [4, 5] (eSh (xB1 bLen (bGen (xVar 2))) (eSh (xB1 bSum (bGen (xSub (bGen (xVar 0)) (xInt 0)))) eNil)))
 (ySeq (ySet 6 (xComp (iRng (xB1 bRng1 (bGen (xVar 4)))) [(1, 5), (2, 4)] [0] xTrue (xBin oAdd (xBin oDiv (xVar 1) (xVar 2)) (xB1 bInt (bGen (xBin cLt (xVar 0) (xBin oMod (xVar 1) (xVar 2))))))))
 (ySeq (ySet 7 (xBin oAdd (xBin oMul (xList (xCons (xInt 1) xNil)) (xBin oSub (xVar 4) (xInt 1))) (xList (xCons (xBin oAdd (xBin oSub (xVar 5) (xVar 4)) (xInt 1)) xNil))))
 (ySeq (ySet 8 (xBin oAdd (xVar 0) (xList (xCons (xCall g_law_evener (xCons (xSub (bGen (xVar 0)) (xInt 0)) (xCons (xVar 2) xNil))) (xCons (xVar 2) (xCons (xVar 6) (xCons (xVar 7) xNil)))))))
 (ySeq (ySet 9 (xComp (iList (xVar 8)) [(1, 3)] [0] xTrue (xCall g_law_told (xCons (xVar 0) (xCons (xVar 1) xNil)))))
 (ySeq (ySet 10 (xComp (iZip (xCons (xVar 8) (xCons (xVar 9) xNil))) [] [0, 1] xTrue (xCall g_total_bits (xCons (xVar 0) (xCons (xVar 1) xNil)))))
 (ySeq (yIf (xBin cNe (xComp (iZip (xCons (xVar 8) (xCons (xVar 10) xNil))) [(2, 3)] [0, 1] (xNot (xCall g_law_row_right (xCons (xVar 0) (xCons (xVar 1) (xCons (xVar 2) xNil))))) (xVar 0)) (xList xNil))
 (ySeq (yRet (xBool false))
 yNil)
 yNil)
 (ySeq (yFor (iEnum (xVar 1)) [11, 12]
 (ySeq (yIf (xNot (xCall g_law_move_right (xCons (xSub (bGen (xVar 0)) (xBin oAdd (xVar 11) (xInt 1))) (xCons (xVar 12) (xCons (xRun (bGen (xVar 9)) (xVar 11) (xBin oAdd (xVar 11) (xInt 2))) (xCons (xBin oSub (xSub (bGen (xVar 10)) (xVar 11)) (xSub (bGen (xVar 10)) (xBin oAdd (xVar 11) (xInt 1)))) xNil))))))
 (ySeq (yRet (xBool false))
 yNil)
 yNil)
 yNil))
 (ySeq (yUnp [13, 14, 15, 16] (xFrom (bGen (xVar 10)) (xB1 bLen (bGen (xVar 0)))))
 (ySeq (yIf (xBin cNe (xVar 16) (xCall g_law_fewest (xCons (xVar 4) (xCons (xVar 5) (xCons (xIf (xBin cGt (xVar 3) (xInt 0)) (xVar 3) (xBin oSub (xVar 4) (xInt 1))) xNil)))))
 (ySeq (yRet (xBool false))
 yNil)
 yNil)
 (ySeq (yRet (xAnd (xChn cLe cLe (xVar 16) (xSub (bGen (xVar 10)) (xInt 0)) (xVar 15)) (xBin cGe (xVar 13) (xB2 bMax2 (xCons (xSub (bGen (xVar 10)) (xInt 0)) (xCons (xVar 14) xNil))))))
 yNil)))))))))))
noncomputable def g_law_right : List D → Option D := gOf 4 f_law_right
noncomputable def nm_law : List Str := ["script", "box", "many", "counts", "other", "rows", "moves", "longest"]
noncomputable def f_law : Ex :=
 (ySeq (ySetO 1 100 (fCallN g_law_box (xCons (xVar 0) xNil)))
 (ySeq (ySet 2 (xBin oAdd (xInt 3) (xCallB 1 g_law_take (xCons (xIf (xAnd (xBin cLt (xB1 bLen (bGen (xVar 0))) (xInt 2)) (xBin cEq (xSub (bOwn 1) (xInt 0)) (xInt 0))) (xInt 2) (xInt 7)) xNil))))
 (ySeq (ySwp [4, 3] (eSh (xCallB 1 g_law_counts (xCons (xVar 2) xNil)) (eSh (xCallB 1 g_law_counts (xCons (xVar 2) xNil)) eNil)))
 (ySeq (yUnp [5, 6] (xCallB 1 g_law_moves (xCons (xVar 3) xNil)))
 (ySeq (ySet 7 (xBin oAdd (xCall g_law_same (xCons (xVar 2) xNil)) (xCallB 1 g_law_take (xCons (xBin oSub (xVar 2) (xCall g_law_same (xCons (xVar 2) xNil))) xNil))))
 (ySeq (yRet (xAnd (xCall g_law_right (xCons (xVar 5) (xCons (xVar 6) (xCons (xVar 4) (xCons (xVar 7) xNil))))) (xCall g_law_right (xCons (xVar 5) (xCons (xVar 6) (xCons (xVar 4) (xCons (xInt 0) xNil)))))))
 yNil))))))
end Mine
end

section
open PySem PySem.W PyProof.Rows PySem.Calls
set_option autoImplicit false
namespace Mine
section
variable {prog : Program} {w : World} {B : Heap} {mg mb : Str → Option Value} {fr : Fm}
theorem s_used_symbols (f : Fk prog w B mg mb 0 (scOf (stAt 4)) nm_used_symbols [] 1000000 fr)  : SSs prog w fr (bodyOf (stAt 4)) f_used_symbols :=
 (SSs.cons (f.setO (by first | kernel_rfl | decide +kernel) (by first | kernel_rfl | decide +kernel) (SF.list SL.nil (by decide)) (fun _ => rfl))
 ((SSs.cons (f.for_ (f.ienum (by first | kernel_rfl | decide +kernel) (f.var (by first | kernel_rfl | decide +kernel)) (fun _ => rfl)) (TgT.two (TgE.cons (i := 2) (TgE.cons (i := 3) TgE.nil)) rfl) (by first | kernel_rfl | decide +kernel) rfl ((SSs.cons (SS.ite (Fk.tcmp f.lt (f.var (by first | kernel_rfl | decide +kernel)) SE.int rfl) ((SSs.cons SS.stuck
 (SSs.nil))) (SSs.nil))
 ((SSs.cons (SS.ite (Fk.tcmp f.gt (f.var (by first | kernel_rfl | decide +kernel)) SE.int rfl) ((SSs.cons (f.app (by first | kernel_rfl | decide +kernel) (SE.tup (SL.cons (f.var (by first | kernel_rfl | decide +kernel)) (SL.cons (f.var (by first | kernel_rfl | decide +kernel)) SL.nil (fun _ => rfl)) (fun _ => rfl)) (by decide)) (fun _ => rfl) (fun _ => rfl) (fun _ => rfl))
 (SSs.nil))) (SSs.nil))
 (SSs.nil))))) (fun _ _ => rfl))
 ((SSs.cons (SS.ret (f.sorted (by first | kernel_rfl | decide +kernel) (f.own (by first | kernel_rfl | decide +kernel)) (fun _ => rfl)))
 (SSs.nil))))))
theorem cal_used_symbols {f : Addr} {o : Obj} {pm cd doc : Value} (bs : Base B mg mb) (fb : Free mg) (D0 : Def B mg "used_symbols" (argsOf (stAt 4)) (bodyOf (stAt 4)) (scOf (stAt 4)) f o pm cd doc)  : Cal prog w B mg 1 "used_symbols" g_used_symbols :=
 ⟨f, o, _, fnOK (ps := ["counts"]) (locs := ["found", "symbol", "count"]) D0 bs.nolimit (fun vs hv => by rcases vs with _ | ⟨a0, _ | ⟨_, _⟩⟩ <;> first | (simp at hv; done) | rfl) rfl (okp (by first | kernel_rfl | decide +kernel)) (by first | kernel_rfl | decide +kernel) rfl rfl rfl (fun fr d => s_used_symbols (d.fk bs fb (okcs (by first | kernel_rfl | decide +kernel))) ), D0.m, D0.g, D0.d⟩
theorem s_total_bits (f : Fk prog w B mg mb 0 (scOf (stAt 5)) nm_total_bits [] 1000000 fr)  : SSs prog w fr (bodyOf (stAt 5)) f_total_bits :=
 (SSs.cons (f.set (by first | kernel_rfl | decide +kernel) SE.int (fun _ => rfl))
 ((SSs.cons (f.for_ (f.ienum (by first | kernel_rfl | decide +kernel) (f.var (by first | kernel_rfl | decide +kernel)) (fun _ => rfl)) (TgT.two (TgE.cons (i := 3) (TgE.cons (i := 4) TgE.nil)) rfl) (by first | kernel_rfl | decide +kernel) rfl ((SSs.cons (SS.ite (Fk.tcmp f.gt (f.var (by first | kernel_rfl | decide +kernel)) SE.int rfl) ((SSs.cons (SS.ite (ST.or (Fk.tcmp f.ge (f.var (by first | kernel_rfl | decide +kernel)) (f.len (by first | kernel_rfl | decide +kernel) (SR.gen (f.var (by first | kernel_rfl | decide +kernel))) (fun _ => rfl)) rfl) (ST.bone (Fk.tcmp f.eq (SE.sub (SR.gen (f.var (by first | kernel_rfl | decide +kernel))) (f.var (by first | kernel_rfl | decide +kernel)) (fun _ _ => rfl)) SE.int rfl))) ((SSs.cons SS.stuck
 (SSs.nil))) (SSs.nil))
 ((SSs.cons (f.aug (by first | kernel_rfl | decide +kernel) (f.mul (f.var (by first | kernel_rfl | decide +kernel)) (SE.sub (SR.gen (f.var (by first | kernel_rfl | decide +kernel))) (f.var (by first | kernel_rfl | decide +kernel)) (fun _ _ => rfl))))
 (SSs.nil))))) (SSs.nil))
 (SSs.nil))) (fun _ _ => rfl))
 ((SSs.cons (SS.ret (f.var (by first | kernel_rfl | decide +kernel)))
 (SSs.nil))))))
theorem cal_total_bits {f : Addr} {o : Obj} {pm cd doc : Value} (bs : Base B mg mb) (fb : Free mg) (D0 : Def B mg "total_bits" (argsOf (stAt 5)) (bodyOf (stAt 5)) (scOf (stAt 5)) f o pm cd doc)  : Cal prog w B mg 1 "total_bits" g_total_bits :=
 ⟨f, o, _, fnOK (ps := ["counts", "lengths"]) (locs := ["found", "symbol", "count"]) D0 bs.nolimit (fun vs hv => by rcases vs with _ | ⟨a0, _ | ⟨a1, _ | ⟨_, _⟩⟩⟩ <;> first | (simp at hv; done) | rfl) rfl (okp (by first | kernel_rfl | decide +kernel)) (by first | kernel_rfl | decide +kernel) rfl rfl rfl (fun fr d => s_total_bits (d.fk bs fb (okcs (by first | kernel_rfl | decide +kernel))) ), D0.m, D0.g, D0.d⟩
theorem s_placed (f : Fk prog w B mg mb 0 (scOf (stAt 6)) nm_placed [] 1000000 fr)  : SSs prog w fr (bodyOf (stAt 6)) f_placed :=
 (SSs.cons (f.setO (by first | kernel_rfl | decide +kernel) (by first | kernel_rfl | decide +kernel) (SF.mul (SF.list (SL.cons SE.int SL.nil (fun _ => rfl)) (by decide)) (f.var (by first | kernel_rfl | decide +kernel))) (fun _ => rfl))
 ((SSs.cons (f.for_ (f.ienum (by first | kernel_rfl | decide +kernel) (f.var (by first | kernel_rfl | decide +kernel)) (fun _ => rfl)) (TgT.two (TgE.cons (i := 4) (TgE.cons (i := 5) TgE.nil)) rfl) (by first | kernel_rfl | decide +kernel) rfl ((SSs.cons (f.at_ (by first | kernel_rfl | decide +kernel) (f.var (by first | kernel_rfl | decide +kernel)) (SE.sub (SR.gen (SE.sub (SR.gen (f.var (by first | kernel_rfl | decide +kernel))) (f.var (by first | kernel_rfl | decide +kernel)) (fun _ _ => rfl))) SE.int (fun _ _ => rfl)) (fun _ => rfl))
 (SSs.nil))) (fun _ _ => rfl))
 ((SSs.cons (SS.ret (f.mov (by first | kernel_rfl | decide +kernel)))
 (SSs.nil))))))
theorem cal_placed {f : Addr} {o : Obj} {pm cd doc : Value} (bs : Base B mg mb) (fb : Free mg) (D0 : Def B mg "placed" (argsOf (stAt 6)) (bodyOf (stAt 6)) (scOf (stAt 6)) f o pm cd doc)  : Cal prog w B mg 1 "placed" g_placed :=
 ⟨f, o, _, fnOK (ps := ["size", "rows", "depths"]) (locs := ["found", "place", "depth"]) D0 bs.nolimit (fun vs hv => by rcases vs with _ | ⟨a0, _ | ⟨a1, _ | ⟨a2, _ | ⟨_, _⟩⟩⟩⟩ <;> first | (simp at hv; done) | rfl) rfl (okp (by first | kernel_rfl | decide +kernel)) (by first | kernel_rfl | decide +kernel) rfl rfl rfl (fun fr d => s_placed (d.fk bs fb (okcs (by first | kernel_rfl | decide +kernel))) ), D0.m, D0.g, D0.d⟩
theorem s_tree_depths (f : Fk prog w B mg mb 0 (scOf (stAt 7)) nm_tree_depths [] 1000000 fr)  : SSs prog w fr (bodyOf (stAt 7)) f_tree_depths :=
 (SSs.cons (f.set (by first | kernel_rfl | decide +kernel) (f.len (by first | kernel_rfl | decide +kernel) (SR.gen (f.var (by first | kernel_rfl | decide +kernel))) (fun _ => rfl)) (fun _ => rfl))
 ((SSs.cons (f.setO (by first | kernel_rfl | decide +kernel) (by first | kernel_rfl | decide +kernel) (f.copy (by first | kernel_rfl | decide +kernel) (SR.gen (f.var (by first | kernel_rfl | decide +kernel))) (fun _ => rfl)) (fun _ => rfl))
 ((SSs.cons (f.setO (by first | kernel_rfl | decide +kernel) (by first | kernel_rfl | decide +kernel) (SF.mul (SF.list (SL.cons SE.int SL.nil (fun _ => rfl)) (by decide)) (f.sub (f.mul SE.int (f.var (by first | kernel_rfl | decide +kernel))) SE.int)) (fun _ => rfl))
 ((SSs.cons (f.swp (tg := [(3, "leaf"), (4, "joined")]) (by first | kernel_rfl | decide +kernel) rfl (SX.sh SE.int (SX.sh (f.var (by first | kernel_rfl | decide +kernel)) SX.nil (fun _ => rfl)) (fun _ => rfl)) rfl (by decide) (Sl.sh (Sl.sh Sl.nil)) (by decide) (fun _ => rfl) (by rfl))
 ((SSs.cons (f.for_ (SI.rng f.ok (f.rng2 (by first | kernel_rfl | decide +kernel) (SL.cons (f.var (by first | kernel_rfl | decide +kernel)) (SL.cons (f.sub (f.mul SE.int (f.var (by first | kernel_rfl | decide +kernel))) SE.int) SL.nil (fun _ => rfl)) (fun _ => rfl)) (fun _ => rfl))) (TgT.one (i := 5)) (by first | kernel_rfl | decide +kernel) rfl ((SSs.cons (f.set (by first | kernel_rfl | decide +kernel) SE.int (fun _ => rfl))
 ((SSs.cons (f.for_ (SI.rng f.ok (f.rng1 (by first | kernel_rfl | decide +kernel) (SR.gen SE.int) (fun _ => rfl))) (TgT.one (i := 7)) (by first | kernel_rfl | decide +kernel) rfl ((SSs.cons (SS.ite (ST.and (Fk.tcmp f.lt (f.var (by first | kernel_rfl | decide +kernel)) (f.var (by first | kernel_rfl | decide +kernel)) rfl) (ST.bone (ST.or (Fk.tcmp f.ge (f.var (by first | kernel_rfl | decide +kernel)) (f.var (by first | kernel_rfl | decide +kernel)) rfl) (ST.bone (Fk.tcmp f.le (SE.sub (f.own (by first | kernel_rfl | decide +kernel)) (f.var (by first | kernel_rfl | decide +kernel)) (fun _ _ => rfl)) (SE.sub (f.own (by first | kernel_rfl | decide +kernel)) (f.var (by first | kernel_rfl | decide +kernel)) (fun _ _ => rfl)) rfl))))) ((SSs.cons (f.swp (tg := [(8, "taken"), (3, "leaf")]) (by first | kernel_rfl | decide +kernel) rfl (SX.sh (f.var (by first | kernel_rfl | decide +kernel)) (SX.sh (f.add (f.var (by first | kernel_rfl | decide +kernel)) SE.int) SX.nil (fun _ => rfl)) (fun _ => rfl)) rfl (by decide) (Sl.sh (Sl.sh Sl.nil)) (by decide) (fun _ => rfl) (by rfl))
 (SSs.nil))) ((SSs.cons (f.swp (tg := [(8, "taken"), (4, "joined")]) (by first | kernel_rfl | decide +kernel) rfl (SX.sh (f.var (by first | kernel_rfl | decide +kernel)) (SX.sh (f.add (f.var (by first | kernel_rfl | decide +kernel)) SE.int) SX.nil (fun _ => rfl)) (fun _ => rfl)) rfl (by decide) (Sl.sh (Sl.sh Sl.nil)) (by decide) (fun _ => rfl) (by rfl))
 (SSs.nil))))
 ((SSs.cons (f.at_ (by first | kernel_rfl | decide +kernel) (f.var (by first | kernel_rfl | decide +kernel)) (f.var (by first | kernel_rfl | decide +kernel)) (fun _ => rfl))
 ((SSs.cons (f.aug (by first | kernel_rfl | decide +kernel) (SE.sub (f.own (by first | kernel_rfl | decide +kernel)) (f.var (by first | kernel_rfl | decide +kernel)) (fun _ _ => rfl)))
 (SSs.nil))))))) (fun _ _ => rfl))
 ((SSs.cons (f.app (by first | kernel_rfl | decide +kernel) (f.var (by first | kernel_rfl | decide +kernel)) (fun _ => rfl) (fun _ => rfl) (fun _ => rfl))
 (SSs.nil))))))) (fun _ _ => rfl))
 ((SSs.cons (f.setO (by first | kernel_rfl | decide +kernel) (by first | kernel_rfl | decide +kernel) (SF.mul (SF.list (SL.cons SE.int SL.nil (fun _ => rfl)) (by decide)) (f.sub (f.mul SE.int (f.var (by first | kernel_rfl | decide +kernel))) SE.int)) (fun _ => rfl))
 ((SSs.cons (f.for_ (SI.rng f.ok (f.rng3 (by first | kernel_rfl | decide +kernel) (SL.cons (f.sub (f.mul SE.int (f.var (by first | kernel_rfl | decide +kernel))) SE.int) (SL.cons (SE.neg SE.int) (SL.cons (SE.neg SE.int) SL.nil (fun _ => rfl)) (fun _ => rfl)) (fun _ => rfl)) (fun _ => rfl) (fun _ _ => rfl))) (TgT.one (i := 10)) (by first | kernel_rfl | decide +kernel) rfl ((SSs.cons (f.at_ (by first | kernel_rfl | decide +kernel) (f.add (SE.sub (f.own (by first | kernel_rfl | decide +kernel)) (SE.sub (f.own (by first | kernel_rfl | decide +kernel)) (f.var (by first | kernel_rfl | decide +kernel)) (fun _ _ => rfl)) (fun _ _ => rfl)) SE.int) (f.var (by first | kernel_rfl | decide +kernel)) (fun _ => rfl))
 (SSs.nil))) (fun _ _ => rfl))
 ((SSs.cons (SS.ret (SE.upto (f.own (by first | kernel_rfl | decide +kernel)) (f.var (by first | kernel_rfl | decide +kernel))))
 (SSs.nil))))))))))))))))
theorem cal_tree_depths {f : Addr} {o : Obj} {pm cd doc : Value} (bs : Base B mg mb) (fb : Free mg) (D0 : Def B mg "tree_depths" (argsOf (stAt 7)) (bodyOf (stAt 7)) (scOf (stAt 7)) f o pm cd doc)  : Cal prog w B mg 1 "tree_depths" g_tree_depths :=
 ⟨f, o, _, fnOK (ps := ["weights"]) (locs := ["many", "parents", "leaf", "joined", "made", "both", "side", "taken", "depths", "place"]) D0 bs.nolimit (fun vs hv => by rcases vs with _ | ⟨a0, _ | ⟨_, _⟩⟩ <;> first | (simp at hv; done) | rfl) rfl (okp (by first | kernel_rfl | decide +kernel)) (by first | kernel_rfl | decide +kernel) rfl rfl rfl (fun fr d => s_tree_depths (d.fk bs fb (okcs (by first | kernel_rfl | decide +kernel))) ), D0.m, D0.g, D0.d⟩
theorem s_free_lengths (f : Fk prog w B mg mb 1 (scOf (stAt 8)) nm_free_lengths [] 1000000 fr) (c_used_symbols : Cal prog w B mg 1 "used_symbols" g_used_symbols) (c_placed : Cal prog w B mg 1 "placed" g_placed) (c_tree_depths : Cal prog w B mg 1 "tree_depths" g_tree_depths) : SSs prog w fr (bodyOf (stAt 8)) f_free_lengths :=
 (SSs.cons (f.set (by first | kernel_rfl | decide +kernel) (f.call c_used_symbols (by decide) (by first | kernel_rfl | decide +kernel) (SL.cons (f.var (by first | kernel_rfl | decide +kernel)) SL.nil (fun _ => rfl)) (fun _ => rfl)) (fun _ => rfl))
 ((SSs.cons (SS.ite (Fk.tcmp f.lt (f.len (by first | kernel_rfl | decide +kernel) (SR.gen (f.var (by first | kernel_rfl | decide +kernel))) (fun _ => rfl)) SE.int rfl) ((SSs.cons (SS.ret (f.call c_placed (by decide) (by first | kernel_rfl | decide +kernel) (SL.cons (f.len (by first | kernel_rfl | decide +kernel) (SR.gen (f.var (by first | kernel_rfl | decide +kernel))) (fun _ => rfl)) (SL.cons (f.var (by first | kernel_rfl | decide +kernel)) (SL.cons (f.mul (SE.list (SL.cons SE.int SL.nil (fun _ => rfl)) (by decide)) (f.len (by first | kernel_rfl | decide +kernel) (SR.gen (f.var (by first | kernel_rfl | decide +kernel))) (fun _ => rfl))) SL.nil (fun _ => rfl)) (fun _ => rfl)) (fun _ => rfl)) (fun _ => rfl)))
 (SSs.nil))) (SSs.nil))
 ((SSs.cons (SS.ret (f.call c_placed (by decide) (by first | kernel_rfl | decide +kernel) (SL.cons (f.len (by first | kernel_rfl | decide +kernel) (SR.gen (f.var (by first | kernel_rfl | decide +kernel))) (fun _ => rfl)) (SL.cons (f.var (by first | kernel_rfl | decide +kernel)) (SL.cons (f.call c_tree_depths (by decide) (by first | kernel_rfl | decide +kernel) (SL.cons (f.comp (names' := ["count", "symbol"]) (fm := []) (by first | kernel_rfl | decide +kernel) (SI.pairs f.ok (f.var (by first | kernel_rfl | decide +kernel))) (TgT.two (TgE.cons (i := 0) (TgE.cons (i := 1) TgE.nil)) rfl) (by first | kernel_rfl | decide +kernel) rfl (fun _ f' => SCt.nil) (fun _ f' => (f'.var (by first | kernel_rfl | decide +kernel))) (fun _ _ => rfl)) SL.nil (fun _ => rfl)) (fun _ => rfl)) SL.nil (fun _ => rfl)) (fun _ => rfl)) (fun _ => rfl)) (fun _ => rfl)))
 (SSs.nil))))))
theorem cal_free_lengths {f : Addr} {o : Obj} {pm cd doc : Value} (bs : Base B mg mb) (fb : Free mg) (D0 : Def B mg "free_lengths" (argsOf (stAt 8)) (bodyOf (stAt 8)) (scOf (stAt 8)) f o pm cd doc) (c_used_symbols : Cal prog w B mg 1 "used_symbols" g_used_symbols) (c_placed : Cal prog w B mg 1 "placed" g_placed) (c_tree_depths : Cal prog w B mg 1 "tree_depths" g_tree_depths) : Cal prog w B mg 2 "free_lengths" g_free_lengths :=
 ⟨f, o, _, fnOK (ps := ["counts"]) (locs := ["rows"]) D0 bs.nolimit (fun vs hv => by rcases vs with _ | ⟨a0, _ | ⟨_, _⟩⟩ <;> first | (simp at hv; done) | rfl) rfl (okp (by first | kernel_rfl | decide +kernel)) (by first | kernel_rfl | decide +kernel) rfl rfl rfl (fun fr d => s_free_lengths (d.fk bs fb (okcs (by first | kernel_rfl | decide +kernel))) c_used_symbols c_placed c_tree_depths), D0.m, D0.g, D0.d⟩
theorem s_check_room (f : Fk prog w B mg mb 0 (scOf (stAt 9)) nm_check_room [] 1000000 fr)  : SSs prog w fr (bodyOf (stAt 9)) f_check_room :=
 (SSs.cons (SS.ite (ST.or (ST.and (Fk.tcmp f.gt (f.var (by first | kernel_rfl | decide +kernel)) SE.int rfl) (ST.bone (Fk.tcmp f.lt (f.var (by first | kernel_rfl | decide +kernel)) SE.int rfl))) (ST.bone (Fk.tcmp f.gt (f.var (by first | kernel_rfl | decide +kernel)) (f.shl SE.int (f.max2 (by first | kernel_rfl | decide +kernel) (SL.cons SE.int (SL.cons (f.var (by first | kernel_rfl | decide +kernel)) SL.nil (fun _ => rfl)) (fun _ => rfl)) (fun _ => rfl))) rfl))) ((SSs.cons SS.stuck
 (SSs.nil))) (SSs.nil))
 (SSs.nil))
theorem cal_check_room {f : Addr} {o : Obj} {pm cd doc : Value} (bs : Base B mg mb) (fb : Free mg) (D0 : Def B mg "check_room" (argsOf (stAt 9)) (bodyOf (stAt 9)) (scOf (stAt 9)) f o pm cd doc)  : Cal prog w B mg 1 "check_room" g_check_room :=
 ⟨f, o, _, fnOK (ps := ["many", "longest"]) (locs := []) D0 bs.nolimit (fun vs hv => by rcases vs with _ | ⟨a0, _ | ⟨a1, _ | ⟨_, _⟩⟩⟩ <;> first | (simp at hv; done) | rfl) rfl (okp (by first | kernel_rfl | decide +kernel)) (by first | kernel_rfl | decide +kernel) rfl rfl rfl (fun fr d => s_check_room (d.fk bs fb (okcs (by first | kernel_rfl | decide +kernel))) ), D0.m, D0.g, D0.d⟩
theorem s_merged (f : Fk prog w B mg mb 0 (scOf (stAt 10)) nm_merged [] 1000000 fr)  : SSs prog w fr (bodyOf (stAt 10)) f_merged :=
 (SSs.cons (f.tup (TgE.cons (i := 2) (TgE.cons (i := 3) (TgE.cons (i := 4) (TgE.cons (i := 5) TgE.nil)))) (by first | kernel_rfl | decide +kernel) rfl (f.ow (by first | kernel_rfl | decide +kernel) (SF.list SL.nil (by decide)) (f.ow (by first | kernel_rfl | decide +kernel) (SF.list SL.nil (by decide)) (SX.sh SE.int (SX.sh SE.int SX.nil (fun _ => rfl)) (fun _ => rfl)) (fun _ => rfl)) (fun _ => rfl)) rfl (by decide) (Sl.ow (Sl.ow (Sl.sh (Sl.sh Sl.nil)))) (by decide) (fun _ => rfl) (by rfl))
 ((SSs.cons (SS.while (ST.or (Fk.tcmp f.lt (f.var (by first | kernel_rfl | decide +kernel)) (f.len (by first | kernel_rfl | decide +kernel) (SR.gen (f.var (by first | kernel_rfl | decide +kernel))) (fun _ => rfl)) rfl) (ST.bone (Fk.tcmp f.lt (f.var (by first | kernel_rfl | decide +kernel)) (f.len (by first | kernel_rfl | decide +kernel) (SR.gen (f.var (by first | kernel_rfl | decide +kernel))) (fun _ => rfl)) rfl))) ((SSs.cons (f.set (by first | kernel_rfl | decide +kernel) (SE.or (Fk.cmp f.eq (f.var (by first | kernel_rfl | decide +kernel)) (f.len (by first | kernel_rfl | decide +kernel) (SR.gen (f.var (by first | kernel_rfl | decide +kernel))) (fun _ => rfl)) rfl) (SE.bone (SE.and (Fk.cmp f.lt (f.var (by first | kernel_rfl | decide +kernel)) (f.len (by first | kernel_rfl | decide +kernel) (SR.gen (f.var (by first | kernel_rfl | decide +kernel))) (fun _ => rfl)) rfl) (SE.bone (Fk.cmp f.le (SE.sub (SR.gen (f.var (by first | kernel_rfl | decide +kernel))) (f.var (by first | kernel_rfl | decide +kernel)) (fun _ _ => rfl)) (SE.sub (SR.gen (f.var (by first | kernel_rfl | decide +kernel))) (f.var (by first | kernel_rfl | decide +kernel)) (fun _ _ => rfl)) rfl))))) (fun _ => rfl))
 ((SSs.cons (f.app (by first | kernel_rfl | decide +kernel) (f.var (by first | kernel_rfl | decide +kernel)) (fun _ => rfl) (fun _ => rfl) (fun _ => rfl))
 ((SSs.cons (SS.ite (ST.plain (f.var (by first | kernel_rfl | decide +kernel)) (fun _ => rfl)) ((SSs.cons (f.app (by first | kernel_rfl | decide +kernel) (SE.sub (SR.gen (f.var (by first | kernel_rfl | decide +kernel))) (f.var (by first | kernel_rfl | decide +kernel)) (fun _ _ => rfl)) (fun _ => rfl) (fun _ => rfl) (fun _ => rfl))
 ((SSs.cons (f.aug (by first | kernel_rfl | decide +kernel) SE.int)
 (SSs.nil))))) ((SSs.cons (f.app (by first | kernel_rfl | decide +kernel) (SE.sub (SR.gen (f.var (by first | kernel_rfl | decide +kernel))) (f.var (by first | kernel_rfl | decide +kernel)) (fun _ _ => rfl)) (fun _ => rfl) (fun _ => rfl) (fun _ => rfl))
 ((SSs.cons (f.aug (by first | kernel_rfl | decide +kernel) SE.int)
 (SSs.nil))))))
 (SSs.nil))))))))
 ((SSs.cons (SS.ret (SE.tup (SL.cons (f.mov (by first | kernel_rfl | decide +kernel)) (SL.cons (f.mov (by first | kernel_rfl | decide +kernel)) SL.nil (fun _ => rfl)) (fun _ => rfl)) (by decide)))
 (SSs.nil))))))
theorem cal_merged {f : Addr} {o : Obj} {pm cd doc : Value} (bs : Base B mg mb) (fb : Free mg) (D0 : Def B mg "merged" (argsOf (stAt 10)) (bodyOf (stAt 10)) (scOf (stAt 10)) f o pm cd doc)  : Cal prog w B mg 1 "merged" g_merged :=
 ⟨f, o, _, fnOK (ps := ["weights", "pairs"]) (locs := ["row", "leaves", "leaf", "pair", "is_leaf"]) D0 bs.nolimit (fun vs hv => by rcases vs with _ | ⟨a0, _ | ⟨a1, _ | ⟨_, _⟩⟩⟩ <;> first | (simp at hv; done) | rfl) rfl (okp (by first | kernel_rfl | decide +kernel)) (by first | kernel_rfl | decide +kernel) rfl rfl rfl (fun fr d => s_merged (d.fk bs fb (okcs (by first | kernel_rfl | decide +kernel))) ), D0.m, D0.g, D0.d⟩
theorem s_package_depths (f : Fk prog w B mg mb 1 (scOf (stAt 11)) nm_package_depths ["row"] 1000000 fr) (c_merged : Cal prog w B mg 1 "merged" g_merged) : SSs prog w fr (bodyOf (stAt 11)) f_package_depths :=
 (SSs.cons (f.tup (TgE.cons (i := 2) (TgE.cons (i := 3) TgE.nil)) (by first | kernel_rfl | decide +kernel) rfl (f.ow (by first | kernel_rfl | decide +kernel) (SF.list SL.nil (by decide)) (SX.sh (SE.list SL.nil (by decide)) SX.nil (fun _ => rfl)) (fun _ => rfl)) rfl (by decide) (Sl.ow (Sl.sh Sl.nil)) (by decide) (fun _ => rfl) (by rfl))
 ((SSs.cons (f.for_ (SI.rng f.ok (f.rng1 (by first | kernel_rfl | decide +kernel) (SR.gen (f.var (by first | kernel_rfl | decide +kernel))) (fun _ => rfl))) (TgT.one (i := 4)) (by first | kernel_rfl | decide +kernel) rfl ((SSs.cons (f.scomp (names' := ["place", "row"]) (fm := [(1, 3)]) (by first | kernel_rfl | decide +kernel) (by first | kernel_rfl | decide +kernel) (SI.rng f.ok (f.rng3 (by first | kernel_rfl | decide +kernel) (SL.cons SE.int (SL.cons (f.sub (f.len (by first | kernel_rfl | decide +kernel) (SR.gen (f.var (by first | kernel_rfl | decide +kernel))) (fun _ => rfl)) SE.int) (SL.cons SE.int SL.nil (fun _ => rfl)) (fun _ => rfl)) (fun _ => rfl)) (fun _ => rfl) (fun _ _ => rfl))) (TgT.one (i := 0)) (by first | kernel_rfl | decide +kernel) rfl (fun _ f' => SCt.nil) (fun _ f' => (f'.add (SE.sub (SR.gen (f'.var (by first | kernel_rfl | decide +kernel))) (f'.var (by first | kernel_rfl | decide +kernel)) (fun _ _ => rfl)) (SE.sub (SR.gen (f'.var (by first | kernel_rfl | decide +kernel))) (f'.add (f'.var (by first | kernel_rfl | decide +kernel)) SE.int) (fun _ _ => rfl)))) (fun _ _ => rfl) (by rfl))
 ((SSs.cons (f.unp (TgE.cons (i := 3) (TgE.cons (i := 6) TgE.nil)) (by first | kernel_rfl | decide +kernel) rfl (f.call c_merged (by decide) (by first | kernel_rfl | decide +kernel) (SL.cons (f.var (by first | kernel_rfl | decide +kernel)) (SL.cons (f.var (by first | kernel_rfl | decide +kernel)) SL.nil (fun _ => rfl)) (fun _ => rfl)) (fun _ => rfl)) (fun _ => rfl) (fun _ => rfl))
 ((SSs.cons (f.app (by first | kernel_rfl | decide +kernel) (f.var (by first | kernel_rfl | decide +kernel)) (fun _ => rfl) (fun _ => rfl) (fun _ => rfl))
 (SSs.nil))))))) (fun _ _ => rfl))
 ((SSs.cons (f.swp (tg := [(7, "depths"), (8, "wanted")]) (by first | kernel_rfl | decide +kernel) rfl (f.ow (by first | kernel_rfl | decide +kernel) (SF.mul (SF.list (SL.cons SE.int SL.nil (fun _ => rfl)) (by decide)) (f.len (by first | kernel_rfl | decide +kernel) (SR.gen (f.var (by first | kernel_rfl | decide +kernel))) (fun _ => rfl))) (SX.sh (f.sub (f.mul SE.int (f.len (by first | kernel_rfl | decide +kernel) (SR.gen (f.var (by first | kernel_rfl | decide +kernel))) (fun _ => rfl))) SE.int) SX.nil (fun _ => rfl)) (fun _ => rfl)) rfl (by decide) (Sl.ow (Sl.sh Sl.nil)) (by decide) (fun _ => rfl) (by rfl))
 ((SSs.cons (f.for_ (f.irev (by first | kernel_rfl | decide +kernel) (f.mov (by first | kernel_rfl | decide +kernel)) (fun _ => rfl)) (TgT.one (i := 6)) (by first | kernel_rfl | decide +kernel) rfl ((SSs.cons (f.set (by first | kernel_rfl | decide +kernel) SE.int (fun _ => rfl))
 ((SSs.cons (f.for_ (SI.list f.ok (SE.upto (SR.gen (f.var (by first | kernel_rfl | decide +kernel))) (f.var (by first | kernel_rfl | decide +kernel)))) (TgT.one (i := 10)) (by first | kernel_rfl | decide +kernel) rfl ((SSs.cons (f.aug (by first | kernel_rfl | decide +kernel) (f.int (by first | kernel_rfl | decide +kernel) (SR.gen (f.var (by first | kernel_rfl | decide +kernel))) (fun _ => rfl)))
 (SSs.nil))) (fun _ _ => rfl))
 ((SSs.cons (f.for_ (SI.rng f.ok (f.rng1 (by first | kernel_rfl | decide +kernel) (SR.gen (f.var (by first | kernel_rfl | decide +kernel))) (fun _ => rfl))) (TgT.one (i := 11)) (by first | kernel_rfl | decide +kernel) rfl ((SSs.cons (f.augAt (by first | kernel_rfl | decide +kernel) (f.var (by first | kernel_rfl | decide +kernel)) SE.int (fun _ _ _ => rfl))
 (SSs.nil))) (fun _ _ => rfl))
 ((SSs.cons (f.set (by first | kernel_rfl | decide +kernel) (f.mul SE.int (f.sub (f.var (by first | kernel_rfl | decide +kernel)) (f.var (by first | kernel_rfl | decide +kernel)))) (fun _ => rfl))
 (SSs.nil))))))))) (fun _ _ => rfl))
 ((SSs.cons (SS.ret (f.mov (by first | kernel_rfl | decide +kernel)))
 (SSs.nil))))))))))
theorem cal_package_depths {f : Addr} {o : Obj} {pm cd doc : Value} (bs : Base B mg mb) (fb : Free mg) (D0 : Def B mg "package_depths" (argsOf (stAt 11)) (bodyOf (stAt 11)) (scOf (stAt 11)) f o pm cd doc) (c_merged : Cal prog w B mg 1 "merged" g_merged) : Cal prog w B mg 2 "package_depths" g_package_depths :=
 ⟨f, o, _, fnOK (ps := ["weights", "longest"]) (locs := ["rows", "row", "lap", "pairs", "leaves", "depths", "wanted", "taken", "is_leaf", "place"]) D0 bs.nolimit (fun vs hv => by rcases vs with _ | ⟨a0, _ | ⟨a1, _ | ⟨_, _⟩⟩⟩ <;> first | (simp at hv; done) | rfl) rfl (okp (by first | kernel_rfl | decide +kernel)) (by first | kernel_rfl | decide +kernel) rfl rfl rfl (fun fr d => s_package_depths (d.fk bs fb (okcs (by first | kernel_rfl | decide +kernel))) c_merged), D0.m, D0.g, D0.d⟩
theorem s_least_lengths (f : Fk prog w B mg mb 2 (scOf (stAt 12)) nm_least_lengths [] 1000000 fr) (c_used_symbols : Cal prog w B mg 1 "used_symbols" g_used_symbols) (c_check_room : Cal prog w B mg 1 "check_room" g_check_room) (c_placed : Cal prog w B mg 1 "placed" g_placed) (c_package_depths : Cal prog w B mg 2 "package_depths" g_package_depths) : SSs prog w fr (bodyOf (stAt 12)) f_least_lengths :=
 (SSs.cons (f.set (by first | kernel_rfl | decide +kernel) (f.call c_used_symbols (by decide) (by first | kernel_rfl | decide +kernel) (SL.cons (f.var (by first | kernel_rfl | decide +kernel)) SL.nil (fun _ => rfl)) (fun _ => rfl)) (fun _ => rfl))
 ((SSs.cons (f.expr (f.call c_check_room (by decide) (by first | kernel_rfl | decide +kernel) (SL.cons (f.len (by first | kernel_rfl | decide +kernel) (SR.gen (f.var (by first | kernel_rfl | decide +kernel))) (fun _ => rfl)) (SL.cons (f.var (by first | kernel_rfl | decide +kernel)) SL.nil (fun _ => rfl)) (fun _ => rfl)) (fun _ => rfl)) (fun _ => rfl))
 ((SSs.cons (SS.ite (Fk.tcmp f.lt (f.len (by first | kernel_rfl | decide +kernel) (SR.gen (f.var (by first | kernel_rfl | decide +kernel))) (fun _ => rfl)) SE.int rfl) ((SSs.cons (SS.ret (f.call c_placed (by decide) (by first | kernel_rfl | decide +kernel) (SL.cons (f.len (by first | kernel_rfl | decide +kernel) (SR.gen (f.var (by first | kernel_rfl | decide +kernel))) (fun _ => rfl)) (SL.cons (f.var (by first | kernel_rfl | decide +kernel)) (SL.cons (f.mul (SE.list (SL.cons SE.int SL.nil (fun _ => rfl)) (by decide)) (f.len (by first | kernel_rfl | decide +kernel) (SR.gen (f.var (by first | kernel_rfl | decide +kernel))) (fun _ => rfl))) SL.nil (fun _ => rfl)) (fun _ => rfl)) (fun _ => rfl)) (fun _ => rfl)))
 (SSs.nil))) (SSs.nil))
 ((SSs.cons (SS.ret (f.call c_placed (by decide) (by first | kernel_rfl | decide +kernel) (SL.cons (f.len (by first | kernel_rfl | decide +kernel) (SR.gen (f.var (by first | kernel_rfl | decide +kernel))) (fun _ => rfl)) (SL.cons (f.var (by first | kernel_rfl | decide +kernel)) (SL.cons (f.call c_package_depths (by decide) (by first | kernel_rfl | decide +kernel) (SL.cons (f.comp (names' := ["count", "symbol"]) (fm := []) (by first | kernel_rfl | decide +kernel) (SI.pairs f.ok (f.var (by first | kernel_rfl | decide +kernel))) (TgT.two (TgE.cons (i := 0) (TgE.cons (i := 1) TgE.nil)) rfl) (by first | kernel_rfl | decide +kernel) rfl (fun _ f' => SCt.nil) (fun _ f' => (f'.var (by first | kernel_rfl | decide +kernel))) (fun _ _ => rfl)) (SL.cons (f.var (by first | kernel_rfl | decide +kernel)) SL.nil (fun _ => rfl)) (fun _ => rfl)) (fun _ => rfl)) SL.nil (fun _ => rfl)) (fun _ => rfl)) (fun _ => rfl)) (fun _ => rfl)))
 (SSs.nil))))))))
theorem cal_least_lengths {f : Addr} {o : Obj} {pm cd doc : Value} (bs : Base B mg mb) (fb : Free mg) (D0 : Def B mg "least_lengths" (argsOf (stAt 12)) (bodyOf (stAt 12)) (scOf (stAt 12)) f o pm cd doc) (c_used_symbols : Cal prog w B mg 1 "used_symbols" g_used_symbols) (c_check_room : Cal prog w B mg 1 "check_room" g_check_room) (c_placed : Cal prog w B mg 1 "placed" g_placed) (c_package_depths : Cal prog w B mg 2 "package_depths" g_package_depths) : Cal prog w B mg 3 "least_lengths" g_least_lengths :=
 ⟨f, o, _, fnOK (ps := ["counts", "longest"]) (locs := ["rows"]) D0 bs.nolimit (fun vs hv => by rcases vs with _ | ⟨a0, _ | ⟨a1, _ | ⟨_, _⟩⟩⟩ <;> first | (simp at hv; done) | rfl) rfl (okp (by first | kernel_rfl | decide +kernel)) (by first | kernel_rfl | decide +kernel) rfl rfl rfl (fun fr d => s_least_lengths (d.fk bs fb (okcs (by first | kernel_rfl | decide +kernel))) c_used_symbols c_check_room c_placed c_package_depths), D0.m, D0.g, D0.d⟩
theorem s_law_box (f : Fk prog w B mg mb 0 (scOf (stAt 14)) nm_law_box [] 1000000 fr)  : SSN prog w fr (bodyOf (stAt 14)) f_law_box :=
 SSN.cons (f.tup (TgE.cons (i := 1) (TgE.cons (i := 2) TgE.nil)) (by first | kernel_rfl | decide +kernel) rfl (SX.sh SE.int (SX.sh SE.int SX.nil (fun _ => rfl)) (fun _ => rfl)) rfl (by decide) (Sl.sh (Sl.sh Sl.nil)) (by decide) (fun _ => rfl) (by rfl))
 (SSN.cons (f.for_ (SI.list f.ok (SE.upto (SR.gen (f.var (by first | kernel_rfl | decide +kernel))) SE.int)) (TgT.one (i := 3)) (by first | kernel_rfl | decide +kernel) rfl ((SSs.cons (SS.ite (Fk.tcmp f.ge (f.var (by first | kernel_rfl | decide +kernel)) (f.pow SE.int SE.int) rfl) ((SSs.cons (f.set (by first | kernel_rfl | decide +kernel) (f.sub (f.add (f.var (by first | kernel_rfl | decide +kernel)) (f.var (by first | kernel_rfl | decide +kernel))) (f.pow SE.int SE.int)) (fun _ => rfl))
 (SSs.nil))) ((SSs.cons (f.set (by first | kernel_rfl | decide +kernel) (f.add SE.int (f.mod (f.add (f.mul (f.var (by first | kernel_rfl | decide +kernel)) SE.int) (f.var (by first | kernel_rfl | decide +kernel))) SE.int)) (fun _ => rfl))
 (SSs.nil))))
 (SSs.nil))) (fun _ _ => rfl))
 (SSN.ret (SF.list (SL.cons (f.var (by first | kernel_rfl | decide +kernel)) (SL.cons (f.var (by first | kernel_rfl | decide +kernel)) SL.nil (fun _ => rfl)) (fun _ => rfl)) (by decide))))
theorem cal_law_box {f : Addr} {o : Obj} {pm cd doc : Value} (bs : Base B mg mb) (fb : Free mg) (D0 : Def B mg "_law_box" (argsOf (stAt 14)) (bodyOf (stAt 14)) (scOf (stAt 14)) f o pm cd doc)  : CalN prog w B mg 1 "_law_box" g_law_box :=
 ⟨f, o, _, fnNew (ps := ["script"]) (locs := ["digits", "state", "cell"]) D0 bs.nolimit (fun vs hv => by rcases vs with _ | ⟨a0, _ | ⟨_, _⟩⟩ <;> first | (simp at hv; done) | rfl) rfl (okp (by first | kernel_rfl | decide +kernel)) (by first | kernel_rfl | decide +kernel) rfl rfl rfl (fun fr d => s_law_box (d.fk bs fb (okcs (by first | kernel_rfl | decide +kernel))) ), D0.m, D0.g, D0.d⟩
theorem s_law_take (f : Fk prog w B mg mb 0 (scOf (stAt 15)) nm_law_take [] 0 fr)  : SSs prog w fr (bodyOf (stAt 15)) f_law_take :=
 (SSs.cons (SS.ite (Fk.tcmp f.gt (SE.sub (f.own (by first | kernel_rfl | decide +kernel)) SE.int (fun _ _ => rfl)) SE.int rfl) ((SSs.cons (f.set (by first | kernel_rfl | decide +kernel) (f.mod (SE.sub (f.own (by first | kernel_rfl | decide +kernel)) SE.int (fun _ _ => rfl)) (f.var (by first | kernel_rfl | decide +kernel))) (fun _ => rfl))
 ((SSs.cons (f.at_ (by first | kernel_rfl | decide +kernel) (f.div (SE.sub (f.own (by first | kernel_rfl | decide +kernel)) SE.int (fun _ _ => rfl)) (f.var (by first | kernel_rfl | decide +kernel))) SE.int (fun _ => rfl))
 ((SSs.cons (SS.ret (f.var (by first | kernel_rfl | decide +kernel)))
 (SSs.nil))))))) (SSs.nil))
 ((SSs.cons (f.at_ (by first | kernel_rfl | decide +kernel) (f.mod (f.mul (SE.sub (f.own (by first | kernel_rfl | decide +kernel)) SE.int (fun _ _ => rfl)) SE.int) SE.int) SE.int (fun _ => rfl))
 ((SSs.cons (SS.ret (f.mod (f.div (SE.sub (f.own (by first | kernel_rfl | decide +kernel)) SE.int (fun _ _ => rfl)) SE.int) (f.var (by first | kernel_rfl | decide +kernel))))
 (SSs.nil))))))
theorem cal_law_take {f : Addr} {o : Obj} {pm cd doc : Value} (bs : Base B mg mb) (fb : Free mg) (D0 : Def B mg "_law_take" (argsOf (stAt 15)) (bodyOf (stAt 15)) (scOf (stAt 15)) f o pm cd doc)  : CalB prog w B mg 1 "_law_take" g_law_take :=
 ⟨f, o, _, fnB (box := "box") (ps := ["many"]) (locs := ["digit"]) D0 bs.nolimit (fun vs hv => by rcases vs with _ | ⟨a0, _ | ⟨a1, _ | ⟨_, _⟩⟩⟩ <;> first | (simp at hv; done) | rfl) rfl (okp (by first | kernel_rfl | decide +kernel)) (by first | kernel_rfl | decide +kernel) rfl rfl rfl (fun fr d => s_law_take (d.fk bs fb (okcs (by first | kernel_rfl | decide +kernel))) ), D0.m, D0.g, D0.d⟩
theorem s_law_counts (f : Fk prog w B mg mb 1 (scOf (stAt 16)) nm_law_counts [] 0 fr) (c_law_take : CalB prog w B mg 1 "_law_take" g_law_take) : SSs prog w fr (bodyOf (stAt 16)) f_law_counts :=
 (SSs.cons (f.swp (tg := [(2, "way"), (3, "found")]) (by first | kernel_rfl | decide +kernel) rfl (SX.sh (f.callB c_law_take (by decide) (by first | kernel_rfl | decide +kernel) (by first | kernel_rfl | decide +kernel) (SL.cons SE.int SL.nil (fun _ => rfl))) (f.ow (by first | kernel_rfl | decide +kernel) (SF.list SL.nil (by decide)) SX.nil (fun _ => rfl)) (fun _ => rfl)) rfl (by decide) (Sl.sh (Sl.ow Sl.nil)) (by decide) (fun _ => rfl) (by rfl))
 ((SSs.cons (f.for_ (SI.rng f.ok (f.rng1 (by first | kernel_rfl | decide +kernel) (SR.gen (f.var (by first | kernel_rfl | decide +kernel))) (fun _ => rfl))) (TgT.one (i := 4)) (by first | kernel_rfl | decide +kernel) rfl ((SSs.cons (SS.ite (ST.and (Fk.tcmp f.eq (f.var (by first | kernel_rfl | decide +kernel)) SE.int rfl) (ST.bone (Fk.tcmp f.gt (f.var (by first | kernel_rfl | decide +kernel)) SE.int rfl))) ((SSs.cons (f.app (by first | kernel_rfl | decide +kernel) (f.add (f.add (SE.sub (f.own (by first | kernel_rfl | decide +kernel)) (SE.neg SE.int) (fun _ _ => rfl)) (SE.sub (f.own (by first | kernel_rfl | decide +kernel)) (SE.neg SE.int) (fun _ _ => rfl))) (f.callB c_law_take (by decide) (by first | kernel_rfl | decide +kernel) (by first | kernel_rfl | decide +kernel) (SL.cons SE.int SL.nil (fun _ => rfl)))) (fun _ => rfl) (fun _ => rfl) (fun _ => rfl))
 (SSs.nil))) ((SSs.cons (f.app (by first | kernel_rfl | decide +kernel) (f.add SE.int (f.callB c_law_take (by decide) (by first | kernel_rfl | decide +kernel) (by first | kernel_rfl | decide +kernel) (SL.cons (SE.ite (Fk.tcmp f.eq (f.var (by first | kernel_rfl | decide +kernel)) SE.int rfl) SE.int SE.int) SL.nil (fun _ => rfl)))) (fun _ => rfl) (fun _ => rfl) (fun _ => rfl))
 (SSs.nil))))
 (SSs.nil))) (fun _ _ => rfl))
 ((SSs.cons (SS.ite (Fk.tcmp f.eq (f.var (by first | kernel_rfl | decide +kernel)) SE.int rfl) ((SSs.cons (f.swp (tg := [(5, "spot"), (6, "more")]) (by first | kernel_rfl | decide +kernel) rfl (SX.sh (f.callB c_law_take (by decide) (by first | kernel_rfl | decide +kernel) (by first | kernel_rfl | decide +kernel) (SL.cons (f.var (by first | kernel_rfl | decide +kernel)) SL.nil (fun _ => rfl))) (SX.sh (f.callB c_law_take (by decide) (by first | kernel_rfl | decide +kernel) (by first | kernel_rfl | decide +kernel) (SL.cons SE.int SL.nil (fun _ => rfl))) SX.nil (fun _ => rfl)) (fun _ => rfl)) rfl (by decide) (Sl.sh (Sl.sh Sl.nil)) (by decide) (fun _ => rfl) (by rfl))
 ((SSs.cons (f.at_ (by first | kernel_rfl | decide +kernel) (f.add (SE.sub (f.own (by first | kernel_rfl | decide +kernel)) (f.var (by first | kernel_rfl | decide +kernel)) (fun _ _ => rfl)) (f.var (by first | kernel_rfl | decide +kernel))) (f.var (by first | kernel_rfl | decide +kernel)) (fun _ => rfl))
 (SSs.nil))))) (SSs.nil))
 ((SSs.cons (f.set (by first | kernel_rfl | decide +kernel) (f.callB c_law_take (by decide) (by first | kernel_rfl | decide +kernel) (by first | kernel_rfl | decide +kernel) (SL.cons (f.var (by first | kernel_rfl | decide +kernel)) SL.nil (fun _ => rfl))) (fun _ => rfl))
 ((SSs.cons (SS.ret (f.add (SE.from (f.own (by first | kernel_rfl | decide +kernel)) (f.var (by first | kernel_rfl | decide +kernel))) (SE.upto (f.own (by first | kernel_rfl | decide +kernel)) (f.var (by first | kernel_rfl | decide +kernel)))))
 (SSs.nil))))))))))
theorem cal_law_counts {f : Addr} {o : Obj} {pm cd doc : Value} (bs : Base B mg mb) (fb : Free mg) (D0 : Def B mg "_law_counts" (argsOf (stAt 16)) (bodyOf (stAt 16)) (scOf (stAt 16)) f o pm cd doc) (c_law_take : CalB prog w B mg 1 "_law_take" g_law_take) : CalB prog w B mg 2 "_law_counts" g_law_counts :=
 ⟨f, o, _, fnB (box := "box") (ps := ["many"]) (locs := ["way", "found", "place", "spot", "more", "turn"]) D0 bs.nolimit (fun vs hv => by rcases vs with _ | ⟨a0, _ | ⟨a1, _ | ⟨_, _⟩⟩⟩ <;> first | (simp at hv; done) | rfl) rfl (okp (by first | kernel_rfl | decide +kernel)) (by first | kernel_rfl | decide +kernel) rfl rfl rfl (fun fr d => s_law_counts (d.fk bs fb (okcs (by first | kernel_rfl | decide +kernel))) c_law_take), D0.m, D0.g, D0.d⟩
theorem s_law_moves (f : Fk prog w B mg mb 1 (scOf (stAt 17)) nm_law_moves [] 0 fr) (c_law_take : CalB prog w B mg 1 "_law_take" g_law_take) : SSs prog w fr (bodyOf (stAt 17)) f_law_moves :=
 (SSs.cons (f.swp (tg := [(2, "rows"), (3, "moves")]) (by first | kernel_rfl | decide +kernel) rfl (f.ow (by first | kernel_rfl | decide +kernel) (SF.list (SL.cons (f.var (by first | kernel_rfl | decide +kernel)) SL.nil (fun _ => rfl)) (by decide)) (f.ow (by first | kernel_rfl | decide +kernel) (SF.list SL.nil (by decide)) SX.nil (fun _ => rfl)) (fun _ => rfl)) rfl (by decide) (Sl.ow (Sl.ow Sl.nil)) (by decide) (fun _ => rfl) (by rfl))
 ((SSs.cons (f.for_ (SI.rng f.ok (f.rng1 (by first | kernel_rfl | decide +kernel) (SR.gen (f.add SE.int (f.callB c_law_take (by decide) (by first | kernel_rfl | decide +kernel) (by first | kernel_rfl | decide +kernel) (SL.cons SE.int SL.nil (fun _ => rfl))))) (fun _ => rfl))) (TgT.one (i := 4)) (by first | kernel_rfl | decide +kernel) rfl ((SSs.cons (f.set (by first | kernel_rfl | decide +kernel) (f.sorted (by first | kernel_rfl | decide +kernel) (SR.gen (f.comp (names' := ["symbol", "count"]) (fm := []) (by first | kernel_rfl | decide +kernel) (f.ienum (by first | kernel_rfl | decide +kernel) (SE.sub (f.own (by first | kernel_rfl | decide +kernel)) (SE.neg SE.int) (fun _ _ => rfl)) (fun _ => rfl)) (TgT.two (TgE.cons (i := 0) (TgE.cons (i := 1) TgE.nil)) rfl) (by first | kernel_rfl | decide +kernel) rfl (fun _ f' => (SCt.one (Fk.tcmp f'.gt (f'.var (by first | kernel_rfl | decide +kernel)) SE.int rfl))) (fun _ f' => (SE.tup (SL.cons (f'.var (by first | kernel_rfl | decide +kernel)) (SL.cons (f'.var (by first | kernel_rfl | decide +kernel)) SL.nil (fun _ => rfl)) (fun _ => rfl)) (by decide))) (fun _ _ => rfl))) (fun _ => rfl)) (fun _ => rfl))
 ((SSs.cons (f.set (by first | kernel_rfl | decide +kernel) (f.callB c_law_take (by decide) (by first | kernel_rfl | decide +kernel) (by first | kernel_rfl | decide +kernel) (SL.cons (f.sub (f.len (by first | kernel_rfl | decide +kernel) (SR.gen (f.var (by first | kernel_rfl | decide +kernel))) (fun _ => rfl)) SE.int) SL.nil (fun _ => rfl))) (fun _ => rfl))
 ((SSs.cons (f.set (by first | kernel_rfl | decide +kernel) (f.add (f.add (f.var (by first | kernel_rfl | decide +kernel)) SE.int) (f.callB c_law_take (by decide) (by first | kernel_rfl | decide +kernel) (by first | kernel_rfl | decide +kernel) (SL.cons (f.sub (f.sub (f.len (by first | kernel_rfl | decide +kernel) (SR.gen (f.var (by first | kernel_rfl | decide +kernel))) (fun _ => rfl)) SE.int) (f.var (by first | kernel_rfl | decide +kernel))) SL.nil (fun _ => rfl)))) (fun _ => rfl))
 ((SSs.cons (f.swp (tg := [(8, "one"), (9, "other")]) (by first | kernel_rfl | decide +kernel) rfl (SX.sh (SE.sub (SR.gen (SE.sub (SR.gen (f.var (by first | kernel_rfl | decide +kernel))) (f.var (by first | kernel_rfl | decide +kernel)) (fun _ _ => rfl))) SE.int (fun _ _ => rfl)) (SX.sh (SE.sub (SR.gen (SE.sub (SR.gen (f.var (by first | kernel_rfl | decide +kernel))) (f.var (by first | kernel_rfl | decide +kernel)) (fun _ _ => rfl))) SE.int (fun _ _ => rfl)) SX.nil (fun _ => rfl)) (fun _ => rfl)) rfl (by decide) (Sl.sh (Sl.sh Sl.nil)) (by decide) (fun _ => rfl) (by rfl))
 ((SSs.cons (SS.ite (ST.or (Fk.tcmp f.gt (SE.sub (SR.gen (SE.sub (SR.gen (f.var (by first | kernel_rfl | decide +kernel))) (f.var (by first | kernel_rfl | decide +kernel)) (fun _ _ => rfl))) SE.int (fun _ _ => rfl)) SE.int rfl) (ST.bone (Fk.tcmp f.gt (f.len (by first | kernel_rfl | decide +kernel) (SR.gen (f.var (by first | kernel_rfl | decide +kernel))) (fun _ => rfl)) SE.int rfl))) ((SSs.cons (f.setO (by first | kernel_rfl | decide +kernel) (by first | kernel_rfl | decide +kernel) (f.copy (by first | kernel_rfl | decide +kernel) (SR.gen (SE.sub (f.own (by first | kernel_rfl | decide +kernel)) (SE.neg SE.int) (fun _ _ => rfl))) (fun _ => rfl)) (fun _ => rfl))
 ((SSs.cons (f.at_ (by first | kernel_rfl | decide +kernel) (f.sub (SE.sub (f.own (by first | kernel_rfl | decide +kernel)) (f.var (by first | kernel_rfl | decide +kernel)) (fun _ _ => rfl)) SE.int) (f.var (by first | kernel_rfl | decide +kernel)) (fun _ => rfl))
 ((SSs.cons (f.at_ (by first | kernel_rfl | decide +kernel) (f.add (SE.sub (f.own (by first | kernel_rfl | decide +kernel)) (f.var (by first | kernel_rfl | decide +kernel)) (fun _ _ => rfl)) SE.int) (f.var (by first | kernel_rfl | decide +kernel)) (fun _ => rfl))
 ((SSs.cons (f.app (by first | kernel_rfl | decide +kernel) (f.mov (by first | kernel_rfl | decide +kernel)) (fun _ => rfl) (fun _ => rfl) (fun _ => rfl))
 ((SSs.cons (f.app (by first | kernel_rfl | decide +kernel) (SE.list (SL.cons (f.var (by first | kernel_rfl | decide +kernel)) (SL.cons (f.var (by first | kernel_rfl | decide +kernel)) SL.nil (fun _ => rfl)) (fun _ => rfl)) (by decide)) (fun _ => rfl) (fun _ => rfl) (fun _ => rfl))
 (SSs.nil))))))))))) (SSs.nil))
 (SSs.nil))))))))))) (fun _ _ => rfl))
 ((SSs.cons (SS.ret (SE.tup (SL.cons (f.mov (by first | kernel_rfl | decide +kernel)) (SL.cons (f.mov (by first | kernel_rfl | decide +kernel)) SL.nil (fun _ => rfl)) (fun _ => rfl)) (by decide)))
 (SSs.nil))))))
theorem cal_law_moves {f : Addr} {o : Obj} {pm cd doc : Value} (bs : Base B mg mb) (fb : Free mg) (D0 : Def B mg "_law_moves" (argsOf (stAt 17)) (bodyOf (stAt 17)) (scOf (stAt 17)) f o pm cd doc) (c_law_take : CalB prog w B mg 1 "_law_take" g_law_take) : CalB prog w B mg 2 "_law_moves" g_law_moves :=
 ⟨f, o, _, fnB (box := "box") (ps := ["counts"]) (locs := ["rows", "moves", "turn", "order", "low", "high", "one", "other", "moved"]) D0 bs.nolimit (fun vs hv => by rcases vs with _ | ⟨a0, _ | ⟨a1, _ | ⟨_, _⟩⟩⟩ <;> first | (simp at hv; done) | rfl) rfl (okp (by first | kernel_rfl | decide +kernel)) (by first | kernel_rfl | decide +kernel) rfl rfl rfl (fun fr d => s_law_moves (d.fk bs fb (okcs (by first | kernel_rfl | decide +kernel))) c_law_take), D0.m, D0.g, D0.d⟩
theorem s_law_same (f : Fk prog w B mg mb 0 (scOf (stAt 18)) nm_law_same ["many"] 1000000 fr)  : SSs prog w fr (bodyOf (stAt 18)) f_law_same :=
 (SSs.cons (SS.ret (f.len (by first | kernel_rfl | decide +kernel) (SR.gen (f.comp (names' := ["k", "many"]) (fm := [(1, 0)]) (by first | kernel_rfl | decide +kernel) (SI.rng f.ok (f.rng1 (by first | kernel_rfl | decide +kernel) (SR.gen SE.int) (fun _ => rfl))) (TgT.one (i := 0)) (by first | kernel_rfl | decide +kernel) rfl (fun _ f' => (SCt.one (Fk.tcmp f'.lt (f'.pow SE.int (f'.var (by first | kernel_rfl | decide +kernel))) (f'.var (by first | kernel_rfl | decide +kernel)) rfl))) (fun _ f' => (f'.var (by first | kernel_rfl | decide +kernel))) (fun _ _ => rfl))) (fun _ => rfl)))
 (SSs.nil))
theorem cal_law_same {f : Addr} {o : Obj} {pm cd doc : Value} (bs : Base B mg mb) (fb : Free mg) (D0 : Def B mg "_law_same" (argsOf (stAt 18)) (bodyOf (stAt 18)) (scOf (stAt 18)) f o pm cd doc)  : Cal prog w B mg 1 "_law_same" g_law_same :=
 ⟨f, o, _, fnOK (ps := ["many"]) (locs := []) D0 bs.nolimit (fun vs hv => by rcases vs with _ | ⟨a0, _ | ⟨_, _⟩⟩ <;> first | (simp at hv; done) | rfl) rfl (okp (by first | kernel_rfl | decide +kernel)) (by first | kernel_rfl | decide +kernel) rfl rfl rfl (fun fr d => s_law_same (d.fk bs fb (okcs (by first | kernel_rfl | decide +kernel))) ), D0.m, D0.g, D0.d⟩
theorem s_law_near (f : Fk prog w B mg mb 0 (scOf (stAt 19)) nm_law_near ["used"] 1000000 fr)  : SSs prog w fr (bodyOf (stAt 19)) f_law_near :=
 (SSs.cons (f.set (by first | kernel_rfl | decide +kernel) (f.len (by first | kernel_rfl | decide +kernel) (SR.gen (f.comp (names' := ["k", "used"]) (fm := [(1, 0)]) (by first | kernel_rfl | decide +kernel) (SI.rng f.ok (f.rng2 (by first | kernel_rfl | decide +kernel) (SL.cons SE.int (SL.cons SE.int SL.nil (fun _ => rfl)) (fun _ => rfl)) (fun _ => rfl))) (TgT.one (i := 0)) (by first | kernel_rfl | decide +kernel) rfl (fun _ f' => (SCt.one (Fk.tcmp f'.le (f'.pow SE.int (f'.var (by first | kernel_rfl | decide +kernel))) (f'.len (by first | kernel_rfl | decide +kernel) (SR.gen (f'.var (by first | kernel_rfl | decide +kernel))) (fun _ => rfl)) rfl))) (fun _ f' => (f'.var (by first | kernel_rfl | decide +kernel))) (fun _ _ => rfl))) (fun _ => rfl)) (fun _ => rfl))
 ((SSs.cons (SS.ret (f.add (f.mul (f.sum (by first | kernel_rfl | decide +kernel) (SR.gen (f.var (by first | kernel_rfl | decide +kernel))) (fun _ => rfl)) (f.var (by first | kernel_rfl | decide +kernel))) (f.sum (by first | kernel_rfl | decide +kernel) (SR.gen (SE.upto (SR.gen (f.sorted (by first | kernel_rfl | decide +kernel) (SR.gen (f.var (by first | kernel_rfl | decide +kernel))) (fun _ => rfl))) (f.mul SE.int (f.sub (f.len (by first | kernel_rfl | decide +kernel) (SR.gen (f.var (by first | kernel_rfl | decide +kernel))) (fun _ => rfl)) (f.pow SE.int (f.var (by first | kernel_rfl | decide +kernel))))))) (fun _ => rfl))))
 (SSs.nil))))
theorem cal_law_near {f : Addr} {o : Obj} {pm cd doc : Value} (bs : Base B mg mb) (fb : Free mg) (D0 : Def B mg "_law_near" (argsOf (stAt 19)) (bodyOf (stAt 19)) (scOf (stAt 19)) f o pm cd doc)  : Cal prog w B mg 1 "_law_near" g_law_near :=
 ⟨f, o, _, fnOK (ps := ["used"]) (locs := ["short"]) D0 bs.nolimit (fun vs hv => by rcases vs with _ | ⟨a0, _ | ⟨_, _⟩⟩ <;> first | (simp at hv; done) | rfl) rfl (okp (by first | kernel_rfl | decide +kernel)) (by first | kernel_rfl | decide +kernel) rfl rfl rfl (fun fr d => s_law_near (d.fk bs fb (okcs (by first | kernel_rfl | decide +kernel))) ), D0.m, D0.g, D0.d⟩
theorem s_law_fewest (f : Fk prog w B mg mb 0 (scOf (stAt 20)) nm_law_fewest [] 1000000 fr)  : SSs prog w fr (bodyOf (stAt 20)) f_law_fewest :=
 (SSs.cons (f.setO (by first | kernel_rfl | decide +kernel) (by first | kernel_rfl | decide +kernel) (SF.list SL.nil (by decide)) (fun _ => rfl))
 ((SSs.cons (f.for_ (SI.rng f.ok (f.rng2 (by first | kernel_rfl | decide +kernel) (SL.cons SE.int (SL.cons (f.var (by first | kernel_rfl | decide +kernel)) SL.nil (fun _ => rfl)) (fun _ => rfl)) (fun _ => rfl))) (TgT.one (i := 4)) (by first | kernel_rfl | decide +kernel) rfl ((SSs.cons (f.set (by first | kernel_rfl | decide +kernel) (f.list (by first | kernel_rfl | decide +kernel) (SR.gen (f.rng2 (by first | kernel_rfl | decide +kernel) (SL.cons SE.int (SL.cons (f.add (f.var (by first | kernel_rfl | decide +kernel)) SE.int) SL.nil (fun _ => rfl)) (fun _ => rfl)) (fun _ => rfl))) (fun _ => rfl)) (fun _ => rfl))
 ((SSs.cons (f.for_ (SI.rng f.ok (f.rng1 (by first | kernel_rfl | decide +kernel) (SR.gen (f.sub (f.sub (f.var (by first | kernel_rfl | decide +kernel)) SE.int) (f.var (by first | kernel_rfl | decide +kernel)))) (fun _ => rfl))) (TgT.one (i := 6)) (by first | kernel_rfl | decide +kernel) rfl ((SSs.cons (f.set (by first | kernel_rfl | decide +kernel) (f.sorted (by first | kernel_rfl | decide +kernel) (SR.gen (f.add (SE.from (SR.gen (f.var (by first | kernel_rfl | decide +kernel))) SE.int) (SE.list (SL.cons (f.add (SE.sub (SR.gen (f.var (by first | kernel_rfl | decide +kernel))) SE.int (fun _ _ => rfl)) SE.int) (SL.cons (f.add (SE.sub (SR.gen (f.var (by first | kernel_rfl | decide +kernel))) SE.int (fun _ _ => rfl)) SE.int) SL.nil (fun _ => rfl)) (fun _ => rfl)) (by decide)))) (fun _ => rfl)) (fun _ => rfl))
 (SSs.nil))) (fun _ _ => rfl))
 ((SSs.cons (SS.ite (Fk.tcmp f.le (f.max (by first | kernel_rfl | decide +kernel) (SR.gen (f.var (by first | kernel_rfl | decide +kernel))) (fun _ => rfl)) (f.var (by first | kernel_rfl | decide +kernel)) rfl) ((SSs.cons (f.app (by first | kernel_rfl | decide +kernel) (f.add (f.mul (f.add (f.sub (f.var (by first | kernel_rfl | decide +kernel)) (f.var (by first | kernel_rfl | decide +kernel))) SE.int) (f.var (by first | kernel_rfl | decide +kernel))) (f.sum (by first | kernel_rfl | decide +kernel) (SR.gen (f.var (by first | kernel_rfl | decide +kernel))) (fun _ => rfl))) (fun _ => rfl) (fun _ => rfl) (fun _ => rfl))
 (SSs.nil))) (SSs.nil))
 (SSs.nil))))))) (fun _ _ => rfl))
 ((SSs.cons (SS.ret (f.min (by first | kernel_rfl | decide +kernel) (f.own (by first | kernel_rfl | decide +kernel)) (fun _ => rfl)))
 (SSs.nil))))))
theorem cal_law_fewest {f : Addr} {o : Obj} {pm cd doc : Value} (bs : Base B mg mb) (fb : Free mg) (D0 : Def B mg "_law_fewest" (argsOf (stAt 20)) (bodyOf (stAt 20)) (scOf (stAt 20)) f o pm cd doc)  : Cal prog w B mg 1 "_law_fewest" g_law_fewest :=
 ⟨f, o, _, fnOK (ps := ["many", "whole", "longest"]) (locs := ["totals", "length", "rest", "turn"]) D0 bs.nolimit (fun vs hv => by rcases vs with _ | ⟨a0, _ | ⟨a1, _ | ⟨a2, _ | ⟨_, _⟩⟩⟩⟩ <;> first | (simp at hv; done) | rfl) rfl (okp (by first | kernel_rfl | decide +kernel)) (by first | kernel_rfl | decide +kernel) rfl rfl rfl (fun fr d => s_law_fewest (d.fk bs fb (okcs (by first | kernel_rfl | decide +kernel))) ), D0.m, D0.g, D0.d⟩
theorem s_law_evener (f : Fk prog w B mg mb 0 (scOf (stAt 21)) nm_law_evener [] 1000000 fr)  : SSs prog w fr (bodyOf (stAt 21)) f_law_evener :=
 (SSs.cons (f.tup (TgE.cons (i := 2) (TgE.cons (i := 3) (TgE.cons (i := 4) (TgE.cons (i := 5) TgE.nil)))) (by first | kernel_rfl | decide +kernel) rfl (f.ow (by first | kernel_rfl | decide +kernel) (SF.list SL.nil (by decide)) (SX.sh SE.int (SX.sh SE.int (SX.sh SE.int SX.nil (fun _ => rfl)) (fun _ => rfl)) (fun _ => rfl)) (fun _ => rfl)) rfl (by decide) (Sl.ow (Sl.sh (Sl.sh (Sl.sh Sl.nil)))) (by decide) (fun _ => rfl) (by rfl))
 ((SSs.cons (f.for_ (f.izip (by first | kernel_rfl | decide +kernel) (SL.cons (f.sorted (by first | kernel_rfl | decide +kernel) (SR.gen (f.var (by first | kernel_rfl | decide +kernel))) (fun _ => rfl)) (SL.cons (f.sorted (by first | kernel_rfl | decide +kernel) (SR.gen (f.var (by first | kernel_rfl | decide +kernel))) (fun _ => rfl)) SL.nil (fun _ => rfl)) (fun _ => rfl)) (fun _ => rfl) (fun _ _ => rfl)) (TgT.two (TgE.cons (i := 6) (TgE.cons (i := 7) TgE.nil)) rfl) (by first | kernel_rfl | decide +kernel) rfl ((SSs.cons (f.swp (tg := [(4, "first"), (5, "second")]) (by first | kernel_rfl | decide +kernel) rfl (SX.sh (f.add (f.var (by first | kernel_rfl | decide +kernel)) (f.var (by first | kernel_rfl | decide +kernel))) (SX.sh (f.add (f.var (by first | kernel_rfl | decide +kernel)) (f.var (by first | kernel_rfl | decide +kernel))) SX.nil (fun _ => rfl)) (fun _ => rfl)) rfl (by decide) (Sl.sh (Sl.sh Sl.nil)) (by decide) (fun _ => rfl) (by rfl))
 ((SSs.cons (f.app (by first | kernel_rfl | decide +kernel) (f.sub (f.max2 (by first | kernel_rfl | decide +kernel) (SL.cons (f.var (by first | kernel_rfl | decide +kernel)) (SL.cons (f.var (by first | kernel_rfl | decide +kernel)) SL.nil (fun _ => rfl)) (fun _ => rfl)) (fun _ => rfl)) (f.var (by first | kernel_rfl | decide +kernel))) (fun _ => rfl) (fun _ => rfl) (fun _ => rfl))
 ((SSs.cons (f.set (by first | kernel_rfl | decide +kernel) (f.max2 (by first | kernel_rfl | decide +kernel) (SL.cons (f.var (by first | kernel_rfl | decide +kernel)) (SL.cons (f.var (by first | kernel_rfl | decide +kernel)) SL.nil (fun _ => rfl)) (fun _ => rfl)) (fun _ => rfl)) (fun _ => rfl))
 (SSs.nil))))))) (fun _ _ => rfl))
 ((SSs.cons (SS.ret (f.mov (by first | kernel_rfl | decide +kernel)))
 (SSs.nil))))))
theorem cal_law_evener {f : Addr} {o : Obj} {pm cd doc : Value} (bs : Base B mg mb) (fb : Free mg) (D0 : Def B mg "_law_evener" (argsOf (stAt 21)) (bodyOf (stAt 21)) (scOf (stAt 21)) f o pm cd doc)  : Cal prog w B mg 1 "_law_evener" g_law_evener :=
 ⟨f, o, _, fnOK (ps := ["one", "other"]) (locs := ["found", "done", "first", "second", "mine", "theirs"]) D0 bs.nolimit (fun vs hv => by rcases vs with _ | ⟨a0, _ | ⟨a1, _ | ⟨_, _⟩⟩⟩ <;> first | (simp at hv; done) | rfl) rfl (okp (by first | kernel_rfl | decide +kernel)) (by first | kernel_rfl | decide +kernel) rfl rfl rfl (fun fr d => s_law_evener (d.fk bs fb (okcs (by first | kernel_rfl | decide +kernel))) ), D0.m, D0.g, D0.d⟩
theorem s_law_told (f : Fk prog w B mg mb 3 (scOf (stAt 22)) nm_law_told [] 1000000 fr) (c_least_lengths : Cal prog w B mg 3 "least_lengths" g_least_lengths) (c_free_lengths : Cal prog w B mg 2 "free_lengths" g_free_lengths) : SSs prog w fr (bodyOf (stAt 22)) f_law_told :=
 (SSs.cons (SS.ret (SE.ite (Fk.tcmp f.gt (f.var (by first | kernel_rfl | decide +kernel)) SE.int rfl) (f.call c_least_lengths (by decide) (by first | kernel_rfl | decide +kernel) (SL.cons (f.var (by first | kernel_rfl | decide +kernel)) (SL.cons (f.var (by first | kernel_rfl | decide +kernel)) SL.nil (fun _ => rfl)) (fun _ => rfl)) (fun _ => rfl)) (f.call c_free_lengths (by decide) (by first | kernel_rfl | decide +kernel) (SL.cons (f.var (by first | kernel_rfl | decide +kernel)) SL.nil (fun _ => rfl)) (fun _ => rfl))))
 (SSs.nil))
theorem cal_law_told {f : Addr} {o : Obj} {pm cd doc : Value} (bs : Base B mg mb) (fb : Free mg) (D0 : Def B mg "_law_told" (argsOf (stAt 22)) (bodyOf (stAt 22)) (scOf (stAt 22)) f o pm cd doc) (c_least_lengths : Cal prog w B mg 3 "least_lengths" g_least_lengths) (c_free_lengths : Cal prog w B mg 2 "free_lengths" g_free_lengths) : Cal prog w B mg 4 "_law_told" g_law_told :=
 ⟨f, o, _, fnOK (ps := ["counts", "longest"]) (locs := []) D0 bs.nolimit (fun vs hv => by rcases vs with _ | ⟨a0, _ | ⟨a1, _ | ⟨_, _⟩⟩⟩ <;> first | (simp at hv; done) | rfl) rfl (okp (by first | kernel_rfl | decide +kernel)) (by first | kernel_rfl | decide +kernel) rfl rfl rfl (fun fr d => s_law_told (d.fk bs fb (okcs (by first | kernel_rfl | decide +kernel))) c_least_lengths c_free_lengths), D0.m, D0.g, D0.d⟩
theorem s_law_row_right (f : Fk prog w B mg mb 1 (scOf (stAt 23)) nm_law_row_right [] 1000000 fr) (c_law_near : Cal prog w B mg 1 "_law_near" g_law_near) (c_law_fewest : Cal prog w B mg 1 "_law_fewest" g_law_fewest) (c_law_same : Cal prog w B mg 1 "_law_same" g_law_same) : SSs prog w fr (bodyOf (stAt 23)) f_law_row_right :=
 (SSs.cons (f.set (by first | kernel_rfl | decide +kernel) (f.sorted (by first | kernel_rfl | decide +kernel) (SR.gen (f.comp (names' := ["count"]) (fm := []) (by first | kernel_rfl | decide +kernel) (SI.list f.ok (f.var (by first | kernel_rfl | decide +kernel))) (TgT.one (i := 0)) (by first | kernel_rfl | decide +kernel) rfl (fun _ f' => (SCt.one (Fk.tcmp f'.gt (f'.var (by first | kernel_rfl | decide +kernel)) SE.int rfl))) (fun _ f' => (f'.var (by first | kernel_rfl | decide +kernel))) (fun _ _ => rfl))) (fun _ => rfl)) (fun _ => rfl))
 ((SSs.cons (f.swp (tg := [(4, "many"), (5, "near")]) (by first | kernel_rfl | decide +kernel) rfl (SX.sh (f.len (by first | kernel_rfl | decide +kernel) (SR.gen (f.var (by first | kernel_rfl | decide +kernel))) (fun _ => rfl)) (SX.sh (f.call c_law_near (by decide) (by first | kernel_rfl | decide +kernel) (SL.cons (f.var (by first | kernel_rfl | decide +kernel)) SL.nil (fun _ => rfl)) (fun _ => rfl)) SX.nil (fun _ => rfl)) (fun _ => rfl)) rfl (by decide) (Sl.sh (Sl.sh Sl.nil)) (by decide) (fun _ => rfl) (by rfl))
 ((SSs.cons (f.set (by first | kernel_rfl | decide +kernel) (SE.ite (Fk.tcmp f.gt (f.var (by first | kernel_rfl | decide +kernel)) SE.int rfl) (f.var (by first | kernel_rfl | decide +kernel)) (f.sub (f.var (by first | kernel_rfl | decide +kernel)) SE.int)) (fun _ => rfl))
 ((SSs.cons (SS.ite (ST.not (Fk.tchn f.le f.le (f.call c_law_fewest (by decide) (by first | kernel_rfl | decide +kernel) (SL.cons (f.var (by first | kernel_rfl | decide +kernel)) (SL.cons (f.sum (by first | kernel_rfl | decide +kernel) (SR.gen (f.var (by first | kernel_rfl | decide +kernel))) (fun _ => rfl)) (SL.cons (f.var (by first | kernel_rfl | decide +kernel)) SL.nil (fun _ => rfl)) (fun _ => rfl)) (fun _ => rfl)) (fun _ => rfl)) (f.var (by first | kernel_rfl | decide +kernel)) (f.var (by first | kernel_rfl | decide +kernel)) rfl)) ((SSs.cons (SS.ret SE.bool)
 (SSs.nil))) (SSs.nil))
 ((SSs.cons (SS.ite (Fk.tcmp f.ge (f.add (SE.sub (SR.gen (f.var (by first | kernel_rfl | decide +kernel))) SE.int (fun _ _ => rfl)) (SE.sub (SR.gen (f.var (by first | kernel_rfl | decide +kernel))) SE.int (fun _ _ => rfl))) (SE.sub (SR.gen (f.var (by first | kernel_rfl | decide +kernel))) (SE.neg SE.int) (fun _ _ => rfl)) rfl) ((SSs.cons (SS.ret (Fk.cmp f.eq (f.var (by first | kernel_rfl | decide +kernel)) (f.var (by first | kernel_rfl | decide +kernel)) rfl))
 (SSs.nil))) (SSs.nil))
 ((SSs.cons (SS.ret (SE.or (Fk.cmp f.lt (f.var (by first | kernel_rfl | decide +kernel)) (f.var (by first | kernel_rfl | decide +kernel)) rfl) (SE.or (Fk.cmp f.nin (f.var (by first | kernel_rfl | decide +kernel)) (SE.list (SL.cons SE.int (SL.cons SE.int SL.nil (fun _ => rfl)) (fun _ => rfl)) (by decide)) rfl) (SE.bone (Fk.cmp f.le (f.var (by first | kernel_rfl | decide +kernel)) (f.call c_law_same (by decide) (by first | kernel_rfl | decide +kernel) (SL.cons (f.var (by first | kernel_rfl | decide +kernel)) SL.nil (fun _ => rfl)) (fun _ => rfl)) rfl)))))
 (SSs.nil))))))))))))
theorem cal_law_row_right {f : Addr} {o : Obj} {pm cd doc : Value} (bs : Base B mg mb) (fb : Free mg) (D0 : Def B mg "_law_row_right" (argsOf (stAt 23)) (bodyOf (stAt 23)) (scOf (stAt 23)) f o pm cd doc) (c_law_near : Cal prog w B mg 1 "_law_near" g_law_near) (c_law_fewest : Cal prog w B mg 1 "_law_fewest" g_law_fewest) (c_law_same : Cal prog w B mg 1 "_law_same" g_law_same) : Cal prog w B mg 2 "_law_row_right" g_law_row_right :=
 ⟨f, o, _, fnOK (ps := ["row", "total", "longest"]) (locs := ["used", "many", "near", "limit"]) D0 bs.nolimit (fun vs hv => by rcases vs with _ | ⟨a0, _ | ⟨a1, _ | ⟨a2, _ | ⟨_, _⟩⟩⟩⟩ <;> first | (simp at hv; done) | rfl) rfl (okp (by first | kernel_rfl | decide +kernel)) (by first | kernel_rfl | decide +kernel) rfl rfl rfl (fun fr d => s_law_row_right (d.fk bs fb (okcs (by first | kernel_rfl | decide +kernel))) c_law_near c_law_fewest c_law_same), D0.m, D0.g, D0.d⟩
theorem s_law_move_right (f : Fk prog w B mg mb 0 (scOf (stAt 24)) nm_law_move_right [] 1000000 fr)  : SSs prog w fr (bodyOf (stAt 24)) f_law_move_right :=
 (SSs.cons (f.unp (TgE.cons (i := 4) (TgE.cons (i := 5) TgE.nil)) (by first | kernel_rfl | decide +kernel) rfl (f.var (by first | kernel_rfl | decide +kernel)) (fun _ => rfl) (fun _ => rfl))
 ((SSs.cons (f.unp (TgE.cons (i := 6) (TgE.cons (i := 7) TgE.nil)) (by first | kernel_rfl | decide +kernel) rfl (f.var (by first | kernel_rfl | decide +kernel)) (fun _ => rfl) (fun _ => rfl))
 ((SSs.cons (f.set (by first | kernel_rfl | decide +kernel) (f.abs (by first | kernel_rfl | decide +kernel) (SR.gen (f.sub (SE.sub (SR.gen (f.var (by first | kernel_rfl | decide +kernel))) (f.var (by first | kernel_rfl | decide +kernel)) (fun _ _ => rfl)) (SE.sub (SR.gen (f.var (by first | kernel_rfl | decide +kernel))) (f.var (by first | kernel_rfl | decide +kernel)) (fun _ _ => rfl)))) (fun _ => rfl)) (fun _ => rfl))
 ((SSs.cons (SS.ite (Fk.tcmp f.eq (SE.sub (SR.gen (f.var (by first | kernel_rfl | decide +kernel))) (f.var (by first | kernel_rfl | decide +kernel)) (fun _ _ => rfl)) SE.int rfl) ((SSs.cons (SS.ret (Fk.cmp f.ge (f.var (by first | kernel_rfl | decide +kernel)) (f.add (f.var (by first | kernel_rfl | decide +kernel)) (f.min (by first | kernel_rfl | decide +kernel) (SR.gen (f.comp (names' := ["count"]) (fm := []) (by first | kernel_rfl | decide +kernel) (SI.list f.ok (f.var (by first | kernel_rfl | decide +kernel))) (TgT.one (i := 0)) (by first | kernel_rfl | decide +kernel) rfl (fun _ f' => (SCt.one (Fk.tcmp f'.gt (f'.var (by first | kernel_rfl | decide +kernel)) SE.int rfl))) (fun _ f' => (f'.var (by first | kernel_rfl | decide +kernel))) (fun _ _ => rfl))) (fun _ => rfl))) rfl))
 (SSs.nil))) (SSs.nil))
 ((SSs.cons (SS.ret (Fk.chn f.le f.le (f.var (by first | kernel_rfl | decide +kernel)) (f.var (by first | kernel_rfl | decide +kernel)) (f.sub (SE.sub (SR.gen (f.var (by first | kernel_rfl | decide +kernel))) (f.var (by first | kernel_rfl | decide +kernel)) (fun _ _ => rfl)) (SE.sub (SR.gen (f.var (by first | kernel_rfl | decide +kernel))) (f.var (by first | kernel_rfl | decide +kernel)) (fun _ _ => rfl))) rfl))
 (SSs.nil))))))))))
theorem cal_law_move_right {f : Addr} {o : Obj} {pm cd doc : Value} (bs : Base B mg mb) (fb : Free mg) (D0 : Def B mg "_law_move_right" (argsOf (stAt 24)) (bodyOf (stAt 24)) (scOf (stAt 24)) f o pm cd doc)  : Cal prog w B mg 1 "_law_move_right" g_law_move_right :=
 ⟨f, o, _, fnOK (ps := ["moved", "pair", "told", "fall"]) (locs := ["one", "other", "ahead", "behind", "apart"]) D0 bs.nolimit (fun vs hv => by rcases vs with _ | ⟨a0, _ | ⟨a1, _ | ⟨a2, _ | ⟨a3, _ | ⟨_, _⟩⟩⟩⟩⟩ <;> first | (simp at hv; done) | rfl) rfl (okp (by first | kernel_rfl | decide +kernel)) (by first | kernel_rfl | decide +kernel) rfl rfl rfl (fun fr d => s_law_move_right (d.fk bs fb (okcs (by first | kernel_rfl | decide +kernel))) ), D0.m, D0.g, D0.d⟩
theorem s_law_right (f : Fk prog w B mg mb 4 (scOf (stAt 25)) nm_law_right ["longest", "many", "whole"] 1000000 fr) (c_law_evener : Cal prog w B mg 1 "_law_evener" g_law_evener) (c_law_told : Cal prog w B mg 4 "_law_told" g_law_told) (c_total_bits : Cal prog w B mg 1 "total_bits" g_total_bits) (c_law_row_right : Cal prog w B mg 2 "_law_row_right" g_law_row_right) (c_law_move_right : Cal prog w B mg 1 "_law_move_right" g_law_move_right) (c_law_fewest : Cal prog w B mg 1 "_law_fewest" g_law_fewest) : SSs prog w fr (bodyOf (stAt 25)) f_law_right :=
 (SSs.cons (f.tup (TgE.cons (i := 4) (TgE.cons (i := 5) TgE.nil)) (by first | kernel_rfl | decide +kernel) rfl (SX.sh (f.len (by first | kernel_rfl | decide +kernel) (SR.gen (f.var (by first | kernel_rfl | decide +kernel))) (fun _ => rfl)) (SX.sh (f.sum (by first | kernel_rfl | decide +kernel) (SR.gen (SE.sub (SR.gen (f.var (by first | kernel_rfl | decide +kernel))) SE.int (fun _ _ => rfl))) (fun _ => rfl)) SX.nil (fun _ => rfl)) (fun _ => rfl)) rfl (by decide) (Sl.sh (Sl.sh Sl.nil)) (by decide) (fun _ => rfl) (by rfl))
 ((SSs.cons (f.scomp (names' := ["place", "whole", "many"]) (fm := [(1, 5), (2, 4)]) (by first | kernel_rfl | decide +kernel) (by first | kernel_rfl | decide +kernel) (SI.rng f.ok (f.rng1 (by first | kernel_rfl | decide +kernel) (SR.gen (f.var (by first | kernel_rfl | decide +kernel))) (fun _ => rfl))) (TgT.one (i := 0)) (by first | kernel_rfl | decide +kernel) rfl (fun _ f' => SCt.nil) (fun _ f' => (f'.add (f'.div (f'.var (by first | kernel_rfl | decide +kernel)) (f'.var (by first | kernel_rfl | decide +kernel))) (f'.int (by first | kernel_rfl | decide +kernel) (SR.gen (Fk.cmp f'.lt (f'.var (by first | kernel_rfl | decide +kernel)) (f'.mod (f'.var (by first | kernel_rfl | decide +kernel)) (f'.var (by first | kernel_rfl | decide +kernel))) rfl)) (fun _ => rfl)))) (fun _ _ => rfl) (by rfl))
 ((SSs.cons (f.set (by first | kernel_rfl | decide +kernel) (f.add (f.mul (SE.list (SL.cons SE.int SL.nil (fun _ => rfl)) (by decide)) (f.sub (f.var (by first | kernel_rfl | decide +kernel)) SE.int)) (SE.list (SL.cons (f.add (f.sub (f.var (by first | kernel_rfl | decide +kernel)) (f.var (by first | kernel_rfl | decide +kernel))) SE.int) SL.nil (fun _ => rfl)) (by decide))) (fun _ => rfl))
 ((SSs.cons (f.set (by first | kernel_rfl | decide +kernel) (f.add (f.var (by first | kernel_rfl | decide +kernel)) (SE.list (SL.cons (f.call c_law_evener (by decide) (by first | kernel_rfl | decide +kernel) (SL.cons (SE.sub (SR.gen (f.var (by first | kernel_rfl | decide +kernel))) SE.int (fun _ _ => rfl)) (SL.cons (f.var (by first | kernel_rfl | decide +kernel)) SL.nil (fun _ => rfl)) (fun _ => rfl)) (fun _ => rfl)) (SL.cons (f.var (by first | kernel_rfl | decide +kernel)) (SL.cons (f.var (by first | kernel_rfl | decide +kernel)) (SL.cons (f.var (by first | kernel_rfl | decide +kernel)) SL.nil (fun _ => rfl)) (fun _ => rfl)) (fun _ => rfl)) (fun _ => rfl)) (by decide))) (fun _ => rfl))
 ((SSs.cons (f.scomp (names' := ["row", "longest"]) (fm := [(1, 3)]) (by first | kernel_rfl | decide +kernel) (by first | kernel_rfl | decide +kernel) (SI.list f.ok (f.var (by first | kernel_rfl | decide +kernel))) (TgT.one (i := 0)) (by first | kernel_rfl | decide +kernel) rfl (fun _ f' => SCt.nil) (fun _ f' => (f'.call c_law_told (by decide) (by first | kernel_rfl | decide +kernel) (SL.cons (f'.var (by first | kernel_rfl | decide +kernel)) (SL.cons (f'.var (by first | kernel_rfl | decide +kernel)) SL.nil (fun _ => rfl)) (fun _ => rfl)) (fun _ => rfl))) (fun _ _ => rfl) (by rfl))
 ((SSs.cons (f.scomp (names' := ["row", "told"]) (fm := []) (by first | kernel_rfl | decide +kernel) (by first | kernel_rfl | decide +kernel) (f.izip (by first | kernel_rfl | decide +kernel) (SL.cons (f.var (by first | kernel_rfl | decide +kernel)) (SL.cons (f.var (by first | kernel_rfl | decide +kernel)) SL.nil (fun _ => rfl)) (fun _ => rfl)) (fun _ => rfl) (fun _ _ => rfl)) (TgT.two (TgE.cons (i := 0) (TgE.cons (i := 1) TgE.nil)) rfl) (by first | kernel_rfl | decide +kernel) rfl (fun _ f' => SCt.nil) (fun _ f' => (f'.call c_total_bits (by decide) (by first | kernel_rfl | decide +kernel) (SL.cons (f'.var (by first | kernel_rfl | decide +kernel)) (SL.cons (f'.var (by first | kernel_rfl | decide +kernel)) SL.nil (fun _ => rfl)) (fun _ => rfl)) (fun _ => rfl))) (fun _ _ => rfl) (by rfl))
 ((SSs.cons (SS.ite (Fk.tcmp f.ne (f.comp (names' := ["row", "total", "longest"]) (fm := [(2, 3)]) (by first | kernel_rfl | decide +kernel) (f.izip (by first | kernel_rfl | decide +kernel) (SL.cons (f.var (by first | kernel_rfl | decide +kernel)) (SL.cons (f.var (by first | kernel_rfl | decide +kernel)) SL.nil (fun _ => rfl)) (fun _ => rfl)) (fun _ => rfl) (fun _ _ => rfl)) (TgT.two (TgE.cons (i := 0) (TgE.cons (i := 1) TgE.nil)) rfl) (by first | kernel_rfl | decide +kernel) rfl (fun _ f' => (SCt.one (ST.not (ST.plain (f'.call c_law_row_right (by decide) (by first | kernel_rfl | decide +kernel) (SL.cons (f'.var (by first | kernel_rfl | decide +kernel)) (SL.cons (f'.var (by first | kernel_rfl | decide +kernel)) (SL.cons (f'.var (by first | kernel_rfl | decide +kernel)) SL.nil (fun _ => rfl)) (fun _ => rfl)) (fun _ => rfl)) (fun _ => rfl)) (fun _ => rfl))))) (fun _ f' => (f'.var (by first | kernel_rfl | decide +kernel))) (fun _ _ => rfl)) (SE.list SL.nil (by decide)) rfl) ((SSs.cons (SS.ret SE.bool)
 (SSs.nil))) (SSs.nil))
 ((SSs.cons (f.for_ (f.ienum (by first | kernel_rfl | decide +kernel) (f.var (by first | kernel_rfl | decide +kernel)) (fun _ => rfl)) (TgT.two (TgE.cons (i := 11) (TgE.cons (i := 12) TgE.nil)) rfl) (by first | kernel_rfl | decide +kernel) rfl ((SSs.cons (SS.ite (ST.not (ST.plain (f.call c_law_move_right (by decide) (by first | kernel_rfl | decide +kernel) (SL.cons (SE.sub (SR.gen (f.var (by first | kernel_rfl | decide +kernel))) (f.add (f.var (by first | kernel_rfl | decide +kernel)) SE.int) (fun _ _ => rfl)) (SL.cons (f.var (by first | kernel_rfl | decide +kernel)) (SL.cons (SE.run (SR.gen (f.var (by first | kernel_rfl | decide +kernel))) (f.var (by first | kernel_rfl | decide +kernel)) (f.add (f.var (by first | kernel_rfl | decide +kernel)) SE.int)) (SL.cons (f.sub (SE.sub (SR.gen (f.var (by first | kernel_rfl | decide +kernel))) (f.var (by first | kernel_rfl | decide +kernel)) (fun _ _ => rfl)) (SE.sub (SR.gen (f.var (by first | kernel_rfl | decide +kernel))) (f.add (f.var (by first | kernel_rfl | decide +kernel)) SE.int) (fun _ _ => rfl))) SL.nil (fun _ => rfl)) (fun _ => rfl)) (fun _ => rfl)) (fun _ => rfl)) (fun _ => rfl)) (fun _ => rfl))) ((SSs.cons (SS.ret SE.bool)
 (SSs.nil))) (SSs.nil))
 (SSs.nil))) (fun _ _ => rfl))
 ((SSs.cons (f.unp (TgE.cons (i := 13) (TgE.cons (i := 14) (TgE.cons (i := 15) (TgE.cons (i := 16) TgE.nil)))) (by first | kernel_rfl | decide +kernel) rfl (SE.from (SR.gen (f.var (by first | kernel_rfl | decide +kernel))) (f.len (by first | kernel_rfl | decide +kernel) (SR.gen (f.var (by first | kernel_rfl | decide +kernel))) (fun _ => rfl))) (fun _ => rfl) (fun _ => rfl))
 ((SSs.cons (SS.ite (Fk.tcmp f.ne (f.var (by first | kernel_rfl | decide +kernel)) (f.call c_law_fewest (by decide) (by first | kernel_rfl | decide +kernel) (SL.cons (f.var (by first | kernel_rfl | decide +kernel)) (SL.cons (f.var (by first | kernel_rfl | decide +kernel)) (SL.cons (SE.ite (Fk.tcmp f.gt (f.var (by first | kernel_rfl | decide +kernel)) SE.int rfl) (f.var (by first | kernel_rfl | decide +kernel)) (f.sub (f.var (by first | kernel_rfl | decide +kernel)) SE.int)) SL.nil (fun _ => rfl)) (fun _ => rfl)) (fun _ => rfl)) (fun _ => rfl)) rfl) ((SSs.cons (SS.ret SE.bool)
 (SSs.nil))) (SSs.nil))
 ((SSs.cons (SS.ret (SE.and (Fk.chn f.le f.le (f.var (by first | kernel_rfl | decide +kernel)) (SE.sub (SR.gen (f.var (by first | kernel_rfl | decide +kernel))) SE.int (fun _ _ => rfl)) (f.var (by first | kernel_rfl | decide +kernel)) rfl) (SE.bone (Fk.cmp f.ge (f.var (by first | kernel_rfl | decide +kernel)) (f.max2 (by first | kernel_rfl | decide +kernel) (SL.cons (SE.sub (SR.gen (f.var (by first | kernel_rfl | decide +kernel))) SE.int (fun _ _ => rfl)) (SL.cons (f.var (by first | kernel_rfl | decide +kernel)) SL.nil (fun _ => rfl)) (fun _ => rfl)) (fun _ => rfl)) rfl))))
 (SSs.nil))))))))))))))))))))))
theorem cal_law_right {f : Addr} {o : Obj} {pm cd doc : Value} (bs : Base B mg mb) (fb : Free mg) (D0 : Def B mg "_law_right" (argsOf (stAt 25)) (bodyOf (stAt 25)) (scOf (stAt 25)) f o pm cd doc) (c_law_evener : Cal prog w B mg 1 "_law_evener" g_law_evener) (c_law_told : Cal prog w B mg 4 "_law_told" g_law_told) (c_total_bits : Cal prog w B mg 1 "total_bits" g_total_bits) (c_law_row_right : Cal prog w B mg 2 "_law_row_right" g_law_row_right) (c_law_move_right : Cal prog w B mg 1 "_law_move_right" g_law_move_right) (c_law_fewest : Cal prog w B mg 1 "_law_fewest" g_law_fewest) : Cal prog w B mg 5 "_law_right" g_law_right :=
 ⟨f, o, _, fnOK (ps := ["rows", "moves", "other", "longest"]) (locs := ["many", "whole", "even", "steep", "every", "lengths", "totals", "turn", "pair", "wide", "second", "most", "fewest"]) D0 bs.nolimit (fun vs hv => by rcases vs with _ | ⟨a0, _ | ⟨a1, _ | ⟨a2, _ | ⟨a3, _ | ⟨_, _⟩⟩⟩⟩⟩ <;> first | (simp at hv; done) | rfl) rfl (okp (by first | kernel_rfl | decide +kernel)) (by first | kernel_rfl | decide +kernel) rfl rfl rfl (fun fr d => s_law_right (d.fk bs fb (okcs (by first | kernel_rfl | decide +kernel))) c_law_evener c_law_told c_total_bits c_law_row_right c_law_move_right c_law_fewest), D0.m, D0.g, D0.d⟩
theorem s_law (f : Fk prog w B mg mb 6 (scOf (stAt 26)) nm_law [] 1000000 fr) (c_law_box : CalN prog w B mg 1 "_law_box" g_law_box) (c_law_take : CalB prog w B mg 1 "_law_take" g_law_take) (c_law_counts : CalB prog w B mg 2 "_law_counts" g_law_counts) (c_law_moves : CalB prog w B mg 2 "_law_moves" g_law_moves) (c_law_same : Cal prog w B mg 1 "_law_same" g_law_same) (c_law_right : Cal prog w B mg 5 "_law_right" g_law_right) : SSs prog w fr (bodyOf (stAt 26)) f_law :=
 (SSs.cons (f.setO (by first | kernel_rfl | decide +kernel) (by first | kernel_rfl | decide +kernel) (f.callN c_law_box (by decide) (by first | kernel_rfl | decide +kernel) (SL.cons (f.var (by first | kernel_rfl | decide +kernel)) SL.nil (fun _ => rfl)) (fun _ => rfl)) (fun _ => rfl))
 ((SSs.cons (f.set (by first | kernel_rfl | decide +kernel) (f.add SE.int (f.callB c_law_take (by decide) (by first | kernel_rfl | decide +kernel) (by first | kernel_rfl | decide +kernel) (SL.cons (SE.ite (ST.and (Fk.tcmp f.lt (f.len (by first | kernel_rfl | decide +kernel) (SR.gen (f.var (by first | kernel_rfl | decide +kernel))) (fun _ => rfl)) SE.int rfl) (ST.bone (Fk.tcmp f.eq (SE.sub (f.own (by first | kernel_rfl | decide +kernel)) SE.int (fun _ _ => rfl)) SE.int rfl))) SE.int SE.int) SL.nil (fun _ => rfl)))) (fun _ => rfl))
 ((SSs.cons (f.swp (tg := [(3, "counts"), (4, "other")]) (by first | kernel_rfl | decide +kernel) rfl (SX.sh (f.callB c_law_counts (by decide) (by first | kernel_rfl | decide +kernel) (by first | kernel_rfl | decide +kernel) (SL.cons (f.var (by first | kernel_rfl | decide +kernel)) SL.nil (fun _ => rfl))) (SX.sh (f.callB c_law_counts (by decide) (by first | kernel_rfl | decide +kernel) (by first | kernel_rfl | decide +kernel) (SL.cons (f.var (by first | kernel_rfl | decide +kernel)) SL.nil (fun _ => rfl))) SX.nil (fun _ => rfl)) (fun _ => rfl)) rfl (by decide) (Sl.sh (Sl.sh Sl.nil)) (by decide) (fun _ => rfl) (by rfl))
 ((SSs.cons (f.unp (TgE.cons (i := 5) (TgE.cons (i := 6) TgE.nil)) (by first | kernel_rfl | decide +kernel) rfl (f.callB c_law_moves (by decide) (by first | kernel_rfl | decide +kernel) (by first | kernel_rfl | decide +kernel) (SL.cons (f.var (by first | kernel_rfl | decide +kernel)) SL.nil (fun _ => rfl))) (fun _ => rfl) (fun _ => rfl))
 ((SSs.cons (f.set (by first | kernel_rfl | decide +kernel) (f.add (f.call c_law_same (by decide) (by first | kernel_rfl | decide +kernel) (SL.cons (f.var (by first | kernel_rfl | decide +kernel)) SL.nil (fun _ => rfl)) (fun _ => rfl)) (f.callB c_law_take (by decide) (by first | kernel_rfl | decide +kernel) (by first | kernel_rfl | decide +kernel) (SL.cons (f.sub (f.var (by first | kernel_rfl | decide +kernel)) (f.call c_law_same (by decide) (by first | kernel_rfl | decide +kernel) (SL.cons (f.var (by first | kernel_rfl | decide +kernel)) SL.nil (fun _ => rfl)) (fun _ => rfl))) SL.nil (fun _ => rfl)))) (fun _ => rfl))
 ((SSs.cons (SS.ret (SE.and (f.call c_law_right (by decide) (by first | kernel_rfl | decide +kernel) (SL.cons (f.var (by first | kernel_rfl | decide +kernel)) (SL.cons (f.var (by first | kernel_rfl | decide +kernel)) (SL.cons (f.var (by first | kernel_rfl | decide +kernel)) (SL.cons (f.var (by first | kernel_rfl | decide +kernel)) SL.nil (fun _ => rfl)) (fun _ => rfl)) (fun _ => rfl)) (fun _ => rfl)) (fun _ => rfl)) (SE.bone (f.call c_law_right (by decide) (by first | kernel_rfl | decide +kernel) (SL.cons (f.var (by first | kernel_rfl | decide +kernel)) (SL.cons (f.var (by first | kernel_rfl | decide +kernel)) (SL.cons (f.var (by first | kernel_rfl | decide +kernel)) (SL.cons SE.int SL.nil (fun _ => rfl)) (fun _ => rfl)) (fun _ => rfl)) (fun _ => rfl)) (fun _ => rfl)))))
 (SSs.nil))))))))))))
end
end Mine
end

section
open PySem PySem.W PyProof.Rows PySem.Calls
set_option autoImplicit false
namespace Mine
noncomputable def nameOf : Stmt → Str
  | .FunctionDef n .. => n
  | _ => Str.empty
noncomputable def posOf : Stmt → Pos
  | .FunctionDef _ _ _ _ _ _ _ _ _ p => p
  | _ => ⟨0, 0, 0, 0⟩
noncomputable def recAt (k : Nat) : DefRec := ⟨nameOf (stAt k), argsOf (stAt k), bodyOf (stAt k), scOf (stAt k), posOf (stAt k)⟩
noncomputable def ks : List Nat := [4, 5, 6, 7, 8, 9, 10, 11, 12, 14, 15, 16, 17, 18, 19, 20, 21, 22, 23, 24, 25, 26]
noncomputable def recs : List DefRec := ks.map recAt
theorem well_exact {P : Params} {h : Heap} {a : Addr} {ds : List PyData} {vs : List Value} (w1 : Well P h (.ref a) (ofPy (.list ds))) (hL : h.IsList a vs.toArray) : h.get? a = some (lst vs 0) := by
  obtain ⟨o, ho, hc, n, hd⟩ := hL
  generalize hx : ofPy (.list ds) = x at w1
  cases w1 with
  | list e _ =>
    rw [ho] at e
    cases e
    dsimp only at hd
    cases hd
    rw [ho]
  | _ => cases hx


inductive HasDef (B : Heap) (mg : Str → Option Value) (k : Nat) : Prop
  | mk {f : Addr} {o : Obj} {pm cd doc : Value} (d : Def B mg (nameOf (stAt k)) (argsOf (stAt k)) (bodyOf (stAt k)) (scOf (stAt k)) f o pm cd doc) : HasDef B mg k
theorem defAt {view : Program} {loose : List Str} {mean : ExcName → Option Value} {mg mb : Str → Option Value} {B : Heap} (T : Top view loose mean mg mb B) (hrec : recsOf view = recs) {k : Nat} (hk : k ∈ ks) : HasDef B mg k := by
  have hmem : recAt k ∈ recsOf view := by rw [hrec]; exact List.mem_map_of_mem hk
  obtain ⟨a, o, pm, cd, doc, h1, h2, h3, h4⟩ := T.fn (recAt k) hmem
  exact .mk ⟨h1, h2, h3, h4⟩
theorem joinLaw {prog view : Program} {w : World} {loose : List Str} {mean : ExcName → Option Value} {mg mb : Str → Option Value} {s₁ : Shared} (T : Top view loose mean mg mb s₁.heap) (hrec : recsOf view = recs) (fb : Free mg)
    {addr L fa : Addr} {cd : Value} {vs : List Value} {ns : List Int} {h₁ : Heap} {tk : Nat} {m : Str → Option Value} (ho : s₁.heap.get? addr = some (lst vs 0)) (hI : IntsAre vs ns) {A : Around} (hA : Rm A 6) (F : Fr s₁.heap L h₁ m) (hm : m "script" = some (.ref addr))
    (hpure : ∃ σ', f_law (initS [.list (di ns)]) = some (.ret (.bool true), σ')) {Q : Flow → Shared → Prop} {E : Value → Shared → Prop}
    (kk : ∀ h' tk', Kp s₁.heap h' → Q (.ret (.bool true)) { s₁ with heap := h', toks := tk' }) :
    wpAny (model prog w) A (execs (bodyOf (stAt 26)) (envOf "law" (scOf (stAt 26)) L fa cd)) Q E { s₁ with heap := h₁, toks := tk } := by
  have bs : Base s₁.heap mg mb := ⟨T.g, T.b, T.builtins, T.nolimit⟩
  generalize hBB : s₁.heap = B at *
  have c_used_symbols : Cal prog w B mg 1 "used_symbols" g_used_symbols := by
    cases defAt T hrec (k := 4) (by decide) with
    | mk d => exact cal_used_symbols bs fb d 
  have c_total_bits : Cal prog w B mg 1 "total_bits" g_total_bits := by
    cases defAt T hrec (k := 5) (by decide) with
    | mk d => exact cal_total_bits bs fb d 
  have c_placed : Cal prog w B mg 1 "placed" g_placed := by
    cases defAt T hrec (k := 6) (by decide) with
    | mk d => exact cal_placed bs fb d 
  have c_tree_depths : Cal prog w B mg 1 "tree_depths" g_tree_depths := by
    cases defAt T hrec (k := 7) (by decide) with
    | mk d => exact cal_tree_depths bs fb d 
  have c_free_lengths : Cal prog w B mg 2 "free_lengths" g_free_lengths := by
    cases defAt T hrec (k := 8) (by decide) with
    | mk d => exact cal_free_lengths bs fb d c_used_symbols c_placed c_tree_depths
  have c_check_room : Cal prog w B mg 1 "check_room" g_check_room := by
    cases defAt T hrec (k := 9) (by decide) with
    | mk d => exact cal_check_room bs fb d 
  have c_merged : Cal prog w B mg 1 "merged" g_merged := by
    cases defAt T hrec (k := 10) (by decide) with
    | mk d => exact cal_merged bs fb d 
  have c_package_depths : Cal prog w B mg 2 "package_depths" g_package_depths := by
    cases defAt T hrec (k := 11) (by decide) with
    | mk d => exact cal_package_depths bs fb d c_merged
  have c_least_lengths : Cal prog w B mg 3 "least_lengths" g_least_lengths := by
    cases defAt T hrec (k := 12) (by decide) with
    | mk d => exact cal_least_lengths bs fb d c_used_symbols c_check_room c_placed c_package_depths
  have c_law_box : CalN prog w B mg 1 "_law_box" g_law_box := by
    cases defAt T hrec (k := 14) (by decide) with
    | mk d => exact cal_law_box bs fb d 
  have c_law_take : CalB prog w B mg 1 "_law_take" g_law_take := by
    cases defAt T hrec (k := 15) (by decide) with
    | mk d => exact cal_law_take bs fb d 
  have c_law_counts : CalB prog w B mg 2 "_law_counts" g_law_counts := by
    cases defAt T hrec (k := 16) (by decide) with
    | mk d => exact cal_law_counts bs fb d c_law_take
  have c_law_moves : CalB prog w B mg 2 "_law_moves" g_law_moves := by
    cases defAt T hrec (k := 17) (by decide) with
    | mk d => exact cal_law_moves bs fb d c_law_take
  have c_law_same : Cal prog w B mg 1 "_law_same" g_law_same := by
    cases defAt T hrec (k := 18) (by decide) with
    | mk d => exact cal_law_same bs fb d 
  have c_law_near : Cal prog w B mg 1 "_law_near" g_law_near := by
    cases defAt T hrec (k := 19) (by decide) with
    | mk d => exact cal_law_near bs fb d 
  have c_law_fewest : Cal prog w B mg 1 "_law_fewest" g_law_fewest := by
    cases defAt T hrec (k := 20) (by decide) with
    | mk d => exact cal_law_fewest bs fb d 
  have c_law_evener : Cal prog w B mg 1 "_law_evener" g_law_evener := by
    cases defAt T hrec (k := 21) (by decide) with
    | mk d => exact cal_law_evener bs fb d 
  have c_law_told : Cal prog w B mg 4 "_law_told" g_law_told := by
    cases defAt T hrec (k := 22) (by decide) with
    | mk d => exact cal_law_told bs fb d c_least_lengths c_free_lengths
  have c_law_row_right : Cal prog w B mg 2 "_law_row_right" g_law_row_right := by
    cases defAt T hrec (k := 23) (by decide) with
    | mk d => exact cal_law_row_right bs fb d c_law_near c_law_fewest c_law_same
  have c_law_move_right : Cal prog w B mg 1 "_law_move_right" g_law_move_right := by
    cases defAt T hrec (k := 24) (by decide) with
    | mk d => exact cal_law_move_right bs fb d 
  have c_law_right : Cal prog w B mg 5 "_law_right" g_law_right := by
    cases defAt T hrec (k := 25) (by decide) with
    | mk d => exact cal_law_right bs fb d c_law_evener c_law_told c_total_bits c_law_row_right c_law_move_right c_law_fewest
  have hLn : B.get? L = none := by
    cases q : B.get? L with
    | none => rfl
    | some o => exact absurd (Heap.lt_size q) (Nat.not_lt_of_le F.above)
  let fr : Fm := { A := A, env := envOf "law" (scOf (stAt 26)) L fa cd, names := nm_law, entry := B, old := fun _ => True, bx := none, bi := 1000000 }
  have fk : Fk prog w B mg mb 6 (scOf (stAt 26)) nm_law [] 1000000 fr := {
    ok := {
      kind := rfl
      glob := rfl
      blt := rfl
      lnew := hLn
      capart := fun x y c hx => by cases hx
      cloc := fun x c hx => by cases hx
      nodup := (by decide +kernel : nm_law.Nodup)
      hh := hA.h }
    bo := ⟨Kp.refl _, fun a ha => by cases ha⟩
    bs := bs
    fb := fb
    r := hA
    names := rfl
    scp := rfl
    stc := fun x hx => by cases hx
    bi := rfl
    kind := rfl }
  obtain ⟨σ', hp⟩ := hpure
  have hlt : ∀ b o, B.get? b = some o → b ≠ L := fun b o e hb => by rw [hb, hLn] at e; cases e
  refine s_law fk c_law_box c_law_take c_law_counts c_law_moves c_law_same c_law_right (initS [.list (di ns)]) _ σ' hp ⟨fun _ => 0, []⟩ _ _ _ ?_ fun f' α' h' t' a' I' st' ok' => ?_
  · refine ⟨⟨m, F.ns⟩, fun x c hc => (by cases hc), fun b o _ e => F.keep b o e, fun a ha => (by cases ha), fun j x hx d hd => ?_, fun j x hx l hl => ?_, fun j l hl => ?_, fun b hb => (by cases hb), fun i j l l' hi => ?_⟩
    · cases j with
      | zero =>
        cases hd
        have hxs : x = "script" := by
          have : nm_law[0]? = some x := hx
          exact (Option.some.inj this).symm
        subst hxs
        refine ⟨.ref addr, .inl ⟨(by decide +kernel : (scOf (stAt 26)).names.lookup ("script" : Str) = some NameKind.local), m, F.ns, hm⟩, .list (n := 0) ⟨.inl trivial, hlt _ _ ho, fun x c hc => (by cases hc), fun i l hl => ?_, fun hb => by cases hb⟩ (F.keep _ _ ho) (rep_ints hI)⟩
        simp only [initS] at hl
        split at hl <;> cases hl
      | succ j =>
        simp only [initS] at hd
        simp at hd
    · simp only [initS] at hl
      split at hl <;> cases hl
    · simp only [initS] at hl
      split at hl <;> cases hl
    · simp only [initS] at hi
      split at hi <;> cases hi
  · have hkeep : Kp B h' := fun b o e => I'.keep b o (fun q => by cases q) e
    cases f' with
    | ret v =>
      cases rep_bool ok'
      exact kk h' t' hkeep
    | _ => exact ok'.elim

end Mine
end

section
open PySem PySem.W PyProof.Rows
set_option autoImplicit false
namespace Mine
theorem post_true (args : List WData) : PySem.Challenge.rw_xm0988_01.row.claim.post args (.bool true) args = true := by
  with_unfolding_all rfl
theorem caller_rm (env : Env) : Rm (callerA.deeper env) 6 := ⟨rfl, by show callerA.depth + 1 + 6 < recursionLimit; decide +kernel, by show callerA.units + 3 + 4 * 6 + 64 < cLine; decide +kernel⟩
theorem free_of {view : Program} {loose : List Str} {mean : ExcName → Option Value} {mg mb : Str → Option Value} {h : Heap} (T : Top view loose mean mg mb h)
    (hc : (bnames.all fun x => !startupNames.contains x && !loose.contains x && !((recsOf view).map (·.name)).contains x && !((litsOf view).map (·.1)).contains x && !((clssOf view loose).map (·.name)).contains x) = true) : Free mg := ⟨fun x hx => by
  have := List.all_eq_true.mp hc x hx
  simp only [Bool.and_eq_true, Bool.not_eq_true', ← Bool.not_eq_true, List.contains_iff_mem] at this
  obtain ⟨⟨⟨⟨h1, h2⟩, h3⟩, h4⟩, h5⟩ := this
  exact T.free x h1 h2 h3 h4 h5⟩
/-- the statements that the run leans on: the classes and the defs -/
noncomputable def view : Program := { PySem.Challenge.pw_xm0988_01 with main := { PySem.Challenge.pw_xm0988_01.main with body := ([1, 2] ++ ks).map stAt } }
/-- the law's text is well said: a look of its own, so that the kernel lets go of it before the next -/
theorem said : PySem.Challenge.rw_xm0988_01.wellSaid = true := by kernel_rfl
/-- the top's run -/
theorem left : LeftO PySem.Challenge.rw_xm0988_01.row.prog view [Str.ofString "PressError"] (fun s => xlAt view [] s && recOk (RowW.records (OpenRow.toRowW PySem.Challenge.rw_xm0988_01.row)) s) (fun _ => ()) (fun _ => ()) 2392 := fun w => by kernel_rfl
end Mine
end

section
set_option autoImplicit false
namespace Mine

/-! ### codes by their lengths: cost, room -/
noncomputable def dot : List Int → List Nat → Int
  | w :: ws, l :: ls => w * (l : Int) + dot ws ls
  | _, _ => 0
noncomputable def kr : List Nat → Nat
  | [] => 0
  | l :: ls => 2 ^ (8 - l) + kr ls
structure Va (L : Nat) (l : List Nat) : Prop where
  le : ∀ x ∈ l, x ≤ L
  k : kr l ≤ 256

noncomputable def pull (c : Nat) : List Nat → Nat × List Nat
  | [] => (c, [])
  | y :: l => ((pull (max c y) l).1, min c y :: (pull (max c y) l).2)

theorem pull_len (l : List Nat) : ∀ c, (pull c l).2.length = l.length := by
  induction l with
  | nil => intro c; rfl
  | cons y l ih => intro c; simp [pull, ih]
theorem maxmin (c y : Nat) : (max c y = c ∧ min c y = y) ∨ (max c y = y ∧ min c y = c) := by (first | lia | omega)
theorem pull_kr (l : List Nat) : ∀ c, 2 ^ (8 - (pull c l).1) + kr (pull c l).2 = 2 ^ (8 - c) + kr l := by
  induction l with
  | nil => intro c; rfl
  | cons y l ih =>
    intro c
    have := ih (max c y)
    simp only [pull, kr]
    rcases maxmin c y with ⟨h1, h2⟩ | ⟨h1, h2⟩ <;> rw [h1] at this ⊢ <;> rw [h2] <;> (first | lia | omega)
theorem pull_le (l : List Nat) : ∀ c, c ≤ (pull c l).1 ∧ ∀ x ∈ (pull c l).2, x ≤ (pull c l).1 := by
  induction l with
  | nil => intro c; exact ⟨Nat.le_refl _, fun x hx => by cases hx⟩
  | cons y l ih =>
    intro c
    obtain ⟨h1, h2⟩ := ih (max c y)
    simp only [pull]
    refine ⟨by (first | lia | omega), fun x hx => ?_⟩
    rcases List.mem_cons.mp hx with rfl | hx
    · (first | lia | omega)
    · exact h2 x hx
theorem pull_bd {B : Nat} (l : List Nat) : ∀ c, c ≤ B → (∀ x ∈ l, x ≤ B) → (pull c l).1 ≤ B ∧ ∀ x ∈ (pull c l).2, x ≤ B := by
  induction l with
  | nil => intro c hc _; exact ⟨hc, fun x hx => by cases hx⟩
  | cons y l ih =>
    intro c hc hl
    have hy := hl y List.mem_cons_self
    obtain ⟨h1, h2⟩ := ih (max c y) (by (first | lia | omega)) fun x hx => hl x (List.mem_cons_of_mem _ hx)
    simp only [pull]
    refine ⟨h1, fun x hx => ?_⟩
    rcases List.mem_cons.mp hx with rfl | hx
    · (first | lia | omega)
    · exact h2 x hx
theorem mul_le_of {a b : Int} {k : Nat} (h : a ≤ b) : a * (k : Int) ≤ b * (k : Int) := Int.mul_le_mul_of_nonneg_right h (Int.natCast_nonneg k)
theorem exch {a v : Int} {c y : Nat} (h : a ≤ v) (hcy : c ≤ y) : a * (y : Int) + v * (c : Int) ≤ a * (c : Int) + v * (y : Int) := by
  obtain ⟨k, rfl⟩ : ∃ k, y = c + k := ⟨y - c, by (first | lia | omega)⟩
  have := mul_le_of (k := k) h
  push_cast
  rw [Int.mul_add, Int.mul_add]
  (first | lia | omega)
theorem pull_dot {a : Int} (l : List Nat) : ∀ (W : List Int) (c : Nat), (∀ v ∈ W, a ≤ v) → W.length = l.length → a * ((pull c l).1 : Int) + dot W (pull c l).2 ≤ a * (c : Int) + dot W l := by
  induction l with
  | nil => intro W c _ hl; cases W <;> simp [pull, dot]
  | cons y l ih =>
    intro W c hW hl
    cases W with
    | nil => simp at hl
    | cons v W =>
      have hv := hW v List.mem_cons_self
      have := ih W (max c y) (fun x hx => hW x (List.mem_cons_of_mem _ hx)) (by simpa using hl)
      simp only [pull, dot]
      rcases maxmin c y with ⟨h1, h2⟩ | ⟨h1, h2⟩
      · rw [h1] at this ⊢; rw [h2]; (first | lia | omega)
      · rw [h1] at this ⊢; rw [h2]
        have := exch hv (show c ≤ y by (first | lia | omega))
        (first | lia | omega)

theorem kr_div {m : Nat} (hm : m ≤ 8) (l : List Nat) (h : ∀ x ∈ l, x < m) : ∃ t, kr l = 2 * 2 ^ (8 - m) * t := by
  induction l with
  | nil => exact ⟨0, rfl⟩
  | cons x l ih =>
    obtain ⟨t, ht⟩ := ih fun y hy => h y (List.mem_cons_of_mem _ hy)
    have hx := h x List.mem_cons_self
    refine ⟨2 ^ (m - 1 - x) + t, ?_⟩
    have e : 2 ^ (8 - x) = 2 * 2 ^ (8 - m) * 2 ^ (m - 1 - x) := by
      rw [Nat.mul_comm 2, ← Nat.pow_succ, ← Nat.pow_add]
      congr 1; (first | lia | omega)
    simp only [kr]
    rw [ht, e, Nat.mul_add]
theorem top_down {m : Nat} {l : List Nat} (hm : m ≤ 8) (h1 : 1 ≤ m) (h : ∀ x ∈ l, x < m) (hk : kr (m :: l) ≤ 256) : kr ((m - 1) :: l) ≤ 256 := by
  obtain ⟨t, ht⟩ := kr_div hm l h
  simp only [kr] at hk ⊢
  rw [ht] at hk ⊢
  have e1 : (256 : Nat) = 2 * 2 ^ (8 - m) * 2 ^ (m - 1) := by
    rw [Nat.mul_comm 2, ← Nat.pow_succ, ← Nat.pow_add]
    have : (8 - m).succ + (m - 1) = 8 := by (first | lia | omega)
    rw [this]
  have e2 : 2 ^ (8 - (m - 1)) = 2 * 2 ^ (8 - m) := by
    rw [Nat.mul_comm 2, ← Nat.pow_succ]; congr 1; (first | lia | omega)
  rw [e2]
  have hq : 0 < 2 ^ (8 - m) := Nat.pow_pos (by decide)
  generalize 2 ^ (8 - m) = q at *
  generalize 2 ^ (m - 1) = r at *
  have h3 : t < r := by
    by_cases c : t < r
    · exact c
    · have : 2 * q * r ≤ 2 * q * t := Nat.mul_le_mul_left _ (by (first | lia | omega))
      (first | lia | omega)
  have : 2 * q * (t + 1) ≤ 2 * q * r := Nat.mul_le_mul_left _ h3
  rw [Nat.mul_add, Nat.mul_one] at this
  (first | lia | omega)
theorem even_top {m2 : Nat} {l : List Nat} (hl : ∀ x ∈ l, x ≤ m2) : ∀ g, m2 + g ≤ 8 → kr ((m2 + g) :: m2 :: l) ≤ 256 → kr (m2 :: m2 :: l) ≤ 256 := by
  intro g
  induction g with
  | zero => intro _ h; exact h
  | succ g ih =>
    intro hg h
    refine ih (by (first | lia | omega)) ?_
    have := top_down (m := m2 + (g + 1)) (l := m2 :: l) hg (by (first | lia | omega)) (fun x hx => by
      rcases List.mem_cons.mp hx with rfl | hx
      · (first | lia | omega)
      · have := hl x hx; (first | lia | omega)) h
    have e : m2 + (g + 1) - 1 = m2 + g := by (first | lia | omega)
    rwa [e] at this

structure Opt (W : List Int) (D : List Nat) : Prop where
  len : D.length = W.length
  k : kr D ≤ 256
  d : ∀ x ∈ D, x + 1 ≤ D.length
  opt : ∀ l, l.length = W.length → Va 8 l → dot W D ≤ dot W l

theorem opt_one {w : Int} (h : 0 ≤ w) : Opt [w] [0] where
  len := rfl
  k := by decide
  d := fun x hx => by simp at hx; subst hx; simp
  opt := fun l hl _ => by
    match l, hl with
    | [x], _ =>
      simp only [dot]
      have := mul_le_of (k := x) h
      (first | lia | omega)

theorem opt_step {a b : Int} {W : List Int} {k : Nat} {d : List Nat} (h : Opt ((a + b) :: W) (k :: d)) (h0 : 0 ≤ a) (hab : a ≤ b) (hW : ∀ v ∈ W, b ≤ v) (hn : W.length + 2 ≤ 9) : Opt (a :: b :: W) ((k + 1) :: (k + 1) :: d) := by
  have hlen : d.length = W.length := by have := h.len; simpa using this
  have hk1 : k + 1 ≤ d.length + 1 := by simpa using h.d k List.mem_cons_self
  refine ⟨by simp [hlen], ?_, fun x hx => ?_, fun l hl hv => ?_⟩
  · have := h.k
    simp only [kr] at this ⊢
    have e : 2 ^ (8 - k) = 2 ^ (8 - (k + 1)) + 2 ^ (8 - (k + 1)) := by
      have : 8 - k = (8 - (k + 1)) + 1 := by (first | lia | omega)
      rw [this, Nat.pow_succ]; (first | lia | omega)
    (first | lia | omega)
  · simp only [List.mem_cons] at hx
    simp only [List.length_cons]
    rcases hx with rfl | rfl | hx
    · (first | lia | omega)
    · (first | lia | omega)
    · have := h.d x (List.mem_cons_of_mem _ hx)
      simp only [List.length_cons] at this
      (first | lia | omega)
  · match l, hl with
    | x :: y :: ls, hl =>
      have hll : ls.length = W.length := by simpa using hl
      have hx8 := hv.le x List.mem_cons_self
      have hbd : ∀ z ∈ y :: ls, z ≤ 8 := fun z hz => hv.le z (List.mem_cons_of_mem _ hz)
      -- first pull
      obtain ⟨p1, p2⟩ := pull_le (y :: ls) x
      obtain ⟨b1, b2⟩ := pull_bd (B := 8) (y :: ls) x hx8 hbd
      have k1 := pull_kr (y :: ls) x
      have d1 := pull_dot (a := a) (y :: ls) (b :: W) x (fun v hv => by
        rcases List.mem_cons.mp hv with rfl | hv
        · exact hab
        · exact Int.le_trans hab (hW v hv)) (by simp [hll])
      have l1 := pull_len (y :: ls) x
      generalize pull x (y :: ls) = r1 at *
      obtain ⟨m, r⟩ := r1
      match r, l1 with
      | y' :: ls', l1 =>
        dsimp only at p1 p2 b1 b2 k1 d1 l1
        have hll' : ls'.length = W.length := by simp at l1; (first | lia | omega)
        obtain ⟨q1, q2⟩ := pull_le ls' y'
        obtain ⟨c1, c2⟩ := pull_bd (B := m) ls' y' (p2 y' List.mem_cons_self) fun z hz => p2 z (List.mem_cons_of_mem _ hz)
        have k2 := pull_kr ls' y'
        have d2 := pull_dot (a := b) ls' W y' hW hll'.symm
        have l2 := pull_len ls' y'
        generalize pull y' ls' = r2 at *
        obtain ⟨m2, l3⟩ := r2
        dsimp only at q1 q2 c1 c2 k2 d2 l2
        have hkr : kr (m :: m2 :: l3) ≤ 256 := by
          have := hv.k
          simp only [kr] at this k1 k2 ⊢
          (first | lia | omega)
        obtain ⟨g, rfl⟩ : ∃ g, m = m2 + g := ⟨m - m2, by (first | lia | omega)⟩
        have hkr2 := even_top q2 g b1 hkr
        have hm2 : 1 ≤ m2 := by
          by_cases c : m2 = 0
          · subst c; simp only [kr] at hkr2; (first | lia | omega)
          · (first | lia | omega)
        obtain ⟨m3, rfl⟩ : ∃ m3, m2 = m3 + 1 := ⟨m2 - 1, by (first | lia | omega)⟩
        have hval : Va 8 (m3 :: l3) := ⟨fun z hz => by
          rcases List.mem_cons.mp hz with rfl | hz
          · (first | lia | omega)
          · have := q2 z hz; (first | lia | omega), by
          simp only [kr] at hkr2 ⊢
          have e : 2 ^ (8 - m3) = 2 ^ (8 - (m3 + 1)) + 2 ^ (8 - (m3 + 1)) := by
            have : 8 - m3 = (8 - (m3 + 1)) + 1 := by (first | lia | omega)
            rw [this, Nat.pow_succ]; (first | lia | omega)
          (first | lia | omega)⟩
        have hopt := h.opt (m3 :: l3) (by simp [l2, hll']) hval
        simp only [dot] at hopt d1 d2 ⊢
        have hag := Int.mul_nonneg h0 (Int.natCast_nonneg g)
        push_cast at hopt d1 d2 ⊢
        rw [Int.mul_add a, Int.mul_add a] at d1
        rw [Int.mul_add b] at d2
        rw [Int.add_mul, Int.add_mul] at hopt
        rw [Int.mul_add a, Int.mul_add b]
        (first | lia | omega)

theorem kr_perm {l m : List Nat} (h : l.Perm m) : kr l = kr m := by
  induction h with
  | nil => rfl
  | cons x _ ih => simp only [kr, ih]
  | swap x y l => simp only [kr]; (first | lia | omega)
  | trans _ _ h1 h2 => exact h1.trans h2
theorem perm_dot {W W' : List Int} (h : W.Perm W') : ∀ l', l'.length = W'.length → ∃ l, l.length = W.length ∧ l.Perm l' ∧ dot W l = dot W' l' := by
  induction h with
  | nil => intro l' h; exact ⟨l', h, .refl _, rfl⟩
  | cons x _ ih =>
    intro l' h
    match l', h with
    | y :: l', h =>
      obtain ⟨l, h1, h2, h3⟩ := ih l' (by simpa using h)
      exact ⟨y :: l, by simp [h1], h2.cons y, by simp only [dot, h3]⟩
  | swap x y W =>
    intro l' h
    match l', h with
    | a :: b :: l', h => exact ⟨b :: a :: l', by simpa using h, .swap a b l', by simp only [dot]; (first | lia | omega)⟩
  | trans _ _ h1 h2 =>
    intro l' h
    obtain ⟨l, a1, a2, a3⟩ := h2 l' h
    obtain ⟨k, b1, b2, b3⟩ := h1 l a1
    exact ⟨k, b1, b2.trans a2, b3.trans a3⟩
theorem dot_pairs {P P' : List (Int × Nat)} (h : P.Perm P') : dot (P.map (·.1)) (P.map (·.2)) = dot (P'.map (·.1)) (P'.map (·.2)) := by
  induction h with
  | nil => rfl
  | cons x _ ih => simp only [List.map_cons, dot, ih]
  | swap x y l => simp only [List.map_cons, dot]; (first | lia | omega)
  | trans _ _ h1 h2 => exact h1.trans h2
theorem opt_perm {P P' : List (Int × Nat)} (h : P.Perm P') (o : Opt (P'.map (·.1)) (P'.map (·.2))) : Opt (P.map (·.1)) (P.map (·.2)) where
  len := by simp
  k := by rw [kr_perm (h.map _)]; exact o.k
  d := fun x hx => by
    have := o.d x ((h.map _).mem_iff.mp hx)
    simp only [List.length_map] at this ⊢
    rw [h.length_eq]; exact this
  opt := fun l hl hv => by
    rw [dot_pairs h]
    obtain ⟨l', h1, h2, h3⟩ := perm_dot (h.map (·.1)).symm l (by simpa using hl)
    rw [← h3]
    exact o.opt l' h1 ⟨fun x hx => hv.le x (h2.mem_iff.mp hx), by rw [kr_perm h2]; exact hv.k⟩
end Mine
end

section
set_option autoImplicit false
namespace Mine

/-! ### package-merge -/
noncomputable abbrev Asc (l : List Int) : Prop := l.Pairwise (· ≤ ·)
noncomputable def mg : List Int → List Int → List (Int × Bool)
  | [], p => p.map fun y => (y, false)
  | x :: w, p => mgGo x (mg w) p
where
  mgGo (x : Int) (rec : List Int → List (Int × Bool)) : List Int → List (Int × Bool)
  | [] => (x, true) :: rec []
  | y :: p => if x ≤ y then (x, true) :: rec (y :: p) else (y, false) :: mgGo x rec p
theorem mg_nil (p : List Int) : mg [] p = p.map fun y => (y, false) := rfl
theorem mg_r (x : Int) (w : List Int) : mg (x :: w) [] = (x, true) :: mg w [] := rfl
theorem mg_le {x y : Int} {w p : List Int} (h : x ≤ y) : mg (x :: w) (y :: p) = (x, true) :: mg w (y :: p) := by
  show (if x ≤ y then _ else _) = _
  rw [if_pos h]
theorem mg_gt {x y : Int} {w p : List Int} (h : ¬ x ≤ y) : mg (x :: w) (y :: p) = (y, false) :: mg (x :: w) p := by
  show (if x ≤ y then _ else _) = _
  rw [if_neg h]; rfl
theorem mg_nil1 (p : List Int) : (mg [] p).map (·.1) = p := by simp [mg_nil, Function.comp_def]
/-- induction along a merge -/
theorem mg_ind {P : List Int → List Int → Prop} (h0 : ∀ p, P [] p) (h1 : ∀ x w, P w [] → P (x :: w) []) (h2 : ∀ x w y p, x ≤ y → P w (y :: p) → P (x :: w) (y :: p)) (h3 : ∀ x w y p, ¬ x ≤ y → P (x :: w) p → P (x :: w) (y :: p)) : ∀ w p, P w p := by
  intro w
  induction w with
  | nil => exact h0
  | cons x w ih =>
    intro p
    induction p with
    | nil => exact h1 x w (ih [])
    | cons y p ih2 =>
      by_cases c : x ≤ y
      · exact h2 x w y p c (ih _)
      · exact h3 x w y p c ih2

theorem mg_len : ∀ w p, (mg w p).length = w.length + p.length := by
  refine mg_ind (fun p => by simp [mg_nil]) (fun x w ih => ?_) (fun x w y p h ih => ?_) fun x w y p h ih => ?_
  · simp only [mg_r, List.length_cons, ih]; simp
  · rw [mg_le h]; simp only [List.length_cons, ih]; (first | lia | omega)
  · rw [mg_gt h]; simp only [List.length_cons, ih]; (first | lia | omega)
theorem mg_mem : ∀ w p, ∀ z ∈ (mg w p).map (·.1), z ∈ w ∨ z ∈ p := by
  refine mg_ind (fun p z hz => by simp [mg_nil] at hz; exact .inr hz) (fun x w ih z hz => ?_) (fun x w y p h ih z hz => ?_) fun x w y p h ih z hz => ?_
  · rw [mg_r, List.map_cons] at hz
    rcases List.mem_cons.mp hz with rfl | hz
    · exact .inl List.mem_cons_self
    · exact (ih z hz).imp (List.mem_cons_of_mem _) id
  · rw [mg_le h, List.map_cons] at hz
    rcases List.mem_cons.mp hz with rfl | hz
    · exact .inl List.mem_cons_self
    · exact (ih z hz).imp (List.mem_cons_of_mem _) id
  · rw [mg_gt h, List.map_cons] at hz
    rcases List.mem_cons.mp hz with rfl | hz
    · exact .inr List.mem_cons_self
    · exact (ih z hz).imp id (List.mem_cons_of_mem _)
theorem mg_asc : ∀ w p, Asc w → Asc p → Asc ((mg w p).map (·.1)) := by
  refine mg_ind (fun p _ h => by rw [mg_nil1]; exact h) (fun x w ih hw hp => ?_) (fun x w y p h ih hw hp => ?_) fun x w y p h ih hw hp => ?_
  · obtain ⟨a, b⟩ := List.pairwise_cons.mp hw
    rw [mg_r, List.map_cons]
    refine List.pairwise_cons.mpr ⟨fun z hz => ?_, ih b hp⟩
    rcases mg_mem _ _ z hz with q | q
    · exact a z q
    · cases q
  · obtain ⟨a, b⟩ := List.pairwise_cons.mp hw
    rw [mg_le h, List.map_cons]
    refine List.pairwise_cons.mpr ⟨fun z hz => ?_, ih b hp⟩
    rcases mg_mem _ _ z hz with q | q
    · exact a z q
    · rcases List.mem_cons.mp q with rfl | q
      · exact h
      · exact Int.le_trans h ((List.pairwise_cons.mp hp).1 z q)
  · obtain ⟨a, b⟩ := List.pairwise_cons.mp hp
    rw [mg_gt h, List.map_cons]
    refine List.pairwise_cons.mpr ⟨fun z hz => ?_, ih hw b⟩
    have hyx : y ≤ x := by (first | lia | omega)
    rcases mg_mem _ _ z hz with q | q
    · rcases List.mem_cons.mp q with rfl | q
      · exact hyx
      · exact Int.le_trans hyx ((List.pairwise_cons.mp hw).1 z q)
    · exact a z q

/-- the last of the first k of an ascending list is no less than its head -/
theorem take_last {y : Int} {p : List Int} (h : Asc (y :: p)) : ∀ k, k < (y :: p).length → ((y :: p).take k).sum + y ≤ ((y :: p).take (k + 1)).sum := by
  intro k hk
  rw [List.take_succ_eq_append_getElem hk, List.sum_append]
  have hy : y ≤ (y :: p)[k] := by
    rcases List.mem_cons.mp (List.getElem_mem hk) with e | e
    · (first | lia | omega)
    · exact (List.pairwise_cons.mp h).1 _ e
  simp only [List.sum_cons, List.sum_nil]
  (first | lia | omega)
theorem mg_take : ∀ w p, Asc w → Asc p → ∀ a b, a ≤ w.length → b ≤ p.length → (((mg w p).map (·.1)).take (a + b)).sum ≤ (w.take a).sum + (p.take b).sum := by
  refine mg_ind (fun p _ _ a b ha hb => ?_) (fun x w ih hw hp a b ha hb => ?_) (fun x w y p h ih hw hp a b ha hb => ?_) fun x w y p h ih hw hp a b ha hb => ?_
  · have : a = 0 := by simpa using ha
    subst this
    rw [mg_nil1]; simp
  · have : b = 0 := by simpa using hb
    subst this
    cases a with
    | zero => simp
    | succ a =>
      have := ih (List.pairwise_cons.mp hw).2 hp a 0 (by simpa using ha) (Nat.zero_le _)
      rw [mg_r]
      simp only [List.map_cons, Nat.add_zero, List.take_succ_cons, List.sum_cons, List.take_zero, List.sum_nil, Int.add_zero] at this ⊢
      (first | lia | omega)
  · rw [mg_le h]
    have hw' := (List.pairwise_cons.mp hw).2
    cases a with
    | zero =>
      cases b with
      | zero => simp
      | succ b =>
        have := ih hw' hp 0 b (Nat.zero_le _) (by (first | lia | omega))
        have hl := take_last hp b hb
        simp only [Nat.zero_add, List.map_cons, List.take_succ_cons, List.sum_cons, List.take_zero, List.sum_nil, Int.zero_add] at this hl ⊢
        (first | lia | omega)
    | succ a =>
      have := ih hw' hp a b (by simpa using ha) hb
      have e : a + 1 + b = (a + b) + 1 := by (first | lia | omega)
      rw [e]
      simp only [List.map_cons, List.take_succ_cons, List.sum_cons] at this ⊢
      (first | lia | omega)
  · rw [mg_gt h]
    have hp' := (List.pairwise_cons.mp hp).2
    have hyx : y ≤ x := by (first | lia | omega)
    cases b with
    | zero =>
      cases a with
      | zero => simp
      | succ a =>
        have := ih hw hp' a 0 (by (first | lia | omega)) (Nat.zero_le _)
        have hl := take_last hw a ha
        simp only [Nat.add_zero, List.map_cons, List.take_succ_cons, List.sum_cons, List.take_zero, List.sum_nil, Int.add_zero] at this hl ⊢
        (first | lia | omega)
    | succ b =>
      have := ih hw hp' a b ha (by simpa using hb)
      have e : a + (b + 1) = (a + b) + 1 := by (first | lia | omega)
      rw [e]
      simp only [List.map_cons, List.take_succ_cons, List.sum_cons] at this ⊢
      (first | lia | omega)

noncomputable def prs : List Int → List Int
  | a :: b :: r => (a + b) :: prs r
  | _ => []
theorem prs_ind {P : List Int → Prop} (h0 : P []) (h1 : ∀ a, P [a]) (h2 : ∀ a b r, P r → P (a :: b :: r)) : ∀ l, P l
  | [] => h0
  | [a] => h1 a
  | a :: b :: r => h2 a b r (prs_ind h0 h1 h2 r)
theorem prs_len : ∀ l, (prs l).length = l.length / 2 := by
  refine prs_ind rfl (fun a => by simp [prs]) fun a b r ih => ?_
  simp only [prs, List.length_cons, ih]; (first | lia | omega)
theorem prs_take : ∀ l b, 2 * b ≤ l.length → ((prs l).take b).sum = (l.take (2 * b)).sum := by
  refine prs_ind (fun b hb => by simp [prs]) (fun a b hb => ?_) fun x y r ih b hb => ?_
  · have : b = 0 := by simp at hb; (first | lia | omega)
    subst this; rfl
  · cases b with
    | zero => simp
    | succ b =>
      have := ih b (by simp at hb; (first | lia | omega))
      have e : 2 * (b + 1) = 2 * b + 1 + 1 := by (first | lia | omega)
      rw [e]
      simp only [prs, List.take_succ_cons, List.sum_cons] at this ⊢
      (first | lia | omega)
theorem prs_asc : ∀ l, Asc l → Asc (prs l) ∧ ∀ z, (∀ v ∈ l, z ≤ v) → ∀ v ∈ prs l, z + z ≤ v := by
  refine prs_ind (fun _ => ⟨.nil, fun _ _ v hv => by cases hv⟩) (fun a _ => ⟨.nil, fun _ _ v hv => by cases hv⟩) fun a b r ih h => ?_
  obtain ⟨h1, h2⟩ := List.pairwise_cons.mp h
  obtain ⟨h3, h4⟩ := List.pairwise_cons.mp h2
  obtain ⟨i1, i2⟩ := ih h4
  refine ⟨List.pairwise_cons.mpr ⟨fun v hv => ?_, i1⟩, fun z hz v hv => ?_⟩
  · have := i2 b h3 v hv
    have := h1 b List.mem_cons_self
    (first | lia | omega)
  · rcases List.mem_cons.mp hv with rfl | hv
    · have := hz a List.mem_cons_self
      have := hz b (List.mem_cons_of_mem _ List.mem_cons_self)
      (first | lia | omega)
    · exact i2 z (fun v hv => hz v (List.mem_cons_of_mem _ (List.mem_cons_of_mem _ hv))) v hv

noncomputable def row (w : List Int) : Nat → List (Int × Bool)
  | 0 => []
  | t + 1 => mg w (prs ((row w t).map (·.1)))
noncomputable def rw1 (w : List Int) (t : Nat) : List Int := (row w t).map (·.1)
theorem rw1_succ (w : List Int) (t : Nat) : rw1 w (t + 1) = (mg w (prs (rw1 w t))).map (·.1) := rfl
theorem rw1_asc {w : List Int} (h : Asc w) : ∀ t, Asc (rw1 w t)
  | 0 => .nil
  | t + 1 => mg_asc _ _ h (prs_asc _ (rw1_asc h t)).1
theorem rw1_len (w : List Int) (t : Nat) : (rw1 w (t + 1)).length = w.length + (rw1 w t).length / 2 := by
  rw [rw1_succ, List.length_map, mg_len, prs_len]
theorem row_len (w : List Int) (t : Nat) : (row w t).length = (rw1 w t).length := by simp [rw1]

/-- what the lengths l spend, in coins of the last stage's 2^-t -/
noncomputable def vs (t : Nat) : List Nat → Nat
  | [] => 0
  | x :: l => (2 ^ (t + 1) - 2 ^ (t + 1 - x)) + vs t l
noncomputable def pos (l : List Nat) : Nat := (l.filter (0 < ·)).length
noncomputable def pre (l : List Nat) : List Nat := l.map (· - 1)

theorem arith_pre {A B C D : Nat} (h : B ≤ A) : (A * 2 - B) + (C + D) = (C + A) + ((A - B) + D) := by omega
theorem arith_add {A B C D E : Nat} (h : B ≤ A) (ih : C + D ≤ E) : (C + A) + ((A - B) + D) ≤ (A * 2 - B) + E := by omega
theorem arith_zero {A B D E : Nat} (h : B ≤ A) (ih : D ≤ E) : (A - B) + D ≤ (A * 2 - B * 2) + E := by omega
theorem arith_kr {K V R L Z : Nat} (ih : V + 2 * R = L * Z) (h : 2 * K ≤ Z) : (Z - 2 * K) + V + 2 * (K + R) = L * Z + 1 * Z := by omega
theorem vs_pre (t : Nat) : ∀ l, (∀ x ∈ l, x ≤ t + 1) → vs (t + 1) l = pos l * 2 ^ (t + 1) + vs t (pre l)
  | [], _ => by simp [vs, pos, pre]
  | x :: l, h => by
    have ih := vs_pre t l fun y hy => h y (List.mem_cons_of_mem _ hy)
    have hx := h x List.mem_cons_self
    simp only [vs, pre, List.map_cons] at ih ⊢
    cases x with
    | zero =>
      have : pos (0 :: l) = pos l := rfl
      rw [this, ih]; simp
    | succ x =>
      have : pos ((x + 1) :: l) = pos l + 1 := by simp [pos]
      rw [this, ih]
      have e1 : t + 1 + 1 - (x + 1) = t + 1 - x := by (first | lia | omega)
      have e2 : x + 1 - 1 = x := rfl
      rw [e1, e2, Nat.add_mul, Nat.one_mul, Nat.pow_succ 2 (t + 1)]
      exact arith_pre (Nat.pow_le_pow_right (by decide) (Nat.sub_le _ _))
/-- the first leaves cost no more than those chosen -/
theorem pos_le (l : List Nat) : pos l ≤ l.length := List.length_filter_le _ _
theorem dot_pre {w : List Int} (hw : Asc w) : ∀ l, l.length = w.length → (w.take (pos l)).sum + dot w (pre l) ≤ dot w l := by
  intro l hl
  induction w generalizing l with
  | nil =>
    have : l = [] := by simpa using hl
    subst this
    simp [pos, dot]
  | cons v w ih =>
    match l, hl with
    | x :: l, hl =>
      have hl' : l.length = w.length := by simpa using hl
      have ih := ih (List.pairwise_cons.mp hw).2 l hl'
      cases x with
      | zero =>
        have e : pos (0 :: l) = pos l := rfl
        rw [e]
        have hpl : pos l ≤ w.length := by rw [← hl']; exact pos_le l
        have := take_shift hw (pos l) hpl
        simp only [pre, List.map_cons, dot] at ih ⊢
        simp only [Nat.zero_sub, Int.natCast_zero, Int.mul_zero, Int.zero_add]
        (first | lia | omega)
      | succ x =>
        have e : pos ((x + 1) :: l) = pos l + 1 := by simp [pos]
        rw [e]
        simp only [pre, List.map_cons, dot, List.take_succ_cons, List.sum_cons] at ih ⊢
        have : v * ((x + 1 : Nat) : Int) = v * ((x + 1 - 1 : Nat) : Int) + v := by
          simp only [Nat.add_sub_cancel]; push_cast; rw [Int.mul_add]
          try (first | lia | omega)
        (first | lia | omega)
where
  take_shift {v : Int} {w : List Int} (h : Asc (v :: w)) : ∀ k, k ≤ w.length → ((v :: w).take k).sum ≤ (w.take k).sum := by
    intro k
    induction k with
    | zero => intro _; simp
    | succ k ih =>
      intro hk
      have ih := ih (by (first | lia | omega))
      rw [List.take_succ_eq_append_getElem (by simp; (first | lia | omega)), List.take_succ_eq_append_getElem (show k < w.length by (first | assumption | exact Nat.le_trans (by assumption) (by decide) | exact Int.le_trans (by assumption) (by decide) | exact Nat.lt_of_lt_of_le (by assumption) (by assumption) | exact Nat.le_trans (by assumption) (by assumption) | exact Nat.lt_of_lt_of_le (by assumption) (by decide))), List.sum_append, List.sum_append]
      have : (v :: w)[k]'(by simp; (first | lia | omega)) ≤ w[k] := by
        have q := List.pairwise_iff_getElem.mp h k (k + 1) (by simp only [List.length_cons]; (first | lia | omega)) (by simp only [List.length_cons]; (first | lia | omega)) (by (first | lia | omega))
        simpa using q
      simp only [List.sum_cons, List.sum_nil]
      (first | lia | omega)

theorem take_mono {w : List Int} (h : ∀ v ∈ w, 0 ≤ v) {k a : Nat} (hka : k ≤ a) : (w.take k).sum ≤ (w.take a).sum := by
  induction w generalizing k a with
  | nil => simp
  | cons v w ih =>
    have hv := h v List.mem_cons_self
    have hw := fun x hx => h x (List.mem_cons_of_mem _ hx)
    cases a with
    | zero =>
      have : k = 0 := by (first | lia | omega)
      subst this; exact Int.le_refl _
    | succ a =>
      cases k with
      | zero =>
        have := ih hw (Nat.zero_le a)
        simp only [List.take_zero, List.sum_nil, List.take_succ_cons, List.sum_cons] at this ⊢
        (first | lia | omega)
      | succ k =>
        have := ih hw (show k ≤ a by (first | lia | omega))
        simp only [List.take_succ_cons, List.sum_cons]
        (first | lia | omega)

theorem pm_lower {w : List Int} (hw : Asc w) (h0 : ∀ v ∈ w, 0 ≤ v) : ∀ t l k, l.length = w.length → (∀ x ∈ l, x ≤ t) → 2 ^ t * k ≤ vs t l → k ≤ (rw1 w t).length ∧ ((rw1 w t).take k).sum ≤ dot w l := by
  intro t
  induction t with
  | zero =>
    intro l k hl hx hk
    have h0 : ∀ (w : List Int) (l : List Nat), (∀ x ∈ l, x ≤ 0) → vs 0 l = 0 ∧ (l.length = w.length → dot w l = 0) := by
      intro w l
      induction l generalizing w with
      | nil => intro _; exact ⟨rfl, fun h => by cases w <;> simp [dot]⟩
      | cons x l ih =>
        intro h
        have hx : x = 0 := by simpa using h x List.mem_cons_self
        subst hx
        refine ⟨by simp only [vs]; rw [(ih [] fun y hy => h y (List.mem_cons_of_mem _ hy)).1], fun hl => ?_⟩
        cases w with
        | nil => simp at hl
        | cons v w =>
          simp only [dot]
          rw [(ih w fun y hy => h y (List.mem_cons_of_mem _ hy)).2 (by simpa using hl)]
          simp
    obtain ⟨h1, h2⟩ := h0 w l hx
    rw [h1] at hk
    have hk0 : k = 0 := by simpa using hk
    subst hk0
    rw [h2 hl]
    simp
  | succ t ih =>
    intro l k hl hx hk
    rw [vs_pre t l hx] at hk
    have hpl : (pre l).length = w.length := by simp [pre, hl]
    have hpx : ∀ x ∈ pre l, x ≤ t := fun x h => by
      simp only [pre, List.mem_map] at h
      obtain ⟨y, hy, rfl⟩ := h
      have := hx y hy; omega
    have hdot := dot_pre hw l hl
    have ha : pos l ≤ w.length := by rw [← hl]; exact pos_le l
    generalize pos l = a at *
    have hk' : 2 ^ t * (2 * (k - a)) ≤ vs t (pre l) := by
      by_cases c : k ≤ a
      · have : k - a = 0 := by (first | lia | omega)
        rw [this]; (first | lia | omega)
      · obtain ⟨j, rfl⟩ : ∃ j, k = a + j := ⟨k - a, by (first | lia | omega)⟩
        have e : a + j - a = j := by (first | lia | omega)
        rw [e]
        rw [Nat.mul_add, Nat.mul_comm (2 ^ (t + 1)) a] at hk
        have : 2 ^ t * (2 * j) = 2 ^ (t + 1) * j := by rw [Nat.pow_succ, Nat.mul_assoc]
        (first | lia | omega)
    obtain ⟨i1, i2⟩ := ih (pre l) (2 * (k - a)) hpl hpx hk'
    have hb : k - a ≤ (prs (rw1 w t)).length := by rw [prs_len]; (first | lia | omega)
    have ht := prs_take (rw1 w t) (k - a) i1
    rw [rw1_len, rw1_succ]
    rw [prs_len] at hb
    refine ⟨by (first | lia | omega), ?_⟩
    by_cases c : k ≤ a
    · have hm := mg_take w (prs (rw1 w t)) hw (prs_asc _ (rw1_asc hw t)).1 k 0 (by (first | assumption | exact Nat.le_trans (by assumption) (by decide) | exact Int.le_trans (by assumption) (by decide) | exact Nat.lt_of_lt_of_le (by assumption) (by assumption) | exact Nat.le_trans (by assumption) (by assumption) | exact Nat.lt_of_lt_of_le (by assumption) (by decide))) (Nat.zero_le _)
      simp only [Nat.add_zero, List.take_zero, List.sum_nil, Int.add_zero] at hm
      have hz : k - a = 0 := by (first | lia | omega)
      rw [hz] at i2
      simp only [Nat.mul_zero, List.take_zero, List.sum_nil] at i2
      have := take_mono h0 c
      (first | lia | omega)
    · have hm := mg_take w (prs (rw1 w t)) hw (prs_asc _ (rw1_asc hw t)).1 a (k - a) ha (by rw [prs_len]; exact hb)
      have e : a + (k - a) = k := by (first | lia | omega)
      rw [e] at hm
      (first | lia | omega)

/-! the way back -/
noncomputable def tk (r : List (Int × Bool)) (k : Nat) : Nat := ((r.take k).filter (·.2)).length
noncomputable def add1 : Nat → List Nat → List Nat
  | 0, d => d
  | _, [] => []
  | a + 1, x :: d => (x + 1) :: add1 a d
theorem add1_len : ∀ a d, (add1 a d).length = d.length
  | 0, _ => by simp [add1]
  | _ + 1, [] => rfl
  | a + 1, x :: d => by simp [add1, add1_len a d]
noncomputable def dps (w : List Int) : Nat → Nat → List Nat
  | 0, _ => List.replicate w.length 0
  | t + 1, k => add1 (tk (row w (t + 1)) k) (dps w t (2 * (k - tk (row w (t + 1)) k)))
theorem dps_len (w : List Int) : ∀ t k, (dps w t k).length = w.length
  | 0, _ => by simp [dps]
  | t + 1, k => by rw [dps, add1_len, dps_len w t]

theorem mg_split : ∀ w p k, k ≤ w.length + p.length → tk (mg w p) k ≤ w.length ∧ tk (mg w p) k ≤ k ∧ k - tk (mg w p) k ≤ p.length ∧ (((mg w p).map (·.1)).take k).sum = (w.take (tk (mg w p) k)).sum + (p.take (k - tk (mg w p) k)).sum := by
  refine mg_ind (fun p k hk => ?_) (fun x w ih k hk => ?_) (fun x w y p h ih k hk => ?_) fun x w y p h ih k hk => ?_
  · have e : tk (mg [] p) k = 0 := by
      unfold tk
      rw [mg_nil, ← List.map_take, List.filter_map]
      simp [Function.comp_def]
    rw [e, mg_nil1]
    simp at hk ⊢
    exact hk
  · cases k with
    | zero => simp [tk]
    | succ k =>
      obtain ⟨i1, i2, i3, i4⟩ := ih k (by simp at hk ⊢; (first | assumption | exact Nat.le_trans (by assumption) (by decide) | exact Int.le_trans (by assumption) (by decide) | exact Nat.lt_of_lt_of_le (by assumption) (by assumption) | exact Nat.le_trans (by assumption) (by assumption) | exact Nat.lt_of_lt_of_le (by assumption) (by decide)))
      have e : tk (mg (x :: w) []) (k + 1) = tk (mg w []) k + 1 := by simp [tk, mg_r]
      rw [e, mg_r]
      generalize tk (mg w []) k = j at *
      have e2 : k + 1 - (j + 1) = k - j := by (first | lia | omega)
      rw [e2]
      simp only [List.map_cons, List.take_succ_cons, List.sum_cons, List.length_cons] at i4 ⊢
      exact ⟨by (first | lia | omega), by (first | lia | omega), i3, by (first | lia | omega)⟩
  · cases k with
    | zero => simp [tk]
    | succ k =>
      obtain ⟨i1, i2, i3, i4⟩ := ih k (by simp only [List.length_cons] at hk ⊢; (first | lia | omega))
      have e : tk (mg (x :: w) (y :: p)) (k + 1) = tk (mg w (y :: p)) k + 1 := by rw [mg_le h]; simp [tk]
      rw [e, mg_le h]
      generalize tk (mg w (y :: p)) k = j at *
      have e2 : k + 1 - (j + 1) = k - j := by (first | lia | omega)
      rw [e2]
      simp only [List.map_cons, List.take_succ_cons, List.sum_cons, List.length_cons] at i1 i3 i4 ⊢
      exact ⟨by (first | lia | omega), by (first | lia | omega), i3, by (first | lia | omega)⟩
  · cases k with
    | zero => simp [tk]
    | succ k =>
      obtain ⟨i1, i2, i3, i4⟩ := ih k (by simp only [List.length_cons] at hk ⊢; (first | lia | omega))
      have e : tk (mg (x :: w) (y :: p)) (k + 1) = tk (mg (x :: w) p) k := by rw [mg_gt h]; simp [tk]
      rw [e, mg_gt h]
      generalize tk (mg (x :: w) p) k = j at *
      have e2 : k + 1 - j = (k - j) + 1 := by (first | lia | omega)
      rw [e2]
      simp only [List.map_cons, List.take_succ_cons, List.sum_cons, List.length_cons] at i1 i3 i4 ⊢
      exact ⟨i1, by (first | lia | omega), by (first | lia | omega), by (first | lia | omega)⟩

theorem dot_add1 : ∀ (w : List Int) (d : List Nat) a, d.length = w.length → a ≤ w.length → dot w (add1 a d) = (w.take a).sum + dot w d
  | w, d, 0, _, _ => by simp [add1]
  | [], _, a + 1, _, ha => by simp at ha
  | v :: w, [], a + 1, hl, _ => by simp at hl
  | v :: w, x :: d, a + 1, hl, ha => by
    have := dot_add1 w d a (by simpa using hl) (by simpa using ha)
    simp only [add1, dot, List.take_succ_cons, List.sum_cons, this]
    push_cast
    rw [Int.mul_add]
    (first | lia | omega)
theorem dps_dot {w : List Int} (hw : Asc w) : ∀ t k, k ≤ (rw1 w t).length → dot w (dps w t k) = ((rw1 w t).take k).sum
  | 0, k, hk => by
    have : k = 0 := by simpa [rw1, row] using hk
    subst this
    have : ∀ w : List Int, dot w (List.replicate w.length 0) = 0 := by
      intro w
      induction w with
      | nil => rfl
      | cons v w ih => simp only [List.length_cons, List.replicate_succ, dot, ih]; simp
    simp only [dps, this, List.take_zero, List.sum_nil]
  | t + 1, k, hk => by
    rw [rw1_len] at hk
    obtain ⟨i1, i2, i3, i4⟩ := mg_split w (prs (rw1 w t)) k (by rw [prs_len]; exact hk)
    have e : row w (t + 1) = mg w (prs (rw1 w t)) := rfl
    rw [dps, e, rw1_succ, i4]
    generalize tk (mg w (prs (rw1 w t))) k = a at *
    rw [prs_len] at i3
    rw [dot_add1 _ _ _ (dps_len w t _) i1, dps_dot (w := w) hw t (2 * (k - a)) (by (first | lia | omega)), prs_take (rw1 w t) (k - a) (by (first | lia | omega))]
theorem dps_le (w : List Int) : ∀ t k, ∀ x ∈ dps w t k, x ≤ t
  | 0, k, x, hx => by simp [dps, List.mem_replicate] at hx; (first | lia | omega)
  | t + 1, k, x, hx => by
    have key : ∀ a d, (∀ x ∈ d, x ≤ t) → ∀ x ∈ add1 a d, x ≤ t + 1 := by
      intro a d
      induction d generalizing a with
      | nil => intro _ x hx; cases a <;> simp [add1] at hx
      | cons y d ih =>
        intro h x hx
        cases a with
        | zero => have := h x (by simpa [add1] using hx); (first | lia | omega)
        | succ a =>
          simp only [add1] at hx
          rcases List.mem_cons.mp hx with rfl | hx
          · have := h y List.mem_cons_self; (first | lia | omega)
          · exact ih a (fun z hz => h z (List.mem_cons_of_mem _ hz)) x hx
    exact key _ _ (dps_le w t _) x hx
theorem vs_add1 (t : Nat) : ∀ a d, (∀ x ∈ d, x ≤ t) → a ≤ d.length → a * 2 ^ (t + 1) + vs t d ≤ vs (t + 1) (add1 a d)
  | 0, d, hd, _ => by
    simp only [add1, Nat.zero_mul, Nat.zero_add]
    induction d with
    | nil => simp [vs]
    | cons x d ih =>
      have := ih (fun z hz => hd z (List.mem_cons_of_mem _ hz)) (Nat.zero_le _)
      have hx := hd x List.mem_cons_self
      simp only [vs]
      have e : t + 1 + 1 - x = (t + 1 - x) + 1 := by (first | lia | omega)
      rw [e, Nat.pow_succ 2 (t + 1 - x), Nat.pow_succ 2 (t + 1)]
      exact arith_zero (Nat.pow_le_pow_right (by decide) (Nat.sub_le _ _)) this
  | a + 1, [], _, ha => by simp at ha
  | a + 1, x :: d, hd, ha => by
    have ih := vs_add1 t a d (fun z hz => hd z (List.mem_cons_of_mem _ hz)) (by simpa using ha)
    have hx := hd x List.mem_cons_self
    simp only [add1, vs]
    have e : t + 1 + 1 - (x + 1) = t + 1 - x := by (first | lia | omega)
    rw [e, Nat.add_mul, Nat.one_mul, Nat.pow_succ 2 (t + 1)]
    exact arith_add (Nat.pow_le_pow_right (by decide) (Nat.sub_le _ _)) ih
theorem dps_vs {w : List Int} : ∀ t k, k ≤ (rw1 w t).length → 2 ^ t * k ≤ vs t (dps w t k)
  | 0, k, hk => by
    have : k = 0 := by simpa [rw1, row] using hk
    subst this; simp
  | t + 1, k, hk => by
    rw [rw1_len] at hk
    obtain ⟨i1, i2, i3, i4⟩ := mg_split w (prs (rw1 w t)) k (by rw [prs_len]; exact hk)
    have e : row w (t + 1) = mg w (prs (rw1 w t)) := rfl
    rw [dps, e]
    generalize tk (mg w (prs (rw1 w t))) k = a at *
    rw [prs_len] at i3
    have h1 := dps_vs (w := w) t (2 * (k - a)) (by (first | lia | omega))
    have h2 := vs_add1 t a (dps w t (2 * (k - a))) (dps_le w t _) (by rw [dps_len]; exact i1)
    have e3 : 2 ^ (t + 1) * k = a * 2 ^ (t + 1) + 2 ^ t * (2 * (k - a)) := by
      obtain ⟨j, rfl⟩ : ∃ j, k = a + j := ⟨k - a, by (first | lia | omega)⟩
      have e4 : a + j - a = j := by (first | lia | omega)
      rw [e4, Nat.mul_add, Nat.mul_comm (2 ^ (t + 1)) a, Nat.pow_succ, Nat.mul_assoc (2 ^ t) 2 j]
    (first | lia | omega)

/-- room told by the coins spent -/
theorem vs_kr {t : Nat} (ht : t ≤ 8) : ∀ l, (∀ x ∈ l, x ≤ t) → 2 ^ (8 - t) * vs t l + 2 * kr l = l.length * 2 ^ 9
  | [], _ => by simp [vs, kr]
  | x :: l, h => by
    have ih := vs_kr ht l fun y hy => h y (List.mem_cons_of_mem _ hy)
    have hx := h x List.mem_cons_self
    simp only [vs, kr, List.length_cons]
    have e1 : 2 ^ (8 - t) * 2 ^ (t + 1) = 2 ^ 9 := by rw [← Nat.pow_add, ← Nat.add_assoc, Nat.sub_add_cancel ht]
    have e2 : 2 ^ (8 - t) * 2 ^ (t + 1 - x) = 2 * 2 ^ (8 - x) := by
      rw [← Nat.pow_add, Nat.mul_comm 2, ← Nat.pow_succ]; congr 1; (first | lia | omega)
    have hle : 2 ^ (t + 1 - x) ≤ 2 ^ (t + 1) := Nat.pow_le_pow_right (by decide) (Nat.sub_le _ _)
    have e3 : 2 ^ (8 - t) * (2 ^ (t + 1) - 2 ^ (t + 1 - x)) = 2 ^ 9 - 2 * 2 ^ (8 - x) := by rw [Nat.mul_sub, e1, e2]
    have hle2 : 2 * 2 ^ (8 - x) ≤ 2 ^ 9 := by rw [← e1, ← e2]; exact Nat.mul_le_mul_left _ hle
    rw [Nat.mul_add, Nat.add_mul, e3]
    exact arith_kr ih hle2
theorem kr_iff {t : Nat} (ht : t ≤ 8) {l : List Nat} (h : ∀ x ∈ l, x ≤ t) (hl : 1 ≤ l.length) : kr l ≤ 256 ↔ 2 ^ t * (2 * l.length - 2) ≤ vs t l := by
  have e := vs_kr ht l h
  have hp : 0 < 2 ^ (8 - t) := Nat.pow_pos (by decide)
  have e2 : 2 ^ (8 - t) * (2 ^ t * (2 * l.length - 2)) = 256 * (2 * l.length - 2) := by
    rw [← Nat.mul_assoc, ← Nat.pow_add]
    have : 8 - t + t = 8 := by (first | lia | omega)
    rw [this]
  constructor
  · intro hk
    refine Nat.le_of_mul_le_mul_left ?_ hp
    rw [e2]; (first | lia | omega)
  · intro hv
    have := Nat.mul_le_mul_left (2 ^ (8 - t)) hv
    rw [e2] at this
    (first | lia | omega)

structure OptL (L : Nat) (W : List Int) (D : List Nat) : Prop where
  len : D.length = W.length
  va : Va L D
  opt : ∀ l, l.length = W.length → Va L l → dot W D ≤ dot W l

theorem pm_opt {w : List Int} (hw : Asc w) (h0 : ∀ v ∈ w, 0 ≤ v) {L : Nat} (hL : L ≤ 8) (h1 : 1 ≤ w.length) (hn : w.length ≤ 2 ^ L) : OptL L w (dps w L (2 * w.length - 2)) ∧ 2 * w.length - 2 ≤ (rw1 w L).length := by
  have hr := (kr_iff hL (l := List.replicate w.length L) (fun x hx => by rw [(List.mem_replicate.mp hx).2]; exact Nat.le_refl _) (by simpa using h1)).mp (by
    have : ∀ n, kr (List.replicate n L) = n * 2 ^ (8 - L) := by
      intro n
      induction n with
      | zero => simp [kr]
      | succ n ih => rw [List.replicate_succ, kr, ih, Nat.add_mul]; (first | lia | omega)
    rw [this]
    have e : 2 ^ L * 2 ^ (8 - L) = 256 := by rw [← Nat.pow_add]; have : L + (8 - L) = 8 := by (first | lia | omega)
                                             rw [this]
    have := Nat.mul_le_mul_right (2 ^ (8 - L)) hn
    (first | lia | omega))
  rw [List.length_replicate] at hr
  have hlen := (pm_lower hw h0 L _ _ (by simp) (fun x hx => by rw [(List.mem_replicate.mp hx).2]; exact Nat.le_refl _) hr).1
  refine ⟨⟨dps_len _ _ _, ⟨dps_le w L _, ?_⟩, fun l hl hv => ?_⟩, hlen⟩
  · have := dps_vs L (2 * w.length - 2) hlen
    exact (kr_iff hL (dps_le w L _) (by rw [dps_len]; exact h1)).mpr (by rw [dps_len]; exact this)
  · rw [dps_dot hw L _ hlen]
    have := (kr_iff hL hv.le (by rw [hl]; exact h1)).mp hv.k
    rw [hl] at this
    exact (pm_lower hw h0 L l _ hl hv.le this).2
theorem Opt.toL {W : List Int} {D : List Nat} (h : Opt W D) (hn : W.length ≤ 9) {L : Nat} (hL : L + 1 = W.length) : OptL L W D where
  len := h.len
  va := ⟨fun x hx => by have := h.d x hx; rw [h.len] at this; (first | lia | omega), h.k⟩
  opt := fun l hl hv => h.opt l hl ⟨fun x hx => by have := hv.le x hx; (first | lia | omega), hv.k⟩
end Mine
end

section
set_option autoImplicit false
namespace Mine

/-! ### Huffman's tree by two queues -/
structure TS where
  ws : List Int
  par : List Nat
  leaf : Nat
  joined : Nat
noncomputable def TS.pickLeaf (n made : Nat) (s : TS) : Bool := decide (s.leaf < n) && (decide (made ≤ s.joined) || decide (s.ws.getD s.leaf 0 ≤ s.ws.getD s.joined 0))
noncomputable def TS.next (n made : Nat) (s : TS) : Nat := if s.pickLeaf n made then s.leaf else s.joined
/-- one side: the least head is taken, its parent told -/
noncomputable def TS.side (n made : Nat) (s : TS) : TS :=
  if s.pickLeaf n made then { s with leaf := s.leaf + 1, par := s.par.set s.leaf made } else { s with joined := s.joined + 1, par := s.par.set s.joined made }
noncomputable def TS.step (n made : Nat) (s : TS) : TS :=
  let s1 := s.side n made
  let s2 := s1.side n made
  { s2 with ws := s.ws ++ [s.ws.getD (s.next n made) 0 + s.ws.getD (s1.next n made) 0] }
noncomputable def TS.run (n : Nat) : Nat → Nat → TS → TS
  | 0, _, s => s
  | m + 1, made, s => TS.run n m (made + 1) (s.step n made)
noncomputable def TS.act (n made : Nat) (s : TS) : List Nat := List.range' s.leaf (n - s.leaf) ++ List.range' s.joined (made - s.joined)
noncomputable def TS.w (s : TS) (i : Nat) : Int := s.ws.getD i 0

structure TInv (n made : Nat) (lo : Int) (s : TS) : Prop where
  len : s.ws.length = made
  plen : s.par.length = 2 * n - 1
  l1 : s.leaf ≤ n
  l2 : n ≤ s.joined
  l3 : s.joined ≤ made
  lasc : ∀ i j, i ≤ j → j < n → s.w i ≤ s.w j
  jasc : ∀ i j, n ≤ i → i ≤ j → j < made → s.w i ≤ s.w j
  lo0 : 0 ≤ lo
  lo1 : ∀ i ∈ s.act n made, lo ≤ s.w i
  lo2 : ∀ i, n ≤ i → i < made → s.w i ≤ 2 * lo

theorem mem_act {n made : Nat} {s : TS} {i : Nat} : i ∈ s.act n made ↔ (s.leaf ≤ i ∧ i < n) ∨ (s.joined ≤ i ∧ i < made) := by
  unfold TS.act
  rw [List.mem_append, List.mem_range'_1, List.mem_range'_1]
  constructor
  · rintro (h | h)
    · exact .inl ⟨h.1, by (first | lia | omega)⟩
    · exact .inr ⟨h.1, by (first | lia | omega)⟩
  · rintro (h | h)
    · exact .inl ⟨h.1, by (first | lia | omega)⟩
    · exact .inr ⟨h.1, by (first | lia | omega)⟩

theorem side_act {n made : Nat} {s : TS} (h1 : s.leaf ≤ n) (h2 : s.joined ≤ made) (hc : 1 ≤ (n - s.leaf) + (made - s.joined)) : (s.act n made).Perm (s.next n made :: (s.side n made).act n made) := by
  unfold TS.next TS.side
  by_cases c : s.pickLeaf n made = true
  · rw [if_pos c, if_pos c]
    have hlt : s.leaf < n := by
      simp only [TS.pickLeaf, Bool.and_eq_true, decide_eq_true_eq] at c; exact c.1
    unfold TS.act
    obtain ⟨k, hk⟩ : ∃ k, n - s.leaf = k + 1 := ⟨n - s.leaf - 1, by (first | lia | omega)⟩
    have e : n - (s.leaf + 1) = k := by (first | lia | omega)
    dsimp only
    rw [hk, e, List.range'_succ]
    exact .refl _
  · rw [if_neg c, if_neg c]
    have hlt : s.joined < made := by
      simp only [TS.pickLeaf, Bool.and_eq_true, Bool.or_eq_true, decide_eq_true_eq, not_and, not_or] at c
      by_cases hl : s.leaf < n
      · have := (c hl).1; (first | lia | omega)
      · (first | lia | omega)
    unfold TS.act
    obtain ⟨k, hk⟩ : ∃ k, made - s.joined = k + 1 := ⟨made - s.joined - 1, by (first | lia | omega)⟩
    have e : made - (s.joined + 1) = k := by (first | lia | omega)
    dsimp only
    rw [hk, e, List.range'_succ]
    exact List.perm_middle

theorem side_ws (n made : Nat) (s : TS) : (s.side n made).ws = s.ws := by unfold TS.side; split <;> rfl
theorem side_plen (n made : Nat) (s : TS) : (s.side n made).par.length = s.par.length := by unfold TS.side; split <;> simp
theorem side_par (n made : Nat) (s : TS) : (s.side n made).par = s.par.set (s.next n made) made := by unfold TS.side TS.next; split <;> rfl
theorem side_w (n made : Nat) (s : TS) (i : Nat) : (s.side n made).w i = s.w i := by unfold TS.w; rw [side_ws]
theorem side_bd {n made : Nat} {s : TS} (h1 : s.leaf ≤ n) (h2 : s.joined ≤ made) (hc : 1 ≤ (n - s.leaf) + (made - s.joined)) :
    (s.side n made).leaf ≤ n ∧ (s.side n made).joined ≤ made ∧ s.joined ≤ (s.side n made).joined ∧ (n - (s.side n made).leaf) + (made - (s.side n made).joined) + 1 = (n - s.leaf) + (made - s.joined) := by
  have hp := (side_act h1 h2 hc).length_eq
  unfold TS.side at *
  by_cases c : s.pickLeaf n made = true
  · rw [if_pos c] at *
    have hlt : s.leaf < n := by
      simp only [TS.pickLeaf, Bool.and_eq_true, decide_eq_true_eq] at c; exact c.1
    dsimp only
    (first | lia | omega)
  · rw [if_neg c] at *
    have hlt : s.joined < made := by
      simp only [TS.pickLeaf, Bool.and_eq_true, Bool.or_eq_true, decide_eq_true_eq, not_and, not_or] at c
      by_cases hl : s.leaf < n
      · have := (c hl).1; (first | lia | omega)
      · (first | lia | omega)
    dsimp only
    (first | lia | omega)
/-- the head that is taken is least -/
theorem next_least {n made : Nat} {s : TS} (hl : ∀ i j, i ≤ j → j < n → s.w i ≤ s.w j) (hj : ∀ i j, n ≤ i → i ≤ j → j < made → s.w i ≤ s.w j) (h2 : n ≤ s.joined) : ∀ i ∈ s.act n made, s.w (s.next n made) ≤ s.w i := by
  intro i hi
  rw [mem_act] at hi
  unfold TS.next
  by_cases c : s.pickLeaf n made = true
  · rw [if_pos c]
    simp only [TS.pickLeaf, Bool.and_eq_true, Bool.or_eq_true, decide_eq_true_eq] at c
    rcases hi with hi | hi
    · exact hl _ _ hi.1 hi.2
    · rcases c.2 with q | q
      · (first | lia | omega)
      · exact Int.le_trans q (hj _ _ h2 hi.1 hi.2)
  · rw [if_neg c]
    simp only [TS.pickLeaf, Bool.and_eq_true, Bool.or_eq_true, decide_eq_true_eq, not_and, not_or] at c
    rcases hi with hi | hi
    · have := (c (by (first | lia | omega))).2
      have h3 := hl _ _ hi.1 hi.2
      show s.ws.getD s.joined 0 ≤ _
      unfold TS.w at h3 ⊢
      (first | lia | omega)
    · exact hj _ _ h2 hi.1 hi.2

theorem getD_append {l : List Int} {x : Int} (i : Nat) : (l ++ [x]).getD i 0 = if i < l.length then l.getD i 0 else if i = l.length then x else 0 := by
  simp only [List.getD_eq_getElem?_getD]
  by_cases h : i < l.length
  · rw [if_pos h, List.getElem?_append_left h]
  · rw [if_neg h, List.getElem?_append_right (by (first | lia | omega))]
    by_cases h2 : i = l.length
    · rw [if_pos h2]; subst h2; simp
    · rw [if_neg h2]
      have : i - l.length ≠ 0 := by (first | lia | omega)
      simp [List.getElem?_cons, this]

theorem step_inv {n made : Nat} {lo : Int} {s : TS} (I : TInv n made lo s) (hc : 2 ≤ (n - s.leaf) + (made - s.joined)) :
    TInv n (made + 1) (s.w ((s.side n made).next n made)) (s.step n made) ∧ (s.act n made).Perm (s.next n made :: (s.side n made).next n made :: ((s.side n made).side n made).act n made) ∧
    ((s.step n made).act n (made + 1)).Perm (made :: ((s.side n made).side n made).act n made) ∧ s.w (s.next n made) ≤ s.w ((s.side n made).next n made) ∧ lo ≤ s.w (s.next n made) ∧
    (∀ i ∈ ((s.side n made).side n made).act n made, s.w ((s.side n made).next n made) ≤ s.w i) := by
  have p1 := side_act I.l1 I.l3 (by (first | lia | omega))
  obtain ⟨a1, a2, a3, a4⟩ := side_bd I.l1 I.l3 (by (first | lia | omega))
  have p2 := side_act a1 a2 (by (first | lia | omega))
  obtain ⟨b1, b2, b3, b4⟩ := side_bd a1 a2 (by (first | lia | omega))
  have m1 := next_least I.lasc I.jasc I.l2
  have m2 := next_least (s := s.side n made) (n := n) (made := made) (fun i j h1 h2 => by rw [side_w, side_w]; exact I.lasc i j h1 h2) (fun i j h1 h2 h3 => by rw [side_w, side_w]; exact I.jasc i j h1 h2 h3) (by have := I.l2; (first | assumption | exact Nat.le_trans (by assumption) (by decide) | exact Int.le_trans (by assumption) (by decide) | exact Nat.lt_of_lt_of_le (by assumption) (by assumption) | exact Nat.le_trans (by assumption) (by assumption) | exact Nat.lt_of_lt_of_le (by assumption) (by decide)))
  have hx : s.next n made ∈ s.act n made := p1.mem_iff.mpr List.mem_cons_self
  have hy : (s.side n made).next n made ∈ (s.side n made).act n made := p2.mem_iff.mpr List.mem_cons_self
  have hy' : (s.side n made).next n made ∈ s.act n made := p1.mem_iff.mpr (List.mem_cons_of_mem _ hy)
  have hlox := I.lo1 _ hx
  have hxy := m1 _ hy'
  have hR : ∀ i ∈ ((s.side n made).side n made).act n made, s.w ((s.side n made).next n made) ≤ s.w i := fun i hi => by
    have := m2 i (p2.mem_iff.mpr (List.mem_cons_of_mem _ hi))
    rwa [side_w, side_w] at this
  have hact : ((s.step n made).act n (made + 1)) = ((s.side n made).side n made).act n made ++ [made] := by
    unfold TS.act TS.step
    dsimp only
    obtain ⟨k, hk⟩ : ∃ k, made - ((s.side n made).side n made).joined = k := ⟨_, rfl⟩
    have e : made + 1 - ((s.side n made).side n made).joined = k + 1 := by (first | lia | omega)
    have e2 : ((s.side n made).side n made).joined + 1 * k = made := by omega
    rw [hk, e, List.range'_concat, List.append_assoc, e2]
  have hws : ∀ i, i < made → (s.step n made).w i = s.w i := fun i hi => by
    unfold TS.w TS.step
    dsimp only
    rw [getD_append, I.len, if_pos hi]
  have hz : (s.step n made).w made = s.w (s.next n made) + s.w ((s.side n made).next n made) := by
    unfold TS.w TS.step
    dsimp only
    rw [getD_append, I.len, if_neg (by (first | lia | omega)), if_pos rfl]
  have hl2 := I.l2
  have hj2 : (s.step n made).joined = ((s.side n made).side n made).joined := rfl
  have hlf : (s.step n made).leaf = ((s.side n made).side n made).leaf := rfl
  refine ⟨⟨?_, ?_, by rw [hlf]; exact b1, by rw [hj2]; (first | lia | omega), by rw [hj2]; (first | lia | omega), fun i j h1 h2 => ?_, fun i j h0 h1 h2 => ?_, Int.le_trans I.lo0 (Int.le_trans hlox hxy), fun i hi => ?_, fun i h1 h2 => ?_⟩, p1.trans (p2.cons _), ?_, hxy, hlox, hR⟩
  · unfold TS.step; simp [I.len]
  · unfold TS.step; dsimp only; rw [side_plen, side_plen]; exact I.plen
  · have := I.l3
    rw [hws i (by (first | lia | omega)), hws j (by (first | lia | omega))]
    exact I.lasc i j h1 h2
  · by_cases hjm : j = made
    · subst hjm
      by_cases hij : i = j
      · subst hij; exact Int.le_refl _
      · rw [hws i (by (first | lia | omega)), hz]
        have := I.lo2 i h0 (by (first | lia | omega))
        (first | lia | omega)
    · rw [hws i (by (first | lia | omega)), hws j (by (first | lia | omega))]
      exact I.jasc i j h0 h1 (by (first | lia | omega))
  · rw [hact, List.mem_append] at hi
    rcases hi with hi | hi
    · have hi' := hi
      rw [mem_act] at hi
      have := I.l3
      rw [hws i (by (first | lia | omega))]
      exact hR i hi'
    · have : i = made := by simpa using hi
      subst this
      rw [hz]
      have := I.lo0
      (first | lia | omega)
  · by_cases him : i = made
    · subst him
      rw [hz]; (first | lia | omega)
    · rw [hws i (by (first | lia | omega))]
      have := I.lo2 i h1 (by (first | lia | omega))
      (first | lia | omega)
  · rw [hact]
    exact List.perm_append_singleton _ _

theorem sub_nine {n made : Nat} (hn : n ≤ 9) (hnm : n ≤ made) : 2 * n - made ≤ 9 := by omega
theorem end_ {n made l j : Nat} (hm : made = 2 * n - 1) (hc : (n - l) + (made - j) = 2 * n - made) (hj : j < made) : n - l = 0 ∧ made - j = 1 ∧ j = 2 * n - 2 := by
  have h1 : 2 * n - made = 1 := by subst hm; clear hc; omega
  rw [h1] at hc
  have h2 : 1 ≤ made - j := Nat.sub_pos_of_lt hj
  have h3 : ∀ x y : Nat, y + x = 1 → 1 ≤ x → y = 0 ∧ x = 1 := fun x y a b => by omega
  obtain ⟨h4, h5⟩ := h3 _ _ hc h2
  refine ⟨h4, h5, ?_⟩
  have h6 : made = j + 1 := by rw [← h5]; exact (Nat.add_sub_cancel' (Nat.le_of_lt hj)).symm
  rw [h6] at hm
  exact Nat.succ.inj (hm.trans (by clear hc; omega))
theorem two_sides {n made l l1 l2 j j1 j2 T : Nat} (h0 : (n - l) + (made - j) = T) (a : (n - l1) + (made - j1) + 1 = (n - l) + (made - j)) (b : (n - l2) + (made - j2) + 1 = (n - l1) + (made - j1)) (hj : j2 ≤ made) : (n - l2) + (made + 1 - j2) = T - 1 := by
  have e : made + 1 - j2 = made - j2 + 1 := Nat.succ_sub hj
  omega
theorem run_opt {n : Nat} (hn : n ≤ 9) : ∀ (m made : Nat) (lo : Int) (s : TS), made + m = 2 * n - 1 → n ≤ made → (n - s.leaf) + (made - s.joined) = 2 * n - made → (m = 0 → s.joined < made) → TInv n made lo s →
    (TS.run n m made s).ws.length = 2 * n - 1 ∧ (TS.run n m made s).par.length = 2 * n - 1 ∧ (∀ i, i < made → (TS.run n m made s).w i = s.w i) ∧
    (∀ i, i < made → i ∉ s.act n made → (TS.run n m made s).par.getD i 0 = s.par.getD i 0) ∧ (∀ i, i < 2 * n - 2 → (i ∈ s.act n made ∨ made ≤ i) → i < (TS.run n m made s).par.getD i 0 ∧ (TS.run n m made s).par.getD i 0 < 2 * n - 1) ∧
    ∀ dep : Nat → Nat, dep (2 * n - 2) = 0 → (∀ i, i < 2 * n - 2 → dep i = dep ((TS.run n m made s).par.getD i 0) + 1) → Opt ((s.act n made).map (TS.run n m made s).w) ((s.act n made).map dep)
  | 0, made, lo, s, hm, hnm, hcnt, hj, I => by
    have hj := hj rfl
    have hact : s.act n made = [2 * n - 2] := by
      obtain ⟨e1, e2, e3⟩ := end_ (made := made) hm hcnt hj
      unfold TS.act
      rw [e1, e2, e3]; rfl
    refine ⟨by show s.ws.length = _; rw [I.len]; (first | assumption | exact Nat.le_trans (by assumption) (by decide) | exact Int.le_trans (by assumption) (by decide) | exact Nat.lt_of_lt_of_le (by assumption) (by assumption) | exact Nat.le_trans (by assumption) (by assumption) | exact Nat.lt_of_lt_of_le (by assumption) (by decide)), I.plen, fun _ _ => rfl, fun _ _ _ => rfl, fun i hi h => ?_, fun dep h0 _ => ?_⟩
    · rcases h with h | h
      · rw [hact] at h; have : i = 2 * n - 2 := by simpa using h
        (first | lia | omega)
      · (first | lia | omega)
    · rw [hact]
      show Opt [s.w (2 * n - 2)] [dep (2 * n - 2)]
      rw [h0]
      exact opt_one (Int.le_trans I.lo0 (I.lo1 _ (by rw [hact]; simp)))
  | m + 1, made, lo, s, hm, hnm, hcnt, _, I => by
    have hc : 2 ≤ (n - s.leaf) + (made - s.joined) := by (first | lia | omega)
    obtain ⟨I2, q1, q2, hxy, hlox, hR⟩ := step_inv I hc
    obtain ⟨a1, a2, a3, a4⟩ := side_bd I.l1 I.l3 (by (first | lia | omega))
    obtain ⟨b1, b2, b3, b4⟩ := side_bd a1 a2 (by (first | lia | omega))
    have hws : ∀ i, i < made → (s.step n made).w i = s.w i := fun i hi => by
      unfold TS.w TS.step
      dsimp only
      rw [getD_append, I.len, if_pos hi]
    have hz : (s.step n made).w made = s.w (s.next n made) + s.w ((s.side n made).next n made) := by
      unfold TS.w TS.step
      dsimp only
      rw [getD_append, I.len, if_neg (by (first | lia | omega)), if_pos rfl]
    have hpar : (s.step n made).par = (s.par.set (s.next n made) made).set ((s.side n made).next n made) made := by
      show ((s.side n made).side n made).par = _
      rw [side_par, side_par]
    have hcnt2 : (n - (s.step n made).leaf) + (made + 1 - (s.step n made).joined) = 2 * n - (made + 1) := two_sides hcnt a4 b4 b2
    obtain ⟨r1, r2, r3, r4, r5, r6⟩ := run_opt hn m (made + 1) _ (s.step n made) (by (first | lia | omega)) (by (first | lia | omega)) hcnt2 (fun _ => by show ((s.side n made).side n made).joined < _; (first | lia | omega)) I2
    have hrun : TS.run n (m + 1) made s = TS.run n m (made + 1) (s.step n made) := rfl
    rw [hrun]
    have hxa : s.next n made ∈ s.act n made := q1.mem_iff.mpr List.mem_cons_self
    have hya : (s.side n made).next n made ∈ s.act n made := q1.mem_iff.mpr (List.mem_cons_of_mem _ List.mem_cons_self)
    have hl3 := I.l3
    have hxlt : s.next n made < made := by rw [mem_act] at hxa; (first | lia | omega)
    have hylt : (s.side n made).next n made < made := by rw [mem_act] at hya; (first | lia | omega)
    -- the active nodes are all different
    have hnd : (s.act n made).Nodup := by
      unfold TS.act
      rw [List.nodup_append]
      refine ⟨List.nodup_range', List.nodup_range', fun a ha b hb e => ?_⟩
      rw [List.mem_range'_1] at ha hb
      have := I.l2
      (first | lia | omega)
    have hnd2 := q1.nodup_iff.mp hnd
    obtain ⟨n1, n2⟩ := List.nodup_cons.mp hnd2
    obtain ⟨n3, n4⟩ := List.nodup_cons.mp n2
    have hact2 : ∀ i, i ∈ (s.step n made).act n (made + 1) ↔ i = made ∨ i ∈ ((s.side n made).side n made).act n made := fun i => by rw [q2.mem_iff, List.mem_cons]
    have hset : ∀ i, (s.step n made).par.getD i 0 = if (i = s.next n made ∨ i = (s.side n made).next n made) then made else s.par.getD i 0 := fun i => by
      rw [hpar]
      have hp := I.plen
      simp only [List.getD_eq_getElem?_getD, List.getElem?_set, List.length_set]
      by_cases e1 : (s.side n made).next n made = i
      · rw [if_pos e1, if_pos (by (first | lia | omega)), if_pos (.inr e1.symm)]; rfl
      · rw [if_neg e1]
        by_cases e2 : s.next n made = i
        · rw [if_pos e2, if_pos (by (first | lia | omega)), if_pos (.inl e2.symm)]; rfl
        · rw [if_neg e2, if_neg (fun hc => hc.elim (fun h => e2 h.symm) fun h => e1 h.symm)]
    have hpx : ∀ i, (i = s.next n made ∨ i = (s.side n made).next n made) → (TS.run n m (made + 1) (s.step n made)).par.getD i 0 = made := fun i hi => by
      rw [r4 i (by rcases hi with rfl | rfl <;> (first | lia | omega)) (fun h => by
        rw [hact2] at h
        rcases hi with rfl | rfl
        · rcases h with h | h
          · (first | lia | omega)
          · exact n1 (List.mem_cons_of_mem _ h)
        · rcases h with h | h
          · (first | lia | omega)
          · exact n3 h), hset, if_pos hi]
    refine ⟨r1, r2, fun i hi => by rw [r3 i (by (first | lia | omega)), hws i hi], fun i hi hna => ?_, fun i hi h => ?_, fun dep h0 hd => ?_⟩
    · rw [r4 i (by (first | lia | omega)) (fun h => by
        rw [hact2] at h
        rcases h with h | h
        · (first | lia | omega)
        · exact hna (q1.mem_iff.mpr (List.mem_cons_of_mem _ (List.mem_cons_of_mem _ h)))), hset, if_neg]
      rintro (rfl | rfl)
      · exact hna hxa
      · exact hna hya
    · by_cases hxy' : i = s.next n made ∨ i = (s.side n made).next n made
      · rw [hpx i hxy']
        rcases hxy' with rfl | rfl <;> (first | lia | omega)
      · refine r5 i hi ?_
        rcases h with h | h
        · left
          rw [hact2]
          have := q1.mem_iff.mp h
          simp only [List.mem_cons] at this
          rcases this with h | h | h
          · exact absurd (.inl h) hxy'
          · exact absurd (.inr h) hxy'
          · exact .inr h
        · by_cases him : i = made
          · left; rw [hact2]; exact .inl him
          · right; (first | lia | omega)
    · have o := r6 dep h0 hd
      have dx : dep (s.next n made) = dep made + 1 := by rw [hd _ (by (first | lia | omega)), hpx _ (.inl rfl)]
      have dy : dep ((s.side n made).next n made) = dep made + 1 := by rw [hd _ (by (first | lia | omega)), hpx _ (.inr rfl)]
      have wf : ∀ i, i < made → (TS.run n m (made + 1) (s.step n made)).w i = s.w i := fun i hi => by rw [r3 i (by (first | lia | omega)), hws i hi]
      have wz : (TS.run n m (made + 1) (s.step n made)).w made = s.w (s.next n made) + s.w ((s.side n made).next n made) := by rw [r3 made (by (first | lia | omega)), hz]
      generalize TS.run n m (made + 1) (s.step n made) = e at *
      generalize s.next n made = x at *
      generalize (s.side n made).next n made = y at *
      generalize ((s.side n made).side n made).act n made = R at *
      have hmap : ∀ A : List Nat, A.map e.w = (A.map fun i => (e.w i, dep i)).map (·.1) ∧ A.map dep = (A.map fun i => (e.w i, dep i)).map (·.2) := fun A => by simp [Function.comp_def]
      have o2 : Opt ((s.w x + s.w y) :: R.map e.w) (dep made :: R.map dep) := by
        have h1 := (hmap ((s.step n made).act n (made + 1)))
        rw [h1.1, h1.2] at o
        have := opt_perm (q2.symm.map fun i => (e.w i, dep i)) o
        rw [← (hmap _).1, ← (hmap _).2, List.map_cons, List.map_cons, wz] at this
        exact this
      have hRlen : R.length + 2 ≤ 9 := by
        have := q1.length_eq
        simp only [List.length_cons] at this
        have h2 : (s.act n made).length = (n - s.leaf) + (made - s.joined) := by simp [TS.act]
        have h3 : 2 * n - made ≤ 9 := sub_nine hn hnm
        exact Nat.le_trans (Nat.le_of_eq (this.symm.trans (h2.trans hcnt))) h3
      have hRm : ∀ i ∈ R, i < made := fun i hi => by
        have := q1.mem_iff.mpr (List.mem_cons_of_mem _ (List.mem_cons_of_mem _ hi))
        rw [mem_act] at this; (first | lia | omega)
      have o3 := opt_step o2 (Int.le_trans I.lo0 hlox) hxy (fun v hv => by
        obtain ⟨i, hi, rfl⟩ := List.mem_map.mp hv
        rw [wf i (hRm i hi)]
        exact hR i hi) (by simpa using hRlen)
      have o4 : Opt ((x :: y :: R).map e.w) ((x :: y :: R).map dep) := by
        simp only [List.map_cons]
        rw [wf x (by (first | assumption | exact Nat.le_trans (by assumption) (by decide) | exact Int.le_trans (by assumption) (by decide) | exact Nat.lt_of_lt_of_le (by assumption) (by assumption) | exact Nat.le_trans (by assumption) (by assumption) | exact Nat.lt_of_lt_of_le (by assumption) (by decide))), wf y (by (first | assumption | exact Nat.le_trans (by assumption) (by decide) | exact Int.le_trans (by assumption) (by decide) | exact Nat.lt_of_lt_of_le (by assumption) (by assumption) | exact Nat.le_trans (by assumption) (by assumption) | exact Nat.lt_of_lt_of_le (by assumption) (by decide))), dx, dy]
        exact o3
      rw [(hmap _).1, (hmap _).2] at o4 ⊢
      exact opt_perm (q1.map fun i => (e.w i, dep i)) o4
end Mine
end

section
set_option autoImplicit false
namespace Mine
open PySem

section
variable (σ : St) (i : Nat)
@[simp] theorem e_upd {β : Type} (σ : Nat → β) (i j : Nat) (c : β) : upd σ i c j = if j = i then c else σ j := rfl
@[simp] theorem e_int (k : Int) : xInt k σ = some (.int k, σ) := rfl
@[simp] theorem e_bool (b : Bool) : xBool b σ = some (.bool b, σ) := rfl
@[simp] theorem e_var : xVar i σ = match σ i with | .sh d => some (d, σ) | _ => none := rfl
@[simp] theorem e_mov : xMov i σ = match σ i with | .ow l => some (.list l, upd σ i .no) | _ => none := rfl
@[simp] theorem e_own : bOwn i σ = match σ i with | .ow _ => some (σ, fun τ => match τ i with | .ow l => some (.list l) | _ => none) | _ => none := rfl
@[simp] theorem e_gen (F : Ev) : bGen F σ = (F σ).map fun p => (p.2, fun _ => some p.1) := rfl
@[simp] theorem e_bin (f : D → D → Option D) (F G : Ev) : xBin f F G σ = (F σ).bind fun p => (G p.2).bind fun q => (f p.1 q.1).map fun d => (d, q.2) := rfl
@[simp] theorem e_and (F G : Ev) : xAnd F G σ = (F σ).bind fun p => match p.1 with | .bool true => G p.2 | .bool false => some (.bool false, p.2) | _ => none := rfl
@[simp] theorem e_or (F G : Ev) : xOr F G σ = (F σ).bind fun p => match p.1 with | .bool true => some (.bool true, p.2) | .bool false => G p.2 | _ => none := rfl
@[simp] theorem e_not (F : Ev) : xNot F σ = (F σ).bind fun p => match p.1 with | .bool b => some (.bool (!b), p.2) | _ => none := rfl
@[simp] theorem e_if (T F G : Ev) : xIf T F G σ = (T σ).bind fun p => match p.1 with | .bool true => F p.2 | .bool false => G p.2 | _ => none := rfl
@[simp] theorem e_neg (F : Ev) : xNeg F σ = (F σ).bind fun p => match p.1 with | .int i => some (.int (-i), p.2) | _ => none := rfl
@[simp] theorem e_nil : xNil σ = some ([], σ) := rfl
@[simp] theorem e_cons (F : Ev) (G : EvL) : xCons F G σ = (F σ).bind fun p => (G p.2).map fun q => (p.1 :: q.1, q.2) := rfl
@[simp] theorem e_list (F : EvL) : xList F σ = (F σ).map fun p => (.list p.1, p.2) := rfl
@[simp] theorem e_tup (F : EvL) : xTup F σ = (F σ).map fun p => (.tup p.1, p.2) := rfl
@[simp] theorem e_sub (B : Rd) (G : Ev) : xSub B G σ = (B σ).bind fun p => (G p.1).bind fun q => (p.2 q.2).bind fun d => (nthD d q.1).map fun r => (r, q.2) := rfl
@[simp] theorem e_upto (B : Rd) (G : Ev) : xUpto B G σ = (B σ).bind fun p => (G p.1).bind fun q => (p.2 q.2).bind fun d => (uptoD d q.1).map fun r => (r, q.2) := rfl
@[simp] theorem e_from (B : Rd) (G : Ev) : xFrom B G σ = (B σ).bind fun p => (G p.1).bind fun q => (p.2 q.2).bind fun d => (fromD d q.1).map fun r => (r, q.2) := rfl
@[simp] theorem e_b1 (g : D → Option D) (B : Rd) : xB1 g B σ = (B σ).bind fun p => (p.2 p.1).bind fun d => (g d).map fun r => (r, p.1) := rfl
@[simp] theorem e_b2 (g : D → D → Option D) (F : EvL) : xB2 g F σ = (F σ).bind fun p => match p.1 with | [a, b] => (g a b).map fun r => (r, p.2) | _ => none := rfl
@[simp] theorem e_b3 (g : D → D → D → Option D) (F : EvL) : xB3 g F σ = (F σ).bind fun p => match p.1 with | [a, b, c] => (g a b c).map fun r => (r, p.2) | _ => none := rfl
@[simp] theorem e_call (G : List D → Option D) (F : EvL) : xCall G F σ = (F σ).bind fun p => (G p.1).map fun d => (d, p.2) := rfl
@[simp] theorem e_callB (G : List Int → List D → Option (D × List Int)) (F : EvL) : xCallB i G F σ = (own? (σ i)).bind fun _ => (F σ).bind fun p => (own? (p.2 i)).bind fun l =>
  (ints? l).bind fun ns => (G ns p.1).map fun r => (r.1, upd p.2 i (.ow (di r.2))) := rfl
@[simp] theorem e_own? (l : List D) : own? (.ow l) = some l := rfl
@[simp] theorem e_no? : no? .no = some () := rfl
@[simp] theorem e_ints (ns : List Int) : ints? (di ns) = some ns := ints?_of_di ns
@[simp] theorem y_nil : yNil σ = some (.nxt, σ) := rfl
@[simp] theorem y_seq (F G : Ex) : ySeq F G σ = (F σ).bind fun p => match p.1 with | .nxt => G p.2 | .ret d => some (.ret d, p.2) := rfl
@[simp] theorem y_if (T : Ev) (F G : Ex) : yIf T F G σ = (T σ).bind fun p => match p.1 with | .bool true => F p.2 | .bool false => G p.2 | _ => none := rfl
@[simp] theorem y_ret (F : Ev) : yRet F σ = (F σ).map fun p => (.ret p.1, p.2) := rfl
@[simp] theorem y_set (F : Ev) : ySet i F σ = (F σ).map fun p => (.nxt, upd p.2 i (.sh p.1)) := rfl
@[simp] theorem y_aug (f : D → D → Option D) (F : Ev) : yAug i f F σ = (F σ).bind fun p => match σ i with | .sh a => (f a p.1).map fun d => (.nxt, upd p.2 i (.sh d)) | _ => none := rfl
@[simp] theorem y_setO (t : Nat) (F : EvL) : ySetO i t F σ = (F σ).bind fun p => (no? (p.2 t)).map fun _ => (.nxt, upd (upd (upd p.2 t (.ow p.1)) t .no) i (.ow p.1)) := rfl
@[simp] theorem y_at (F G : Ev) : yAt i F G σ = (F σ).bind fun p => (own? (p.2 i)).bind fun _ => (G p.2).bind fun q => (own? (q.2 i)).bind fun l => match q.1 with
  | .int k => if 0 ≤ k ∧ k < l.length ∧ l.length ≤ 1048576 then some (.nxt, upd q.2 i (.ow (l.set k.toNat p.1))) else none
  | _ => none := rfl
@[simp] theorem y_app (F : Ev) : yApp i F σ = (own? (σ i)).bind fun _ => (F σ).bind fun p => (own? (p.2 i)).bind fun l => if l.length ≤ 1048576 then some (.nxt, upd p.2 i (.ow (l ++ [p.1]))) else none := rfl
@[simp] theorem y_expr (F : Ev) : yExpr F σ = (F σ).bind fun p => match p.1 with | .none => some (.nxt, p.2) | _ => none := rfl
@[simp] theorem y_tup (is : List Nat) (X : EvE) : yTup is X σ = (X σ).bind fun p => (bindE (is.zip p.1) p.2).map fun τ => (.nxt, τ) := rfl
@[simp] theorem y_swp (is : List Nat) (X : EvE) : ySwp is X σ = (X σ).bind fun p => (bindE (is.zip p.1.reverse) p.2).map fun τ => (.nxt, τ) := rfl
@[simp] theorem y_unp (is : List Nat) (F : Ev) : yUnp is F σ = (F σ).bind fun p => (elsOf p.1).bind fun els => if els.length = is.length then (bindE (is.zip els) p.2).map fun τ => (.nxt, τ) else none := rfl
@[simp] theorem x_nil : eNil σ = some ([], σ) := rfl
@[simp] theorem x_sh (F : Ev) (G : EvE) : eSh F G σ = (F σ).bind fun p => (G p.2).map fun q => (.sh p.1 :: q.1, q.2) := rfl
@[simp] theorem x_ow (t : Nat) (F : EvL) (G : EvE) : eOw t F G σ = (F σ).bind fun p => (no? (p.2 t)).bind fun _ => (G (upd p.2 t (.ow p.1))).map fun q => (.ow t :: q.1, q.2) := rfl
@[simp] theorem b_nil : bindE [] σ = some σ := rfl
@[simp] theorem b_sh (d : D) (r : List (Nat × El)) : bindE ((i, .sh d) :: r) σ = bindE r (upd σ i (.sh d)) := rfl
@[simp] theorem b_ow (t : Nat) (r : List (Nat × El)) : bindE ((i, .ow t) :: r) σ = (own? (σ t)).bind fun l => bindE r (upd (upd σ t .no) i (.ow l)) := rfl
@[simp] theorem el_list (l : List D) : elsOf (.list l) = some (l.map .sh) := rfl
@[simp] theorem el_tup (l : List D) : elsOf (.tup l) = some (l.map .sh) := rfl
@[simp] theorem s_init (ds : List D) : initS ds i = match ds[i]? with | some d => .sh d | none => .no := rfl
@[simp] theorem s_initB0 (ns : List Int) (ds : List D) : initB ns ds 0 = .ow (di ns) := rfl
@[simp] theorem s_initBs (ns : List Int) (ds : List D) : initB ns ds (i + 1) = initS ds i := rfl
@[simp] theorem f_for (S : EvI) (tgi : List Nat) (Bd : Ex) : yFor S tgi Bd σ = (S σ).bind fun p => forGo tgi Bd p.1 p.2 := rfl
@[simp] theorem f_nil (tgi : List Nat) (Bd : Ex) : forGo tgi Bd [] σ = some (.nxt, σ) := rfl
theorem f_cons (tgi : List Nat) (Bd : Ex) (r : List D) (rs : List (List D)) : forGo tgi Bd (r :: rs) σ = (bindE (tgi.zip (r.map .sh)) σ).bind fun τ => (Bd τ).bind fun p => match p.1 with
    | .nxt => forGo tgi Bd rs p.2
    | .ret d => some (.ret d, p.2) := rfl
end

theorem seq_eq {F G : Ex} {σ σ1 : St} (h : F σ = some (.nxt, σ1)) : ySeq F G σ = G σ1 := by rw [y_seq, h]; rfl
theorem seq_for {S : EvI} {tgi : List Nat} {Bd G : Ex} {rows : List (List D)} {σ σ1 σ2 : St} (hi : S σ = some (rows, σ1)) (h : forGo tgi Bd rows σ1 = some (.nxt, σ2)) : ySeq (yFor S tgi Bd) G σ = G σ2 := by
  rw [y_seq, f_for, hi]
  show (forGo tgi Bd rows σ1).bind _ = _
  rw [h]; rfl
theorem seq_if_f {T : Ev} {A G : Ex} {σ σ1 : St} (h : T σ = some (.bool false, σ1)) : ySeq (yIf T A yNil) G σ = G σ1 := by rw [y_seq, y_if, h]; rfl
/-! ### the box -/
structure Bx (b : List Int) : Prop where
  e : ∃ d s, b = [d, s] ∧ 0 ≤ d ∧ 0 ≤ s ∧ s < 2147483647

theorem nth0 (a b : D) : nthD (.list [a, b]) (.int 0) = some a := by simp [nthD]
theorem nth1 (a b : D) : nthD (.list [a, b]) (.int 1) = some b := by simp [nthD]
theorem fmod_bd (a : Int) {m : Int} (h : 0 < m) : 0 ≤ a.fmod m ∧ a.fmod m < m := ⟨Int.fmod_nonneg_of_pos _ h, Int.fmod_lt_of_pos _ h⟩
theorem fdiv_nn {a m : Int} (h : 0 ≤ a) (hm : 0 < m) : 0 ≤ a.fdiv m := Int.fdiv_nonneg h (Int.le_of_lt hm)

theorem take_spec {b : List Int} (hb : Bx b) {m : Int} (h1 : 0 < m) (h2 : m ≤ 1048576) : ∃ r b', g_law_take b [.int m] = some (.int r, b') ∧ Bx b' ∧ 0 ≤ r ∧ r < m := by
  obtain ⟨d, s, rfl, hd, hs, hs2⟩ := hb.e
  by_cases c : 0 < d
  · refine ⟨d.fmod m, [d.fdiv m, s], ?_, ⟨_, _, rfl, fdiv_nn hd h1, hs, hs2⟩, (fmod_bd d h1).1, (fmod_bd d h1).2⟩
    have hm : m ≠ 0 := by (first | lia | omega)
    have hsm : small m := ⟨by (first | lia | omega), by (first | lia | omega)⟩
    simp [g_law_take, gOfB, f_law_take, di, nth0, cGt, c, oMod, oDiv, hm, hsm, resD, ints?]
  · have hm : m ≠ 0 := by (first | lia | omega)
    obtain ⟨q1, q2⟩ := fmod_bd (s * 48271) (show (0 : Int) < 2147483647 by decide)
    obtain ⟨q3, q4⟩ := fmod_bd (((s * 48271).fmod 2147483647).fdiv 1024) h1
    refine ⟨_, [d, (s * 48271).fmod 2147483647], ?_, ⟨_, _, rfl, hd, q1, q2⟩, q3, q4⟩
    have hs1 : small 48271 := by decide
    have hs3 : small 1024 := by decide
    simp [g_law_take, gOfB, f_law_take, di, nth0, nth1, cGt, c, oMod, oDiv, oMul, hm, hs1, hs3, resD, ints?]
end Mine
end

section
set_option autoImplicit false
namespace Mine
open PySem

theorem for_loop {tgi : List Nat} {Bd : Ex} {rows : List (List D)} (I : Nat → St → Prop) (step : ∀ k r σ, rows[k]? = some r → I k σ → ∃ τ σ', bindE (tgi.zip (r.map .sh)) σ = some τ ∧ Bd τ = some (.nxt, σ') ∧ I (k + 1) σ') {σ : St} (h0 : I 0 σ) :
    ∃ σ', forGo tgi Bd rows σ = some (.nxt, σ') ∧ I rows.length σ' := by
  have key : ∀ (rs : List (List D)) (k : Nat) (σ : St), rows.drop k = rs → k ≤ rows.length → I k σ → ∃ σ', forGo tgi Bd rs σ = some (.nxt, σ') ∧ I rows.length σ' := by
    intro rs
    induction rs with
    | nil =>
      intro k σ hd hk hI
      have : rows.length ≤ k := by
        have := congrArg List.length hd
        simp at this; (first | lia | omega)
      have e : k = rows.length := by (first | lia | omega)
      subst e
      exact ⟨σ, rfl, hI⟩
    | cons r rs ih =>
      intro k σ hd hk hI
      have hlt : k < rows.length := by
        have := congrArg List.length hd
        simp at this; (first | lia | omega)
      rw [List.drop_eq_getElem_cons hlt] at hd
      obtain ⟨h1, h2⟩ := List.cons.inj hd
      obtain ⟨τ, σ1, e1, e2, e3⟩ := step k r σ (by rw [← h1]; exact List.getElem?_eq_getElem hlt) hI
      obtain ⟨σ2, e4, e5⟩ := ih (k + 1) σ1 h2 hlt e3
      exact ⟨σ2, by rw [f_cons, e1]; simp only [Option.bind_some]; rw [e2]; simpa using e4, e5⟩
  exact key rows 0 σ rfl (Nat.zero_le _) h0

theorem one_get {l : List D} {k : Nat} {r : List D} (h : (one l)[k]? = some r) : ∃ d, l[k]? = some d ∧ r = [d] := by
  simp only [one, List.getElem?_map, Option.map_eq_some_iff] at h
  obtain ⟨d, h1, h2⟩ := h
  exact ⟨d, h1, h2.symm⟩
theorem one_len (l : List D) : (one l).length = l.length := by simp [one]
theorem di_get {ns : List Int} {k : Nat} {d : D} (h : (di ns)[k]? = some d) : ∃ i, ns[k]? = some i ∧ d = .int i := by
  simp only [di, List.getElem?_map, Option.map_eq_some_iff] at h
  obtain ⟨i, h1, h2⟩ := h
  exact ⟨i, h1, h2.symm⟩
theorem di_len (ns : List Int) : (di ns).length = ns.length := by simp [di]
theorem di_append (a b : List Int) : di a ++ di b = di (a ++ b) := by simp [di]
theorem di_take (a : List Int) (k : Nat) : (di a).take k = di (a.take k) := by simp [di]
theorem di_drop (a : List Int) (k : Nat) : (di a).drop k = di (a.drop k) := by simp [di]
theorem di_set (a : List Int) (k : Nat) (x : Int) : (di a).set k (.int x) = di (a.set k x) := by simp [di]
theorem rng1_len {b : Int} (h : 0 ≤ b) : (rngI 0 b 1).length = b.toNat := by
  simp [rngI, PyProof.Rows.rangeSize_nat]
  (first | lia | omega)
theorem rng1_get {b : Int} {k : Nat} {i : Int} (h : (rngI 0 b 1)[k]? = some i) : i = k ∧ (k : Int) < b := by
  unfold rngI at h
  simp only [List.getElem?_map, Option.map_eq_some_iff] at h
  obtain ⟨y, h1, h2⟩ := h
  obtain ⟨h3, rfl⟩ := List.getElem?_eq_some_iff.mp h1
  rw [PyProof.Rows.rangeSize_nat] at h3
  simp at h2 h3
  (first | lia | omega)

/-! ### the law's box -/
theorem box_spec (ns : List Int) (hn : ns.length ≤ 63) : ∃ b, g_law_box [.list (di ns)] = some (di b) ∧ Bx b := by
  have loop := for_loop (tgi := [3]) (rows := one (di (ns.take 30)))
    (Bd := ySeq (yIf (xBin cGe (xVar 3) (xBin oPow (xInt 10) (xInt 18))) (ySeq (ySet 1 (xBin oSub (xBin oAdd (xVar 1) (xVar 3)) (xBin oPow (xInt 10) (xInt 18)))) yNil) (ySeq (ySet 2 (xBin oAdd (xInt 1) (xBin oMod (xBin oAdd (xBin oMul (xVar 2) (xInt 1009)) (xVar 3)) (xInt 2147483629)))) yNil)) yNil)
    (fun _ σ => ∃ d s, σ 1 = .sh (.int d) ∧ σ 2 = .sh (.int s) ∧ 0 ≤ d ∧ 0 ≤ s ∧ s < 2147483647)
    (fun k r σ hr hI0 => by
      obtain ⟨d, s, h1, h2, h3, h4, h5⟩ := hI0
      obtain ⟨x, hx, rfl⟩ := one_get hr
      obtain ⟨i, _, rfl⟩ := di_get hx
      have hp : small 10 := by decide
      have hm : small 1009 := by decide
      by_cases c : (1000000000000000000 : Int) ≤ i
      · refine ⟨upd σ 3 (.sh (.int i)), upd (upd σ 3 (.sh (.int i))) 1 (.sh (.int (d + i - 1000000000000000000))), rfl, ?_, d + i - 1000000000000000000, s, by (first | rfl | simp), by (first | exact h2 | simp [h2]), by (first | lia | omega), h4, h5⟩
        simp [cGe, oPow, hp, c, oAdd, oSub, h1]
      · obtain ⟨q1, q2⟩ := fmod_bd (s * 1009 + i) (show (0 : Int) < 2147483629 by decide)
        refine ⟨upd σ 3 (.sh (.int i)), upd (upd σ 3 (.sh (.int i))) 2 (.sh (.int (1 + (s * 1009 + i).fmod 2147483629))), rfl, ?_, d, 1 + (s * 1009 + i).fmod 2147483629, by (first | exact h1 | simp [h1]), by (first | rfl | simp), h3, by (first | lia | omega), by (first | lia | omega)⟩
        simp [cGe, oPow, hp, c, oAdd, oMul, oMod, hm, h2])
    (σ := upd (upd (initS [.list (di ns)]) 1 (.sh (.int 0))) 2 (.sh (.int 1))) ⟨0, 1, by (first | rfl | simp), by (first | rfl | simp), by (first | lia | omega), by (first | lia | omega), by (first | lia | omega)⟩
  obtain ⟨σ', e, d, s, h1, h2, h3, h4, h5⟩ := loop
  refine ⟨[d, s], ?_, ⟨_, _, rfl, h3, h4, h5⟩⟩
  have e0 : ns.length ≤ 1048576 := by (first | assumption | exact Nat.le_trans (by assumption) (by decide) | exact Int.le_trans (by assumption) (by decide) | exact Nat.lt_of_lt_of_le (by assumption) (by assumption) | exact Nat.le_trans (by assumption) (by assumption) | exact Nat.lt_of_lt_of_le (by assumption) (by decide))
  simp [g_law_box, gOfN, f_law_box, ySeqN, iList, list?, uptoD, di_len, e0, di_take, e, h1, h2]
  rfl

/-! ### how many symbols share the longest short length -/
noncomputable def sameN (n : Int) : Int := if n ≤ 1 then 0 else if n ≤ 2 then 1 else if n ≤ 4 then 2 else if n ≤ 8 then 3 else 4
end Mine
end

section
set_option autoImplicit false
namespace Mine
open PySem

theorem same_spec (n : Int) (h1 : 1 ≤ n) (h2 : n ≤ 9) : g_law_same [.int n] = some (.int (sameN n)) := by
  have : n = 1 ∨ n = 2 ∨ n = 3 ∨ n = 4 ∨ n = 5 ∨ n = 6 ∨ n = 7 ∨ n = 8 ∨ n = 9 := by (first | lia | omega)
  rcases this with rfl | rfl | rfl | rfl | rfl | rfl | rfl | rfl | rfl <;> rfl

theorem nth_pos {l : List Int} {j : Nat} (h2 : j < l.length) (h3 : l.length ≤ 1048576) : nthD (.list (di l)) (.int j) = some (.int (l.getD j 0)) := by
  have e : (l.getD j 0) = l[j] := by rw [List.getD_eq_getElem?_getD, List.getElem?_eq_getElem h2]; rfl
  rw [e]
  simp only [nthD, di_len]
  rw [if_pos h3, if_pos (by (first | lia | omega))]
  simp [di, h2]
theorem nth_neg {l : List Int} {j : Nat} (h1 : 1 ≤ j) (h2 : j ≤ l.length) (h3 : l.length ≤ 1048576) : nthD (.list (di l)) (.int (-(j : Int))) = some (.int (l.getD (l.length - j) 0)) := by
  have e : (l.getD (l.length - j) 0) = l[l.length - j] := by rw [List.getD_eq_getElem?_getD, List.getElem?_eq_getElem (by omega)]; rfl
  rw [e]
  simp only [nthD, di_len]
  rw [if_pos h3, if_neg (by (first | lia | omega)), if_pos (by (first | lia | omega))]
  have e2 : (-(j : Int) + (l.length : Int)).toNat = l.length - j := by (first | lia | omega)
  rw [e2]
  have hlt : l.length - j < l.length := by omega
  simp [di, hlt]
theorem getD_mem {l : List Int} {j : Nat} (h : j < l.length) : l.getD j 0 ∈ l := by
  rw [List.getD_eq_getElem?_getD, List.getElem?_eq_getElem h]; exact List.getElem_mem h
theorem getD_ge {l : List Int} {a : Int} (hl : ∀ c ∈ l, a ≤ c) {j : Nat} (h : j < l.length) : a ≤ l.getD j 0 := hl _ (getD_mem h)

noncomputable def cBd : Ex := (ySeq (yIf (xAnd (xBin cEq (xVar 2) (xInt 2)) (xBin cGt (xVar 4) (xInt 1)))
(ySeq (yApp 3 (xBin oAdd (xBin oAdd (xSub (bOwn 3) (xNeg (xInt 1))) (xSub (bOwn 3) (xNeg (xInt 2)))) (xCallB 0 g_law_take (xCons (xInt 2) xNil))))
 yNil)
 (ySeq (yApp 3 (xBin oAdd (xInt 1) (xCallB 0 g_law_take (xCons (xIf (xBin cEq (xVar 2) (xInt 0)) (xInt 9) (xInt 3)) xNil))))
 yNil))
 yNil)
noncomputable def cTl : Ex := (ySeq (yIf (xBin cEq (xVar 2) (xInt 3))
 (ySeq (ySwp [6, 5] (eSh (xCallB 0 g_law_take (xCons (xVar 1) xNil)) (eSh (xCallB 0 g_law_take (xCons (xInt 30) xNil)) eNil)))
 (ySeq (yAt 3 (xBin oAdd (xSub (bOwn 3) (xVar 5)) (xVar 6)) (xVar 5))
 yNil))
 yNil)
 (ySeq (ySet 7 (xCallB 0 g_law_take (xCons (xVar 1) xNil)))
 (ySeq (yRet (xBin oAdd (xFrom (bOwn 3) (xVar 7)) (xUpto (bOwn 3) (xVar 7))))
 yNil)))
noncomputable def cHd : Ex := ySwp [3, 2] (eSh (xCallB 0 g_law_take (xCons (xInt 4) xNil)) (eOw 100 xNil eNil))
noncomputable def cLp : Ex := yFor (iRng (xB1 bRng1 (bGen (xVar 1)))) [4] cBd
theorem f_law_counts_eq : f_law_counts = ySeq cHd (ySeq cLp cTl) := rfl
structure CI (n way : Int) (k : Nat) (σ : St) : Prop where
  e : ∃ b l, σ 0 = .ow (di b) ∧ Bx b ∧ σ 1 = .sh (.int n) ∧ σ 2 = .sh (.int way) ∧ σ 3 = .ow (di l) ∧ l.length = k ∧ ∀ c ∈ l, 1 ≤ c

theorem c_step {n way : Int} (h9 : n ≤ 9) (hw0 : 0 ≤ way) {k : Nat} (hk : (k : Int) < n) {σ : St} (h : CI n way k σ) : ∃ σ', cBd (upd σ 4 (.sh (.int k))) = some (.nxt, σ') ∧ CI n way (k + 1) σ' := by
  obtain ⟨b, l, s0, hb, s1, s2, s3, hl, hc⟩ := h.e
  have hl1 : l.length ≤ 1048576 := by (first | lia | omega)
  unfold cBd
  by_cases c : way = 2 ∧ (1 : Int) < k
  · obtain ⟨r, b', e, hb', hr0, hr1⟩ := take_spec hb (m := 2) (by (first | lia | omega)) (by (first | lia | omega))
    have n1 := nth_neg (l := l) (j := 1) (by (first | lia | omega)) (by (first | lia | omega)) (by (first | assumption | exact Nat.le_trans (by assumption) (by decide) | exact Int.le_trans (by assumption) (by decide) | exact Nat.lt_of_lt_of_le (by assumption) (by assumption) | exact Nat.le_trans (by assumption) (by assumption) | exact Nat.lt_of_lt_of_le (by assumption) (by decide)))
    have n2 := nth_neg (l := l) (j := 2) (by (first | lia | omega)) (by (first | lia | omega)) (by (first | assumption | exact Nat.le_trans (by assumption) (by decide) | exact Int.le_trans (by assumption) (by decide) | exact Nat.lt_of_lt_of_le (by assumption) (by assumption) | exact Nat.le_trans (by assumption) (by assumption) | exact Nat.lt_of_lt_of_le (by assumption) (by decide)))
    have g1 := getD_ge hc (j := l.length - 1) (by (first | lia | omega))
    have g2 := getD_ge hc (j := l.length - 2) (by (first | lia | omega))
    obtain ⟨rfl, c2⟩ := c
    refine ⟨upd (upd (upd σ 4 (.sh (.int k))) 0 (.ow (di b'))) 3 (.ow (di (l ++ [l.getD (l.length - 1) 0 + l.getD (l.length - 2) 0 + r]))), ?_, ⟨b', l ++ [l.getD (l.length - 1) 0 + l.getD (l.length - 2) 0 + r], by (first | rfl | simp), hb', by (first | exact s1 | simp [s1]), by (first | exact s2 | simp [s2]), by (first | rfl | simp), by (first | exact hl | simp [hl]), fun c hc' => ?_⟩⟩
    · simp at n1 n2
      simp [cEq, cGt, s0, s2, s3, c2, n1, n2, oAdd, e, di_len, hl1]
      simp [di]
    · rcases List.mem_append.mp hc' with h | h
      · exact hc c h
      · have : c = l.getD (l.length - 1) 0 + l.getD (l.length - 2) 0 + r := by simpa using h
        (first | lia | omega)
  · obtain ⟨r, b', e, hb', hr0, hr1⟩ := take_spec hb (m := if way = 0 then 9 else 3) (by split <;> (first | lia | omega)) (by split <;> (first | lia | omega))
    refine ⟨upd (upd (upd σ 4 (.sh (.int k))) 0 (.ow (di b'))) 3 (.ow (di (l ++ [1 + r]))), ?_, ⟨b', l ++ [1 + r], by (first | rfl | simp), hb', by (first | exact s1 | simp [s1]), by (first | exact s2 | simp [s2]), by (first | rfl | simp), by (first | exact hl | simp [hl]), fun c hc' => ?_⟩⟩
    · by_cases c2 : way = 2
      · subst c2
        have c3 : ¬ (1 : Int) < k := fun h => c ⟨rfl, h⟩
        simp at e
        simp [cEq, cGt, s0, s2, s3, c3, oAdd, e, di_len, hl1]
        simp [di]
      · by_cases c0 : way = 0
        · subst c0
          simp at e
          simp [cEq, cGt, s0, s2, s3, oAdd, e, di_len, hl1]
          simp [di]
        · rw [if_neg c0] at e
          have cb : (way == 2) = false := by simpa using c2
          have cb0 : (way == 0) = false := by simpa using c0
          simp [cEq, cGt, s0, s2, s3, cb, cb0, oAdd, e, di_len, hl1]
          simp [di]
    · rcases List.mem_append.mp hc' with h | h
      · exact hc c h
      · have : c = 1 + r := by simpa using h
        (first | lia | omega)

theorem c_head {b b1 : List Int} {way n : Int} (e1 : g_law_take b [.int 4] = some (.int way, b1)) (hb1 : Bx b1) : ∃ σ', cHd (initB b [.int n]) = some (.nxt, σ') ∧ CI n way 0 σ' := by
  refine ⟨upd (upd (upd (upd (upd (initB b [.int n]) 0 (.ow (di b1))) 100 (.ow [])) 100 .no) 3 (.ow [])) 2 (.sh (.int way)), ?_, ⟨b1, [], by (first | rfl | simp), hb1, by (first | rfl | simp), by (first | rfl | simp), by (first | exact di | simp [di]), rfl, fun c hc => by cases hc⟩⟩
  unfold cHd
  simp [e1]
theorem c_loop {n way : Int} (h3 : 3 ≤ n) (h9 : n ≤ 9) (hw0 : 0 ≤ way) {σ : St} (h : CI n way 0 σ) : ∃ σ', cLp σ = some (.nxt, σ') ∧ CI n way n.toNat σ' := by
  have near0 : near 0 := by decide
  have nearn : near n := ⟨by (first | lia | omega), by (first | lia | omega)⟩
  obtain ⟨σ', e, hI⟩ := for_loop (tgi := [4]) (rows := one (di (rngI 0 n 1))) (Bd := cBd) (CI n way) (fun k r σ hr hI => by
    obtain ⟨x, hx, rfl⟩ := one_get hr
    obtain ⟨i, hi, rfl⟩ := di_get hx
    obtain ⟨rfl, hk⟩ := rng1_get hi
    obtain ⟨σ', e1, e2⟩ := c_step h9 hw0 hk hI
    exact ⟨_, σ', rfl, e1, e2⟩) h
  rw [one_len, di_len, rng1_len (by (first | lia | omega))] at hI
  refine ⟨σ', ?_, hI⟩
  obtain ⟨b, l, s0, hb, s1, _⟩ := h.e
  unfold cLp
  simp [s1, iRng, bRng1, near0, nearn, e]

noncomputable def cIf : Ex := (yIf (xBin cEq (xVar 2) (xInt 3))
 (ySeq (ySwp [6, 5] (eSh (xCallB 0 g_law_take (xCons (xVar 1) xNil)) (eSh (xCallB 0 g_law_take (xCons (xInt 30) xNil)) eNil)))
 (ySeq (yAt 3 (xBin oAdd (xSub (bOwn 3) (xVar 5)) (xVar 6)) (xVar 5))
 yNil))
 yNil)
noncomputable def cRt : Ex := (ySeq (ySet 7 (xCallB 0 g_law_take (xCons (xVar 1) xNil)))
 (ySeq (yRet (xBin oAdd (xFrom (bOwn 3) (xVar 7)) (xUpto (bOwn 3) (xVar 7))))
 yNil))
theorem cTl_eq : cTl = ySeq cIf cRt := rfl
structure CJ (n : Int) (σ : St) : Prop where
  e : ∃ b l, σ 0 = .ow (di b) ∧ Bx b ∧ σ 1 = .sh (.int n) ∧ σ 3 = .ow (di l) ∧ (l.length : Int) = n ∧ ∀ c ∈ l, 1 ≤ c
theorem c_if {n way : Int} (h3 : 3 ≤ n) (h9 : n ≤ 9) {σ : St} (h : CI n way n.toNat σ) : ∃ σ', cIf σ = some (.nxt, σ') ∧ CJ n σ' := by
  obtain ⟨b2, l, s0, hb2, s1, s2, s3, hl, hc⟩ := h.e
  have hl1 : l.length ≤ 1048576 := by (first | lia | omega)
  have hln : (l.length : Int) = n := by (first | lia | omega)
  unfold cIf
  by_cases c : way = 3
  · subst c
    obtain ⟨spot, b3, e3, hb3, hs0, hs1⟩ := take_spec hb2 (m := n) (by (first | lia | omega)) (by (first | lia | omega))
    obtain ⟨more, b4, e4, hb4, hm0, hm1⟩ := take_spec hb3 (m := 30) (by (first | lia | omega)) (by (first | lia | omega))
    obtain ⟨sp, rfl⟩ : ∃ sp : Nat, spot = sp := ⟨spot.toNat, by (first | lia | omega)⟩
    have hsp : sp < l.length := by (first | lia | omega)
    obtain ⟨x, ng, hge⟩ : ∃ x, nthD (.list (di l)) (.int sp) = some (.int x) ∧ 1 ≤ x := ⟨_, nth_pos (l := l) (j := sp) hsp (by (first | assumption | exact Nat.le_trans (by assumption) (by decide) | exact Int.le_trans (by assumption) (by decide) | exact Nat.lt_of_lt_of_le (by assumption) (by assumption) | exact Nat.le_trans (by assumption) (by assumption) | exact Nat.lt_of_lt_of_le (by assumption) (by decide))), getD_ge hc hsp⟩
    refine ⟨upd (upd (upd (upd (upd σ 0 (.ow (di b3))) 0 (.ow (di b4))) 6 (.sh (.int more))) 5 (.sh (.int sp))) 3 (.ow (di (l.set sp (x + more)))), ?_, ⟨b4, l.set sp (x + more), by (first | rfl | simp), hb4, by (first | exact s1 | simp [s1]), by (first | rfl | simp), by simpa using hln, fun c hm => ?_⟩⟩
    · have g1 : ySwp [6, 5] (eSh (xCallB 0 g_law_take (xCons (xVar 1) xNil)) (eSh (xCallB 0 g_law_take (xCons (xInt 30) xNil)) eNil)) σ = some (.nxt, upd (upd (upd (upd σ 0 (.ow (di b3))) 0 (.ow (di b4))) 6 (.sh (.int more))) 5 (.sh (.int sp))) := by
        simp [s0, s1, e3, e4]
      have g2 : ∀ τ : St, τ 3 = .ow (di l) → τ 5 = .sh (.int sp) → τ 6 = .sh (.int more) → yAt 3 (xBin oAdd (xSub (bOwn 3) (xVar 5)) (xVar 6)) (xVar 5) τ = some (.nxt, upd τ 3 (.ow (di (l.set sp (x + more))))) := fun τ h3 h5 h6 => by
        simp only [y_at, e_bin, e_sub, e_own, e_var, h3, h5, h6, Option.bind_some, ng, Option.map_some, oAdd, e_own?]
        rw [if_pos ⟨by (first | assumption | exact Nat.le_trans (by assumption) (by decide) | exact Int.le_trans (by assumption) (by decide) | exact Nat.lt_of_lt_of_le (by assumption) (by assumption) | exact Nat.le_trans (by assumption) (by assumption) | exact Nat.lt_of_lt_of_le (by assumption) (by decide)), by rw [di_len]; (first | lia | omega), by rw [di_len]; exact hl1⟩, ← di_set]
        rfl
      have hT : (xBin cEq (xVar 2) (xInt 3)) σ = some (.bool true, σ) := by simp [s2, cEq]
      have g3 := g2 (upd (upd (upd (upd σ 0 (.ow (di b3))) 0 (.ow (di b4))) 6 (.sh (.int more))) 5 (.sh (.int sp))) (by (first | exact s3 | simp [s3])) (by (first | rfl | simp)) (by (first | rfl | simp))
      generalize upd (upd (upd (upd σ 0 (.ow (di b3))) 0 (.ow (di b4))) 6 (.sh (.int more))) 5 (.sh (.int sp)) = σa at g1 g3
      rw [y_if, hT]
      show ySeq _ _ σ = _
      rw [y_seq, g1]
      show ySeq _ _ σa = _
      rw [y_seq, g3]
      rfl
    · rcases List.mem_or_eq_of_mem_set hm with h | h
      · exact hc c h
      · (first | lia | omega)
  · have cb : (way == 3) = false := by simpa using c
    exact ⟨σ, by simp [s2, cEq, cb], ⟨b2, l, s0, hb2, s1, s3, hln, hc⟩⟩
theorem c_rt {n : Int} (h3 : 3 ≤ n) (h9 : n ≤ 9) {σ : St} (h : CJ n σ) : ∃ cs b' σ', cRt σ = some (.ret (.list (di cs)), σ') ∧ σ' 0 = .ow (di b') ∧ Bx b' ∧ (cs.length : Int) = n ∧ ∀ c ∈ cs, 1 ≤ c := by
  obtain ⟨b2, l, s0, hb2, s1, s3, hl, hc⟩ := h.e
  have hl1 : l.length ≤ 1048576 := by (first | lia | omega)
  obtain ⟨turn, b5, e5, hb5, ht0, ht1⟩ := take_spec hb2 (m := n) (by (first | lia | omega)) (by (first | lia | omega))
  obtain ⟨tn, rfl⟩ : ∃ tn : Nat, turn = tn := ⟨turn.toNat, by (first | lia | omega)⟩
  have hz : (di l).drop tn ++ (di l).take tn = di (l.drop tn ++ l.take tn) := by rw [di_drop, di_take, di_append]
  have hz2 : ((di l).drop tn).length + ((di l).take tn).length ≤ 1048576 := by rw [List.length_drop, List.length_take, di_len]; (first | lia | omega)
  have h5 : fromD (.list (di l)) (.int tn) = some (.list ((di l).drop tn)) := by
    simp only [fromD]; rw [if_pos ⟨by (first | lia | omega), by rw [di_len]; exact hl1⟩]; rfl
  have h6 : uptoD (.list (di l)) (.int tn) = some (.list ((di l).take tn)) := by
    simp only [uptoD]; rw [if_pos ⟨by (first | lia | omega), by rw [di_len]; exact hl1⟩]; rfl
  have h7 : oAdd (.list ((di l).drop tn)) (.list ((di l).take tn)) = some (.list (di (l.drop tn ++ l.take tn))) := by
    simp only [oAdd]; rw [if_pos hz2, hz]
  refine ⟨l.drop tn ++ l.take tn, b5, upd (upd σ 0 (.ow (di b5))) 7 (.sh (.int tn)), ?_, by (first | rfl | simp), hb5, by simp; (first | lia | omega), fun c hc' => ?_⟩
  · unfold cRt
    simp [s0, s1, s3, e5, h5, h6, h7]
  · rcases List.mem_append.mp hc' with h | h
    · exact hc c (List.mem_of_mem_drop h)
    · exact hc c (List.mem_of_mem_take h)
theorem c_tail {n way : Int} (h3 : 3 ≤ n) (h9 : n ≤ 9) {σ : St} (h : CI n way n.toNat σ) : ∃ cs b' σ', cTl σ = some (.ret (.list (di cs)), σ') ∧ σ' 0 = .ow (di b') ∧ Bx b' ∧ (cs.length : Int) = n ∧ ∀ c ∈ cs, 1 ≤ c := by
  obtain ⟨σ1, e1, i1⟩ := c_if h3 h9 h
  obtain ⟨cs, b', σ', e2, r⟩ := c_rt h3 h9 i1
  exact ⟨cs, b', σ', by rw [cTl_eq]; simp [e1, e2], r⟩

theorem counts_spec {b : List Int} (hb : Bx b) {n : Int} (h3 : 3 ≤ n) (h9 : n ≤ 9) : ∃ cs b', g_law_counts b [.int n] = some (.list (di cs), b') ∧ Bx b' ∧ (cs.length : Int) = n ∧ ∀ c ∈ cs, 1 ≤ c := by
  obtain ⟨way, b1, e1, hb1, hw0, hw4⟩ := take_spec hb (m := 4) (by (first | lia | omega)) (by (first | lia | omega))
  obtain ⟨σ1, f1, i1⟩ := c_head (n := n) e1 hb1
  obtain ⟨σ2, f2, i2⟩ := c_loop h3 h9 hw0 i1
  obtain ⟨cs, b', σ3, f3, s0, hb', hn, hc⟩ := c_tail h3 h9 i2
  refine ⟨cs, b', ?_, hb', hn, hc⟩
  simp [g_law_counts, gOfB, f_law_counts_eq, f1, f2, f3, s0, resD]
end Mine
end

section
set_option autoImplicit false
namespace Mine
open PySem

/-- the symbols in use: count and symbol -/
noncomputable def up : List Int → Nat → List (Int × Int)
  | [], _ => []
  | c :: t, k => if 0 < c then (c, (k : Int)) :: up t (k + 1) else up t (k + 1)
theorem up_snoc (c : Int) : ∀ (r : List Int) (k : Nat), up (r ++ [c]) k = up r k ++ (if 0 < c then [(c, ((k + r.length : Nat) : Int))] else [])
  | [], k => by simp [up]
  | x :: r, k => by
    have := up_snoc c r (k + 1)
    have e : k + 1 + r.length = k + (r.length + 1) := by (first | lia | omega)
    rw [e] at this
    simp only [List.cons_append, up, List.length_cons]
    split <;> simp [this]
theorem up_mem : ∀ (r : List Int) (k : Nat) (p : Int × Int), p ∈ up r k → (k : Int) ≤ p.2 ∧ p.2 < k + r.length ∧ 0 < p.1 ∧ r.getD (p.2.toNat - k) 0 = p.1
  | [], k, p, h => by cases h
  | c :: r, k, p, h => by
    have ih := up_mem r (k + 1) p
    simp only [up] at h
    have tail : p ∈ up r (k + 1) → (k : Int) ≤ p.2 ∧ p.2 < k + (c :: r).length ∧ 0 < p.1 ∧ (c :: r).getD (p.2.toNat - k) 0 = p.1 := fun h => by
      obtain ⟨h1, h2, h3, h4⟩ := ih h
      refine ⟨by (first | lia | omega), by simp only [List.length_cons]; (first | lia | omega), h3, ?_⟩
      have e : p.2.toNat - k = (p.2.toNat - (k + 1)) + 1 := by (first | lia | omega)
      rw [e, List.getD_cons_succ]; exact h4
    split at h
    · rename_i hc
      rcases List.mem_cons.mp h with rfl | h
      · refine ⟨Int.le_refl _, by simp only [List.length_cons]; (first | lia | omega), hc, ?_⟩
        simp
      · exact tail h
    · exact tail h
theorem up_nodup : ∀ (r : List Int) (k : Nat), (up r k).Nodup
  | [], k => .nil
  | c :: r, k => by
    simp only [up]
    split
    · refine List.nodup_cons.mpr ⟨fun h => ?_, up_nodup r (k + 1)⟩
      have := (up_mem r (k + 1) _ h).1
      simp at this; (first | lia | omega)
    · exact up_nodup r (k + 1)
theorem dp_append (a b : List (Int × Int)) : dp a ++ dp b = dp (a ++ b) := by simp [dp]

theorem enum_row {l : List Int} {k : Nat} {r : List D} (h : (enumD (di l))[k]? = some r) : ∃ c, l[k]? = some c ∧ r = [.int k, .int c] := by
  unfold enumD at h
  simp only [List.getElem?_map, Option.map_eq_some_iff] at h
  obtain ⟨⟨a, b⟩, h1, rfl⟩ := h
  obtain ⟨h2, h3⟩ := List.getElem?_zip_eq_some.mp h1
  obtain ⟨_, rfl⟩ := List.getElem?_eq_some_iff.mp h2
  obtain ⟨i, h4, rfl⟩ := di_get h3
  exact ⟨i, h4, by (first | rfl | simp)⟩
theorem enum_len (l : List D) : (enumD l).length = l.length := by simp [enumD]

noncomputable def uBd : Ex := (ySeq (yIf (xBin cLt (xVar 3) (xInt 0))
 (ySeq yStuck
 yNil)
 yNil)
 (ySeq (yIf (xBin cGt (xVar 3) (xInt 0))
 (ySeq (yApp 1 (xTup (xCons (xVar 3) (xCons (xVar 2) xNil))))
 yNil)
 yNil)
 yNil))
theorem f_used_eq : f_used_symbols = ySeq (ySetO 1 100 xNil) (ySeq (yFor (iEnum (xVar 0)) [2, 3] uBd) (ySeq (yRet (xB1 bSort2 (bOwn 1))) yNil)) := rfl
theorem u_step {l : List (Int × Int)} {σ : St} {k : Nat} {c : Int} (hl : l.length ≤ 1048576) (h0 : 0 ≤ c) (h1 : σ 1 = .ow (dp l)) : ∃ σ', uBd (upd (upd σ 2 (.sh (.int k))) 3 (.sh (.int c))) = some (.nxt, σ') ∧ σ' 1 = .ow (dp (l ++ (if 0 < c then [(c, (k : Int))] else []))) := by
  have hd : (dp l).length ≤ 1048576 := by simpa [dp] using hl
  have hn : ¬ c < 0 := by (first | lia | omega)
  unfold uBd
  by_cases hc : 0 < c
  · refine ⟨upd (upd (upd σ 2 (.sh (.int k))) 3 (.sh (.int c))) 1 (.ow (dp (l ++ [(c, (k : Int))]))), ?_, by (first | exact hc | simp [hc])⟩
    simp [cLt, cGt, hn, hc, h1, hd, ← dp_append]
    rfl
  · refine ⟨upd (upd σ 2 (.sh (.int k))) 3 (.sh (.int c)), ?_, by simp [hc, h1]⟩
    simp [cLt, cGt, hn, hc]
theorem pairs_not_ints {l : List (Int × Int)} (h : l ≠ []) : ints? (dp l) = none := by
  cases l with
  | nil => exact absurd rfl h
  | cons p l => rfl
theorem up_fits (r : List Int) (hn : r.length ≤ 64) : PFits (up r 0) := ⟨fun p hp => by
  obtain ⟨h1, h2, _⟩ := up_mem r 0 p hp
  constructor <;> (first | lia | omega), up_nodup r 0⟩
theorem up_len : ∀ (r : List Int) (k : Nat), (up r k).length ≤ r.length
  | [], k => Nat.le_refl _
  | c :: r, k => by
    have := up_len r (k + 1)
    simp only [up]
    split <;> simp only [List.length_cons] <;> (first | lia | omega)
theorem sort2_pairs {l : List (Int × Int)} (hf : PFits l) (h2 : 2 ≤ l.length) (h64 : l.length < 64) : bSort2 (.list (dp l)) = some (.list (dp (psort l))) := by
  have hd : (dp l).length < 64 := by simpa [dp] using h64
  have hne : l ≠ [] := by rintro rfl; simp at h2
  simp only [bSort2, if_pos hd, pairs_not_ints hne, pairs?_of_dp, Option.bind_some]
  rw [if_pos ⟨List.all_eq_true.mpr fun p hp => decide_eq_true (hf.1 p hp), hf.2, h2⟩]
theorem sort2_ints {l : List Int} (h64 : l.length < 64) : bSort2 (.list (di l)) = some (.list (di (isort l))) := by
  have hd : (di l).length < 64 := by simpa [di] using h64
  simp only [bSort2, if_pos hd, ints?_of_di]

theorem used_spec {r : List Int} (h0 : ∀ c ∈ r, 0 ≤ c) (hn : r.length < 64) (h2 : 2 ≤ (up r 0).length) : g_used_symbols [.list (di r)] = some (.list (dp (psort (up r 0)))) := by
  obtain ⟨σ', e, hI⟩ := for_loop (tgi := [2, 3]) (rows := enumD (di r)) (Bd := uBd) (fun k σ => σ 1 = .ow (dp (up (r.take k) 0))) (fun k row σ hr hI => by
    obtain ⟨c, hc, rfl⟩ := enum_row hr
    have hlt : k < r.length := (List.getElem?_eq_some_iff.mp hc).1
    obtain ⟨σ', e1, e2⟩ := u_step (k := k) (by have := up_len (r.take k) 0; simp at this; (first | lia | omega)) (h0 c (List.mem_of_getElem? hc)) hI
    refine ⟨_, σ', rfl, e1, ?_⟩
    rw [e2]
    have : r.take (k + 1) = r.take k ++ [c] := by rw [List.take_succ, hc]; rfl
    rw [this, up_snoc]
    have e3 : (r.take k).length = k := by simp; (first | lia | omega)
    rw [e3, Nat.zero_add]) (σ := upd (upd (upd (initS [.list (di r)]) 100 (.ow [])) 100 .no) 1 (.ow [])) (by simp [up]; rfl)
  rw [enum_len, di_len, List.take_length] at hI
  have hs := sort2_pairs (up_fits r (by (first | lia | omega))) h2 (by have := up_len r 0; (first | lia | omega))
  simp only [g_used_symbols, gOf, List.length_singleton, if_true, f_used_eq]
  simp [iEnum, list?, e, hI, hs, resD]
end Mine
end

section
set_option autoImplicit false
namespace Mine
open PySem

/-! ### merged -/
noncomputable def mT : Ev := (xOr (xBin cLt (xVar 4) (xB1 bLen (bGen (xVar 0)))) (xBin cLt (xVar 5) (xB1 bLen (bGen (xVar 1)))))
noncomputable def mC : Ev := (xOr (xBin cEq (xVar 5) (xB1 bLen (bGen (xVar 1)))) (xAnd (xBin cLt (xVar 4) (xB1 bLen (bGen (xVar 0)))) (xBin cLe (xSub (bGen (xVar 0)) (xVar 4)) (xSub (bGen (xVar 1)) (xVar 5)))))
noncomputable def mB : Ex := (ySeq (ySet 6 mC)
 (ySeq (yApp 3 (xVar 6))
 (ySeq (yIf (xVar 6)
 (ySeq (yApp 2 (xSub (bGen (xVar 0)) (xVar 4)))
 (ySeq (yAug 4 oIadd (xInt 1))
 yNil))
 (ySeq (yApp 2 (xSub (bGen (xVar 1)) (xVar 5)))
 (ySeq (yAug 5 oIadd (xInt 1))
 yNil)))
 yNil)))
theorem f_merged_eq : f_merged = ySeq (yTup [2, 3, 4, 5] (eOw 100 xNil (eOw 101 xNil (eSh (xInt 0) (eSh (xInt 0) eNil))))) (ySeq (yWhl 40 mT mB) (ySeq (yRet (xTup (xCons (xMov 2) (xCons (xMov 3) xNil)))) yNil)) := rfl
noncomputable def dbs (l : List Bool) : List D := l.map .bool
structure MI (w p : List Int) (a b : Nat) (R : List Int) (Bs : List Bool) (σ : St) : Prop where
  s0 : σ 0 = .sh (.list (di w))
  s1 : σ 1 = .sh (.list (di p))
  s2 : σ 2 = .ow (di R)
  s3 : σ 3 = .ow (dbs Bs)
  s4 : σ 4 = .sh (.int a)
  s5 : σ 5 = .sh (.int b)
theorem len_spec {l : List Int} (h : l.length ≤ 1048576) : bLen (.list (di l)) = some (.int l.length) := by
  simp only [bLen, di_len]; rw [if_pos h]
theorem m_test {w p : List Int} {a b : Nat} {R : List Int} {Bs : List Bool} {σ : St} (h : MI w p a b R Bs σ) (hw : w.length ≤ 20) (hp : p.length ≤ 20) : mT σ = some (.bool (decide (a < w.length) || decide (b < p.length)), σ) := by
  have lw := len_spec (l := w) (by (first | lia | omega))
  have lp := len_spec (l := p) (by (first | lia | omega))
  unfold mT
  by_cases c : a < w.length
  · simp [h.s0, h.s4, lw, cLt, c]
  · simp [h.s0, h.s1, h.s4, h.s5, lw, lp, cLt, c]
noncomputable def MStep (w p : List Int) (a b : Nat) (R : List Int) (Bs : List Bool) (σ : St) : Prop := ∃ σ' x c, mB σ = some (.nxt, σ') ∧ MI w p (if c then a + 1 else a) (if c then b else b + 1) (R ++ [x]) (Bs ++ [c]) σ' ∧ mg (w.drop a) (p.drop b) = (x, c) :: mg (w.drop (if c then a + 1 else a)) (p.drop (if c then b else b + 1)) ∧ (if c then a + 1 else a) ≤ w.length ∧ (if c then b else b + 1) ≤ p.length
theorem m_step {w p : List Int} {a b : Nat} {R : List Int} {Bs : List Bool} {σ : St} (h : MI w p a b R Bs σ) (hw : w.length ≤ 20) (hp : p.length ≤ 20) (ha : a ≤ w.length) (hb : b ≤ p.length) (hR : R.length ≤ 40) (hB : Bs.length ≤ 40) (hab : a < w.length ∨ b < p.length) :
    MStep w p a b R Bs σ := by
  have lw := len_spec (l := w) (by (first | lia | omega))
  have lp := len_spec (l := p) (by (first | lia | omega))
  have lR : (di R).length ≤ 1048576 := by rw [di_len]; (first | assumption | exact Nat.le_trans (by assumption) (by decide) | exact Int.le_trans (by assumption) (by decide) | exact Nat.lt_of_lt_of_le (by assumption) (by assumption) | exact Nat.le_trans (by assumption) (by assumption) | exact Nat.lt_of_lt_of_le (by assumption) (by decide))
  have lB : (dbs Bs).length ≤ 1048576 := by simp [dbs]; (first | assumption | exact Nat.le_trans (by assumption) (by decide) | exact Int.le_trans (by assumption) (by decide) | exact Nat.lt_of_lt_of_le (by assumption) (by assumption) | exact Nat.le_trans (by assumption) (by assumption) | exact Nat.lt_of_lt_of_le (by assumption) (by decide))
  have hRa : ∀ x, di R ++ [.int x] = di (R ++ [x]) := fun x => by simp [di]
  have hBa : ∀ x, dbs Bs ++ [.bool x] = dbs (Bs ++ [x]) := fun x => by simp [dbs]
  -- a leaf is taken
  have yes : ∀ x, mC σ = some (.bool true, σ) → w[a]? = some x → mg (w.drop a) (p.drop b) = (x, true) :: mg (w.drop (a + 1)) (p.drop b) → MStep w p a b R Bs σ := fun x hC hx hm => by
    obtain ⟨hlt, hx'⟩ := List.getElem?_eq_some_iff.mp hx
    have nx : nthD (.list (di w)) (.int a) = some (.int x) := by rw [nth_pos hlt (by (first | lia | omega)), List.getD_eq_getElem?_getD, hx]; rfl
    refine ⟨upd (upd (upd (upd σ 6 (.sh (.bool true))) 3 (.ow (dbs (Bs ++ [true])))) 2 (.ow (di (R ++ [x])))) 4 (.sh (.int ((a : Int) + 1))), x, true, ?_, ⟨by (first | exact h.s0 | simp [h.s0]), by (first | exact h.s1 | simp [h.s1]), by (first | rfl | simp), by (first | rfl | simp), by (first | rfl | simp), by (first | exact h.s5 | simp [h.s5])⟩, hm, hlt, hb⟩
    unfold mB
    simp [hC, h.s0, h.s2, h.s3, h.s4, lR, lB, nx, oIadd, hRa, hBa]
  have no : ∀ x, mC σ = some (.bool false, σ) → p[b]? = some x → mg (w.drop a) (p.drop b) = (x, false) :: mg (w.drop a) (p.drop (b + 1)) → MStep w p a b R Bs σ := fun x hC hx hm => by
    obtain ⟨hlt, hx'⟩ := List.getElem?_eq_some_iff.mp hx
    have nx : nthD (.list (di p)) (.int b) = some (.int x) := by rw [nth_pos hlt (by (first | lia | omega)), List.getD_eq_getElem?_getD, hx]; rfl
    refine ⟨upd (upd (upd (upd σ 6 (.sh (.bool false))) 3 (.ow (dbs (Bs ++ [false])))) 2 (.ow (di (R ++ [x])))) 5 (.sh (.int ((b : Int) + 1))), x, false, ?_, ⟨by (first | exact h.s0 | simp [h.s0]), by (first | exact h.s1 | simp [h.s1]), by (first | rfl | simp), by (first | rfl | simp), by (first | exact h.s4 | simp [h.s4]), by (first | rfl | simp)⟩, hm, ha, hlt⟩
    unfold mB
    simp [hC, h.s1, h.s2, h.s3, h.s5, lR, lB, nx, oIadd, hRa, hBa]
  by_cases c1 : b = p.length
  · have hlt : a < w.length := by (first | lia | omega)
    refine yes w[a] ?_ (List.getElem?_eq_getElem hlt) ?_
    · unfold mC
      simp [h.s1, h.s5, lp, cEq, c1]
    · rw [c1, List.drop_length, List.drop_eq_getElem_cons hlt, mg_r]
  · have hlt2 : b < p.length := by (first | lia | omega)
    have cb : ((b : Int) == (p.length : Int)) = false := by simp; (first | lia | omega)
    by_cases c2 : a < w.length
    · have nw := nth_pos (l := w) c2 (by (first | lia | omega))
      have np := nth_pos (l := p) hlt2 (by (first | lia | omega))
      have ew : w.getD a 0 = w[a] := by rw [List.getD_eq_getElem?_getD, List.getElem?_eq_getElem c2]; rfl
      have ep : p.getD b 0 = p[b] := by rw [List.getD_eq_getElem?_getD, List.getElem?_eq_getElem hlt2]; rfl
      rw [ew] at nw
      rw [ep] at np
      have hC : mC σ = some (.bool (decide (w[a] ≤ p[b])), σ) := by
        unfold mC
        simp [h.s0, h.s1, h.s4, h.s5, lw, lp, cEq, cb, cLt, c2, cLe, nw, np]
      by_cases c3 : w[a] ≤ p[b]
      · refine yes w[a] (by rw [hC]; simp [c3]) (List.getElem?_eq_getElem c2) ?_
        rw [List.drop_eq_getElem_cons c2, List.drop_eq_getElem_cons hlt2, mg_le c3]
      · refine no p[b] (by rw [hC]; simp [c3]) (List.getElem?_eq_getElem hlt2) ?_
        rw [List.drop_eq_getElem_cons c2, List.drop_eq_getElem_cons hlt2, mg_gt c3]
    · refine no p[b] ?_ (List.getElem?_eq_getElem hlt2) ?_
      · unfold mC
        simp [h.s0, h.s1, h.s4, h.s5, lw, lp, cEq, cb, cLt, c2]
      · have e : w.drop a = [] := List.drop_eq_nil_of_le (by (first | lia | omega))
        rw [e, List.drop_eq_getElem_cons hlt2, mg_nil, mg_nil, List.map_cons]

theorem m_loop {w p : List Int} (hw : w.length ≤ 20) (hp : p.length ≤ 20) : ∀ (m fuel : Nat) (a b : Nat) (R : List Int) (Bs : List Bool) (σ : St), MI w p a b R Bs σ → a ≤ w.length → b ≤ p.length → (w.length - a) + (p.length - b) = m → m < fuel → R.length + m ≤ 40 → Bs.length + m ≤ 40 →
    ∃ σ', whlGo mT mB fuel σ = some (.nxt, σ') ∧ σ' 2 = .ow (di (R ++ (mg (w.drop a) (p.drop b)).map (·.1))) ∧ σ' 3 = .ow (dbs (Bs ++ (mg (w.drop a) (p.drop b)).map (·.2)))
  | 0, fuel + 1, a, b, R, Bs, σ, h, ha, hb, hm, hf, hR, hB => by
    have t := m_test h hw hp
    have e1 : decide (a < w.length) = false := by simp; (first | lia | omega)
    have e2 : decide (b < p.length) = false := by simp; (first | lia | omega)
    rw [e1, e2] at t
    have d1 : w.drop a = [] := List.drop_eq_nil_of_le (by (first | lia | omega))
    have d2 : p.drop b = [] := List.drop_eq_nil_of_le (by (first | lia | omega))
    refine ⟨σ, by unfold whlGo; rw [t]; rfl, ?_, ?_⟩
    · rw [d1, d2, h.s2]; simp [mg_nil]
    · rw [d1, d2, h.s3]; simp [mg_nil]
  | m + 1, fuel + 1, a, b, R, Bs, σ, h, ha, hb, hm, hf, hR, hB => by
    have t := m_test h hw hp
    have e1 : (decide (a < w.length) || decide (b < p.length)) = true := by simp; (first | lia | omega)
    rw [e1] at t
    obtain ⟨σ1, x, c, f1, h1, g1, ha1, hb1⟩ := m_step h hw hp ha hb (by (first | lia | omega)) (by (first | lia | omega)) (by (first | lia | omega))
    obtain ⟨σ2, f2, r1, r2⟩ := m_loop hw hp m fuel _ _ _ _ σ1 h1 ha1 hb1 (by cases c <;> simp at ha1 hb1 ⊢ <;> (first | lia | omega)) (by (first | lia | omega)) (by simp; (first | lia | omega)) (by simp; (first | lia | omega))
    refine ⟨σ2, ?_, ?_, ?_⟩
    · unfold whlGo
      rw [t]
      simp only [Option.bind_some]
      rw [f1]
      simpa using f2
    · rw [r1, g1]; simp
    · rw [r2, g1]; simp
theorem merged_spec {w p : List Int} (hw : w.length ≤ 19) (hp : p.length ≤ 19) : g_merged [.list (di w), .list (di p)] = some (.tup [.list (di ((mg w p).map (·.1))), .list (dbs ((mg w p).map (·.2)))]) := by
  obtain ⟨σ', e, r1, r2⟩ := m_loop (w := w) (p := p) (by (first | lia | omega)) (by (first | lia | omega)) (w.length + p.length) 40 0 0 [] []
    (upd (upd (upd (upd (upd (upd (upd (upd (initS [.list (di w), .list (di p)]) 100 (.ow [])) 101 (.ow [])) 100 .no) 2 (.ow [])) 101 .no) 3 (.ow [])) 4 (.sh (.int 0))) 5 (.sh (.int 0)))
    ⟨by (first | rfl | simp), by (first | rfl | simp), by (first | exact di | simp [di]), by (first | exact dbs | simp [dbs]), by (first | rfl | simp), by (first | rfl | simp)⟩ (Nat.zero_le _) (Nat.zero_le _) (by (first | rfl | simp)) (by (first | lia | omega)) (by simp; (first | lia | omega)) (by simp; (first | lia | omega))
  simp only [List.nil_append, List.drop_zero] at r1 r2
  simp only [g_merged, gOf, List.length_cons, List.length_nil, if_true, f_merged_eq]
  simp [yWhl, e, r1, r2, resD]
end Mine
end

section
set_option autoImplicit false
namespace Mine
open PySem

theorem comp_spec {tgi : List Nat} {T Fe : Ev} (G : List D → Option D) (J : St → Prop) {rows : List (List D)} (h : ∀ row ∈ rows, ∀ σ, J σ → ∃ τ, bindE (tgi.zip (row.map .sh)) σ = some τ ∧ ((∃ d σ1 σ2, G row = some d ∧ T τ = some (.bool true, σ1) ∧ Fe σ1 = some (d, σ2) ∧ J σ2) ∨ (∃ σ1, G row = none ∧ T τ = some (.bool false, σ1) ∧ J σ1))) : ∀ σ, J σ → compGo tgi T Fe rows σ = some (rows.filterMap G) := by
  induction rows with
  | nil => intro σ _; rfl
  | cons r rs ih =>
    intro σ hJ
    have ih := ih fun row hrow => h row (List.mem_cons_of_mem _ hrow)
    obtain ⟨τ, e1, h2⟩ := h r List.mem_cons_self σ hJ
    unfold compGo
    rw [e1]
    simp only [Option.bind_some]
    rcases h2 with ⟨d, σ1, σ2, g, t, f, j⟩ | ⟨σ1, g, t, j⟩
    · rw [t]
      simp only [Option.bind_some]
      rw [f]
      simp only [Option.bind_some, ih σ2 j, Option.map_some]
      rw [List.filterMap_cons, g]
    · rw [t]
      simp only [Option.bind_some, ih σ1 j]
      rw [List.filterMap_cons, g]

theorem prs_eq : ∀ r : List Int, prs r = (List.range (r.length / 2)).map fun i => r.getD (2 * i) 0 + r.getD (2 * i + 1) 0 := by
  refine prs_ind rfl (fun a => by (first | exact prs | simp [prs])) fun a b r ih => ?_
  have e : (a :: b :: r).length / 2 = r.length / 2 + 1 := by simp only [List.length_cons]; (first | lia | omega)
  rw [e, List.range_succ_eq_map, List.map_cons, List.map_map, prs, ih]
  congr 1
theorem rng2_eq (n : Nat) : rngI 0 ((n : Int) - 1) 2 = (List.range (n / 2)).map fun i : Nat => 2 * (i : Int) := by
  have e : (Builtin.Range.rangeSize 0 ((n : Int) - 1) 2).toNat = n / 2 := by
    unfold Builtin.Range.rangeSize
    rw [if_pos (by decide)]
    split <;> (first | lia | omega)
  unfold rngI
  rw [e]
  apply List.map_congr_left
  intro i _
  (first | lia | omega)
theorem pairs_comp {r : List Int} (hr : r.length ≤ 1000) {σ : St} (h1 : σ 1 = .sh (.list (di r))) :
    compGo [0] xTrue (xBin oAdd (xSub (bGen (xVar 1)) (xVar 0)) (xSub (bGen (xVar 1)) (xBin oAdd (xVar 0) (xInt 1)))) (one (di (rngI 0 ((r.length : Int) - 1) 2))) σ = some (di (prs r)) := by
  have hG : ∀ i ∈ List.range (r.length / 2), 2 * i + 1 < r.length := fun i hi => by have := List.mem_range.mp hi; (first | lia | omega)
  rw [rng2_eq, prs_eq]
  have := comp_spec (tgi := [0]) (T := xTrue) (Fe := xBin oAdd (xSub (bGen (xVar 1)) (xVar 0)) (xSub (bGen (xVar 1)) (xBin oAdd (xVar 0) (xInt 1))))
    (fun row => match row with | [.int k] => some (.int (r.getD k.toNat 0 + r.getD (k.toNat + 1) 0)) | _ => none) (fun σ => σ 1 = .sh (.list (di r)))
    (rows := one (di ((List.range (r.length / 2)).map fun i : Nat => 2 * (i : Int)))) (fun row hrow σ hJ => by
      simp only [one, di, List.map_map, List.mem_map] at hrow
      obtain ⟨i, hi, rfl⟩ := hrow
      have hb := hG i hi
      have n1 := nth_pos (l := r) (j := 2 * i) (by (first | lia | omega)) (by (first | lia | omega))
      have n2 := nth_pos (l := r) (j := 2 * i + 1) hb (by (first | lia | omega))
      obtain ⟨x, hx, ex⟩ : ∃ x, nthD (.list (di r)) (.int ((2 * i : Nat) : Int)) = some (.int x) ∧ r.getD (2 * i) 0 = x := ⟨_, n1, rfl⟩
      obtain ⟨y, hy, ey⟩ : ∃ y, nthD (.list (di r)) (.int ((2 * i + 1 : Nat) : Int)) = some (.int y) ∧ r.getD (2 * i + 1) 0 = y := ⟨_, n2, rfl⟩
      clear n1 n2
      push_cast at hx hy
      refine ⟨upd σ 0 (.sh (.int (2 * (i : Int)))), rfl, .inl ⟨.int (x + y), upd σ 0 (.sh (.int (2 * (i : Int)))), upd σ 0 (.sh (.int (2 * (i : Int)))), ?_, rfl, ?_, ?_⟩⟩
      · have e : (2 * (i : Int)).toNat = 2 * i := by (first | lia | omega)
        simp only [Function.comp, e, ex, ey]
      · simp [hJ, hx, hy, oAdd]
      · simp [hJ]) σ h1
  rw [this]
  congr 1
  simp only [one, di, List.map_map, List.filterMap_map]
  induction (List.range (r.length / 2)) with
  | nil => rfl
  | cons i l ih =>
    have e : (2 * (i : Int)).toNat = 2 * i := by (first | lia | omega)
    simp only [List.filterMap_cons, List.map_cons, Function.comp, e] at ih ⊢
    rw [ih]

noncomputable def din (d : List Nat) : List D := d.map fun n : Nat => D.int n
noncomputable def pBd1 : Ex := (ySeq (ySet 5 (xComp (iRng (xB3 bRng3 (xCons (xInt 0) (xCons (xBin oSub (xB1 bLen (bGen (xVar 3))) (xInt 1)) (xCons (xInt 2) xNil))))) [(1, 3)] [0] xTrue (xBin oAdd (xSub (bGen (xVar 1)) (xVar 0)) (xSub (bGen (xVar 1)) (xBin oAdd (xVar 0) (xInt 1))))))
 (ySeq (yUnp [3, 6] (xCall g_merged (xCons (xVar 0) (xCons (xVar 5) xNil))))
 (ySeq (yApp 2 (xVar 6))
 yNil)))
noncomputable def pBdT : Ex := (yAug 9 oIadd (xB1 bInt (bGen (xVar 10))))
noncomputable def pBdP : Ex := (yAugAt 7 oIadd (xVar 11) (xInt 1))
noncomputable def pBd2 : Ex := (ySeq (ySet 9 (xInt 0))
 (ySeq (yFor (iList (xUpto (bGen (xVar 6)) (xVar 8))) [10]
 (ySeq pBdT
 yNil))
 (ySeq (yFor (iRng (xB1 bRng1 (bGen (xVar 9)))) [11]
 (ySeq pBdP
 yNil))
 (ySeq (ySet 8 (xBin oMul (xInt 2) (xBin oSub (xVar 8) (xVar 9))))
 yNil))))
noncomputable def pMid : Ex := (ySwp [8, 7] (eOw 101 (fMul (xCons (xInt 0) xNil) (xB1 bLen (bGen (xVar 0)))) (eSh (xBin oSub (xBin oMul (xInt 2) (xB1 bLen (bGen (xVar 0)))) (xInt 2)) eNil)))
theorem f_package_eq : f_package_depths = ySeq (yTup [2, 3] (eOw 100 xNil (eSh (xList xNil) eNil))) (ySeq (yFor (iRng (xB1 bRng1 (bGen (xVar 1)))) [4] pBd1) (ySeq pMid (ySeq (yFor (iRev (xMov 2)) [6] pBd2) (ySeq (yRet (xMov 7)) yNil)))) := rfl

theorem rw1_le (w : List Int) : ∀ t, (rw1 w t).length ≤ 2 * w.length
  | 0 => by simp [rw1, row]
  | t + 1 => by have := rw1_le w t; rw [rw1_len]; (first | lia | omega)
/-- the flags of the laps 1 .. k -/
noncomputable def flags (w : List Int) (k : Nat) : List D := (List.range k).map fun t => .list (dbs ((row w (t + 1)).map (·.2)))
theorem flags_succ (w : List Int) (k : Nat) : flags w (k + 1) = flags w k ++ [.list (dbs ((row w (k + 1)).map (·.2)))] := by simp [flags, List.range_succ]
structure PI (w : List Int) (L : Int) (k : Nat) (σ : St) : Prop where
  s0 : σ 0 = .sh (.list (di w))
  s1 : σ 1 = .sh (.int L)
  s2 : σ 2 = .ow (flags w k)
  s3 : σ 3 = .sh (.list (di (rw1 w k)))
  s7 : σ 101 = .no
theorem p_step1 {w : List Int} (hw : w.length ≤ 9) {L : Int} {k : Nat} (hk : k ≤ 8) {σ : St} {y : D} (h : PI w L k σ) : ∃ σ', pBd1 (upd σ 4 (.sh y)) = some (.nxt, σ') ∧ PI w L (k + 1) σ' := by
  have hrl := rw1_le w k
  have lr := len_spec (l := rw1 w k) (by (first | lia | omega))
  have hpl : (prs (rw1 w k)).length ≤ 19 := by rw [prs_len]; (first | lia | omega)
  have hm := merged_spec (w := w) (p := prs (rw1 w k)) (by (first | assumption | exact Nat.le_trans (by assumption) (by decide) | exact Int.le_trans (by assumption) (by decide) | exact Nat.lt_of_lt_of_le (by assumption) (by assumption) | exact Nat.le_trans (by assumption) (by assumption) | exact Nat.lt_of_lt_of_le (by assumption) (by decide))) hpl
  have near0 : near 0 := by decide
  have nearn : near ((rw1 w k).length - 1 : Int) := ⟨by (first | lia | omega), by (first | lia | omega)⟩
  have hc := pairs_comp (r := rw1 w k) (by (first | lia | omega)) (σ := inner [(1, 3)] (upd σ 4 (.sh y))) (by simp [inner, List.lookup, h.s3, shc])
  have hz : (one (di (rngI 0 (((rw1 w k).length : Int) - 1) 2))).length ≤ 1048576 := by
    rw [one_len, di_len, rng2_eq]; simp; (first | lia | omega)
  have e1 : (xComp (iRng (xB3 bRng3 (xCons (xInt 0) (xCons (xBin oSub (xB1 bLen (bGen (xVar 3))) (xInt 1)) (xCons (xInt 2) xNil))))) [(1, 3)] [0] xTrue (xBin oAdd (xSub (bGen (xVar 1)) (xVar 0)) (xSub (bGen (xVar 1)) (xBin oAdd (xVar 0) (xInt 1))))) (upd σ 4 (.sh y)) = some (.list (di (prs (rw1 w k))), upd σ 4 (.sh y)) := by
    have e2 : iRng (xB3 bRng3 (xCons (xInt 0) (xCons (xBin oSub (xB1 bLen (bGen (xVar 3))) (xInt 1)) (xCons (xInt 2) xNil)))) (upd σ 4 (.sh y)) = some (one (di (rngI 0 (((rw1 w k).length : Int) - 1) 2)), upd σ 4 (.sh y)) := by
      unfold iRng
      simp [h.s3, lr, oSub, bRng3, near0, nearn]
    unfold xComp
    rw [e2]
    simp only [Option.bind_some]
    rw [if_pos hz, hc]
    rfl
  have hfl : (flags w k).length ≤ 1048576 := by simp [flags]; (first | assumption | exact Nat.le_trans (by assumption) (by decide) | exact Int.le_trans (by assumption) (by decide) | exact Nat.lt_of_lt_of_le (by assumption) (by assumption) | exact Nat.le_trans (by assumption) (by assumption) | exact Nat.lt_of_lt_of_le (by assumption) (by decide))
  refine ⟨upd (upd (upd (upd (upd σ 4 (.sh y)) 5 (.sh (.list (di (prs (rw1 w k)))))) 3 (.sh (.list (di (rw1 w (k + 1)))))) 6 (.sh (.list (dbs ((row w (k + 1)).map (·.2)))))) 2 (.ow (flags w (k + 1))), ?_, ⟨by (first | exact h.s0 | simp [h.s0]), by (first | exact h.s1 | simp [h.s1]), by (first | rfl | simp), by (first | rfl | simp), by (first | exact h.s7 | simp [h.s7])⟩⟩
  unfold pBd1
  rw [y_seq, y_set, e1]
  simp [h.s0, hm, h.s2, hfl, flags_succ]
  rfl

theorem y_augAt (i : Nat) (f : D → D → Option D) (G F : Ev) (σ : St) : yAugAt i f G F σ = (own? (σ i)).bind fun _ => (G σ).bind fun q => (own? (q.2 i)).bind fun l => (nthD (.list l) q.1).bind fun old => (F q.2).bind fun p => (f old p.1).bind fun new => (own? (p.2 i)).bind fun l2 => match q.1 with
  | .int k => if 0 ≤ k ∧ k < l2.length ∧ l2.length ≤ 1048576 then some (.nxt, upd p.2 i (.ow (l2.set k.toNat new))) else none
  | _ => none := rfl
theorem dbs_get {l : List Bool} {k : Nat} {d : D} (h : (dbs l)[k]? = some d) : ∃ b, l[k]? = some b ∧ d = .bool b := by
  simp only [dbs, List.getElem?_map, Option.map_eq_some_iff] at h
  obtain ⟨i, h1, h2⟩ := h
  exact ⟨i, h1, h2.symm⟩
theorem t_loop (fl : List Bool) {σ : St} (h9 : σ 9 = .sh (.int 0)) : ∃ σ', forGo [10] (ySeq pBdT yNil) (one (dbs fl)) σ = some (.nxt, σ') ∧ σ' 9 = .sh (.int ((fl.filter id).length : Nat)) ∧ ∀ j, j ≠ 9 → j ≠ 10 → σ' j = σ j := by
  obtain ⟨σ', e, h1, h2⟩ := for_loop (tgi := [10]) (Bd := ySeq pBdT yNil) (rows := one (dbs fl)) (fun k σ' => σ' 9 = .sh (.int (((fl.take k).filter id).length : Nat)) ∧ ∀ j, j ≠ 9 → j ≠ 10 → σ' j = σ j) (fun k r τ hr hI0 => by
    obtain ⟨h1, h2⟩ := hI0
    obtain ⟨x, hx, rfl⟩ := one_get hr
    obtain ⟨b, hb, rfl⟩ := dbs_get hx
    have e : fl.take (k + 1) = fl.take k ++ [b] := by rw [List.take_succ, hb]; rfl
    refine ⟨upd τ 10 (.sh (.bool b)), upd (upd τ 10 (.sh (.bool b))) 9 (.sh (.int ((((fl.take k).filter id).length : Nat) + (if b then 1 else 0)))), rfl, ?_, ?_, fun j h9 h10 => by simp [h9, h10, h2 j h9 h10]⟩
    · unfold pBdT
      simp [h1, bInt, oIadd]
    · rw [e]; cases b <;> simp) (σ := σ) ⟨by simpa using h9, fun _ _ _ => rfl⟩
  rw [one_len] at h1
  have e2 : (dbs fl).length = fl.length := by simp [dbs]
  rw [e2, List.take_length] at h1
  exact ⟨σ', e, h1, h2⟩
theorem add1_get : ∀ (k : Nat) (d : List Nat), k < d.length → (add1 k d)[k]? = d[k]?
  | 0, d, _ => by simp [add1]
  | k + 1, [], h => by simp at h
  | k + 1, x :: d, h => by
    simp only [add1, List.getElem?_cons_succ]
    exact add1_get k d (by simpa using h)
theorem add1_succ : ∀ (k : Nat) (d : List Nat) (x : Nat), d[k]? = some x → add1 (k + 1) d = (add1 k d).set k (x + 1)
  | 0, [], x, h => by simp at h
  | 0, y :: d, x, h => by
    simp at h; subst h
    simp [add1]
  | k + 1, [], x, h => by simp at h
  | k + 1, y :: d, x, h => by
    have := add1_succ k d x (by simpa using h)
    show (y + 1) :: add1 (k + 1) d = ((y + 1) :: add1 k d).set (k + 1) (x + 1)
    rw [this]; rfl
theorem din_len (d : List Nat) : (din d).length = d.length := by simp [din]
theorem din_nth {d : List Nat} {k x : Nat} (h : d[k]? = some x) (hd : d.length ≤ 1048576) : nthD (.list (din d)) (.int k) = some (.int x) := by
  simp only [nthD, din_len]
  rw [if_pos hd, if_pos (by (first | lia | omega))]
  simp [din, h]
theorem a_loop {a : Nat} {d : List Nat} (ha : a ≤ d.length) (hd : d.length ≤ 1000) {σ : St} (h7 : σ 7 = .ow (din d)) : ∃ σ', forGo [11] (ySeq pBdP yNil) (one (di (rngI 0 a 1))) σ = some (.nxt, σ') ∧ σ' 7 = .ow (din (add1 a d)) ∧ ∀ j, j ≠ 7 → j ≠ 11 → σ' j = σ j := by
  obtain ⟨σ', e, h1, h2⟩ := for_loop (tgi := [11]) (Bd := ySeq pBdP yNil) (rows := one (di (rngI 0 a 1))) (fun k σ' => σ' 7 = .ow (din (add1 k d)) ∧ ∀ j, j ≠ 7 → j ≠ 11 → σ' j = σ j) (fun k r τ hr hI0 => by
    obtain ⟨h1, h2⟩ := hI0
    obtain ⟨x, hx, rfl⟩ := one_get hr
    obtain ⟨i, hi, rfl⟩ := di_get hx
    obtain ⟨rfl, hk⟩ := rng1_get hi
    have hkd : k < d.length := by (first | lia | omega)
    obtain ⟨x, hx⟩ : ∃ x, d[k]? = some x := ⟨_, List.getElem?_eq_getElem hkd⟩
    have hl : (add1 k d).length = d.length := add1_len k d
    have nx := din_nth (d := add1 k d) (k := k) (x := x) (by rw [add1_get k d hkd]; exact hx) (by (first | lia | omega))
    have hcond : 0 ≤ (k : Int) ∧ (k : Int) < ((din (add1 k d)).length : Int) ∧ (din (add1 k d)).length ≤ 1048576 := ⟨by (first | lia | omega), by rw [din_len]; (first | lia | omega), by rw [din_len]; (first | lia | omega)⟩
    have hset : (din (add1 k d)).set k (.int ((x : Int) + 1)) = din (add1 (k + 1) d) := by
      rw [add1_succ k d x hx]; simp [din]
    refine ⟨upd τ 11 (.sh (.int k)), upd (upd τ 11 (.sh (.int k))) 7 (.ow (din (add1 (k + 1) d))), rfl, ?_, by (first | rfl | simp), fun j h7 h11 => by simp [h7, h11, h2 j h7 h11]⟩
    have e1 : (upd τ 11 (.sh (.int (k : Int)))) 7 = .ow (din (add1 k d)) := by simp [h1]
    have e2 : (upd τ 11 (.sh (.int (k : Int)))) 11 = .sh (.int k) := by simp
    generalize upd τ 11 (.sh (.int (k : Int))) = τ2 at e1 e2
    have g : pBdP τ2 = some (.nxt, upd τ2 7 (.ow (din (add1 (k + 1) d)))) := by
      unfold pBdP
      simp only [y_augAt, e1, e_own?, Option.bind_some, e_var, e2, nx, e_int, oIadd]
      rw [if_pos hcond, ← hset]
      rfl
    rw [y_seq, g]; rfl) (σ := σ) ⟨by simpa [add1] using h7, fun _ _ _ => rfl⟩
  rw [one_len, di_len, rng1_len (by (first | lia | omega))] at h1
  have e2 : ((a : Int)).toNat = a := by (first | lia | omega)
  rw [e2] at h1
  exact ⟨σ', e, h1, h2⟩

noncomputable def addL : List Nat → List Nat → List Nat
  | x :: a, y :: b => (x + y) :: addL a b
  | _, _ => []
theorem addL_add1 : ∀ (k : Nat) (a b : List Nat), a.length = b.length → addL (add1 k a) b = addL a (add1 k b)
  | 0, a, b, _ => by simp [add1]
  | k + 1, [], [], _ => rfl
  | k + 1, [], y :: b, h => by simp at h
  | k + 1, x :: a, [], h => by simp at h
  | k + 1, x :: a, y :: b, h => by
    simp only [add1, addL]
    rw [addL_add1 k a b (by simpa using h)]
    congr 1; (first | lia | omega)
theorem addL_zero : ∀ (b : List Nat), addL (List.replicate b.length 0) b = b
  | [] => rfl
  | y :: b => by simp only [List.length_cons, List.replicate_succ, addL, addL_zero b]; congr 1; (first | lia | omega)
theorem addL_zero' : ∀ (b : List Nat), addL b (List.replicate b.length 0) = b
  | [] => rfl
  | y :: b => by simp only [List.length_cons, List.replicate_succ, addL, addL_zero' b]; congr 1
theorem tk_eq (r : List (Int × Bool)) (k : Nat) : (((r.map (·.2)).take k).filter id).length = tk r k := by
  unfold tk
  rw [← List.map_take, List.filter_map, List.length_map]
  rfl
theorem tk_le (r : List (Int × Bool)) (k : Nat) : tk r k ≤ k := by
  unfold tk
  have h1 := List.length_filter_le (·.2) (r.take k)
  have h2 := List.length_take_le k r
  (first | assumption | exact Nat.le_trans (by assumption) (by decide) | exact Int.le_trans (by assumption) (by decide) | exact Nat.lt_of_lt_of_le (by assumption) (by assumption) | exact Nat.le_trans (by assumption) (by assumption) | exact Nat.lt_of_lt_of_le (by assumption) (by decide))
structure QI (w : List Int) (L t : Nat) (σ : St) : Prop where
  e : ∃ acc k, σ 7 = .ow (din acc) ∧ σ 8 = .sh (.int (k : Nat)) ∧ acc.length = w.length ∧ addL acc (dps w t k) = dps w L (2 * w.length - 2) ∧ k ≤ (rw1 w t).length
theorem p_step2 {w : List Int} (hw : w.length ≤ 9) {L t : Nat} {σ : St} (h : QI w L (t + 1) σ) : ∃ σ', pBd2 (upd σ 6 (.sh (.list (dbs ((row w (t + 1)).map (·.2)))))) = some (.nxt, σ') ∧ QI w L t σ' := by
  obtain ⟨acc, k, h7, h8, hl, hd, hk⟩ := h.e
  have hrl := rw1_le w (t + 1)
  have hkt : k ≤ w.length + (rw1 w t).length / 2 := by rw [rw1_len] at hk; exact hk
  obtain ⟨m1, m2, m3, _⟩ := mg_split w (prs (rw1 w t)) k (by rw [prs_len]; exact hkt)
  rw [prs_len] at m3
  have htk : tk (mg w (prs (rw1 w t))) k = tk (row w (t + 1)) k := rfl
  rw [htk] at m1 m2 m3
  have hfl : ((row w (t + 1)).map (·.2)).length ≤ 1048576 := by rw [List.length_map, row_len]; (first | lia | omega)
  have hup : uptoD (.list (dbs ((row w (t + 1)).map (·.2)))) (.int k) = some (.list (dbs (((row w (t + 1)).map (·.2)).take k))) := by
    simp only [uptoD]
    rw [if_pos ⟨by (first | lia | omega), by simpa [dbs] using hfl⟩]
    simp [dbs]
  generalize hσ0 : upd (upd σ 6 (.sh (.list (dbs ((row w (t + 1)).map (·.2)))))) 9 (.sh (.int 0)) = σ0
  have a6 : σ0 6 = .sh (.list (dbs ((row w (t + 1)).map (·.2)))) := by first | exact (congrFun hσ0.symm _).trans rfl | (rw [← hσ0]; simp)
  have a7 : σ0 7 = .ow (din acc) := by first | exact (congrFun hσ0.symm _).trans h7 | (rw [← hσ0]; simp [h7])
  have a8 : σ0 8 = .sh (.int k) := by first | exact (congrFun hσ0.symm _).trans h8 | (rw [← hσ0]; simp [h8])
  obtain ⟨σ1, e1, t9, tj⟩ := t_loop (((row w (t + 1)).map (·.2)).take k) (σ := σ0) (by first | exact (congrFun hσ0.symm _).trans rfl | (rw [← hσ0]; simp))
  rw [tk_eq] at t9
  generalize htk2 : tk (row w (t + 1)) k = a at *
  obtain ⟨σ2, e2, b7, bj⟩ := a_loop (a := a) (d := acc) (by (first | lia | omega)) (by (first | lia | omega)) (σ := σ1) (by rw [tj 7 (by decide) (by decide)]; exact a7)
  have near0 : near 0 := by decide
  have neara : near (a : Int) := ⟨by (first | lia | omega), by (first | lia | omega)⟩
  have c8 : σ2 8 = .sh (.int k) := by rw [bj 8 (by decide) (by decide), tj 8 (by decide) (by decide)]; exact a8
  have c9 : σ2 9 = .sh (.int a) := by rw [bj 9 (by decide) (by decide)]; exact t9
  have hs2 : small 2 := by decide
  have e3 : ((2 : Int) * ((k : Int) - (a : Int))) = ((2 * (k - a) : Nat) : Int) := by (first | lia | omega)
  refine ⟨upd σ2 8 (.sh (.int ((2 * (k - a) : Nat) : Int))), ?_, ⟨add1 a acc, 2 * (k - a), by (first | exact b7 | simp [b7]), by (first | rfl | simp), by rw [add1_len]; exact hl, ?_, by (first | lia | omega)⟩⟩
  · unfold pBd2
    rw [y_seq, y_set]
    simp only [e_int, Option.map_some, Option.bind_some]
    rw [hσ0, y_seq, f_for]
    have i1 : iList (xUpto (bGen (xVar 6)) (xVar 8)) σ0 = some (one (dbs (((row w (t + 1)).map (·.2)).take k)), σ0) := by
      unfold iList
      simp [a6, a8, hup, list?]
    rw [i1]
    simp only [Option.bind_some]
    rw [e1]
    simp only [Option.bind_some]
    rw [y_seq, f_for]
    have i2 : iRng (xB1 bRng1 (bGen (xVar 9))) σ1 = some (one (di (rngI 0 a 1)), σ1) := by
      unfold iRng
      simp [t9, bRng1, near0, neara]
    rw [i2]
    simp only [Option.bind_some]
    rw [e2]
    simp only [Option.bind_some]
    rw [← e3]
    simp [c8, c9, oSub, oMul, hs2]
  · rw [← hd, dps, htk2, addL_add1 _ _ _ (by rw [hl, dps_len])]
end Mine
end

section
set_option autoImplicit false
namespace Mine
open PySem

theorem package_spec {w : List Int} (hw : w.length ≤ 9) (hw1 : 1 ≤ w.length) {L : Nat} (hL : L ≤ 8) (hr : 2 * w.length - 2 ≤ (rw1 w L).length) : g_package_depths [.list (di w), .int L] = some (.list (din (dps w L (2 * w.length - 2)))) := by
  have near0 : near 0 := by decide
  have nearL : near (L : Int) := ⟨by (first | lia | omega), by (first | lia | omega)⟩
  have lw := len_spec (l := w) (by (first | lia | omega))
  have hs2 : small 2 := by decide
  have hsw : small (w.length : Int) := ⟨by (first | lia | omega), by (first | lia | omega)⟩
  generalize hσ : upd (upd (upd (upd (initS [.list (di w), .int L]) 100 (.ow [])) 100 .no) 2 (.ow [])) 3 (.sh (.list [])) = σ0
  have i0 : PI w L 0 σ0 := by
    subst hσ
    exact ⟨by (first | rfl | simp), by (first | rfl | simp), by (first | exact flags | simp [flags]), by simp [rw1, row, di], by (first | rfl | simp)⟩
  obtain ⟨σ1, e1, i1⟩ := for_loop (tgi := [4]) (Bd := pBd1) (rows := one (di (rngI 0 L 1))) (PI w L) (fun k r τ hr hI => by
    obtain ⟨x, hx, rfl⟩ := one_get hr
    obtain ⟨i, hi, rfl⟩ := di_get hx
    obtain ⟨rfl, hk⟩ := rng1_get hi
    obtain ⟨σ', e, hI'⟩ := p_step1 hw (by (first | lia | omega)) (y := .int k) hI
    exact ⟨_, σ', rfl, e, hI'⟩) i0
  rw [one_len, di_len, rng1_len (by (first | lia | omega))] at i1
  have eL : ((L : Int)).toNat = L := by (first | lia | omega)
  rw [eL] at i1
  have hz : (List.replicate ((w.length : Int)).toNat [D.int 0]).flatten = din (List.replicate w.length 0) := by
    have e : ((w.length : Int)).toNat = w.length := by (first | lia | omega)
    rw [e]
    induction w.length with
    | zero => rfl
    | succ n ih => rw [List.replicate_succ, List.flatten_cons, ih]; simp [din, List.replicate_succ]
  have hmulc : [D.int 0].length * ((w.length : Int)).toNat ≤ 1048576 ∧ small (w.length : Int) := ⟨by simp; (first | lia | omega), hsw⟩
  have e3 : ((2 : Int) * (w.length : Int) - 2) = ((2 * w.length - 2 : Nat) : Int) := by (first | lia | omega)
  have emid : pMid σ1 = some (.nxt, upd (upd (upd (upd σ1 101 (.ow (din (List.replicate w.length 0)))) 8 (.sh (.int ((2 * w.length - 2 : Nat) : Int)))) 101 .no) 7 (.ow (din (List.replicate w.length 0)))) := by
    unfold pMid
    have f1 : fMul (xCons (xInt 0) xNil) (xB1 bLen (bGen (xVar 0))) σ1 = some (din (List.replicate w.length 0), σ1) := by
      unfold fMul
      simp only [e_cons, e_int, e_nil, Option.bind_some, Option.map_some, e_b1, e_gen, e_var, i1.s0, lw]
      rw [if_pos hmulc, hz]
    rw [y_swp, x_ow, f1]
    simp [i1.s0, i1.s7, lw, oMul, oSub, hs2, e3]
  generalize hσ2 : upd (upd (upd (upd σ1 101 (.ow (din (List.replicate w.length 0)))) 8 (.sh (.int ((2 * w.length - 2 : Nat) : Int)))) 101 .no) 7 (.ow (din (List.replicate w.length 0))) = σ2 at emid
  have s22 : σ2 2 = .ow (flags w L) := by first | exact (congrFun hσ2.symm _).trans i1.s2 | (rw [← hσ2]; simp [i1.s2])
  have q0 : QI w L L (upd σ2 2 .no) := ⟨List.replicate w.length 0, 2 * w.length - 2, by rw [← hσ2]; simp, by rw [← hσ2]; simp, by (first | rfl | simp), by
    have := addL_zero (dps w L (2 * w.length - 2))
    rwa [dps_len] at this, hr⟩
  have hfl : (flags w L).length = L := by simp [flags]
  obtain ⟨σ3, e4, q1⟩ := for_loop (tgi := [6]) (Bd := pBd2) (rows := one (flags w L).reverse) (fun k σ => QI w L (L - k) σ) (fun k r τ hr hI => by
    obtain ⟨x, hx, rfl⟩ := one_get hr
    obtain ⟨hlt, hx'⟩ := List.getElem?_eq_some_iff.mp hx
    rw [List.length_reverse, hfl] at hlt
    have hxe : x = .list (dbs ((row w ((L - (k + 1)) + 1)).map (·.2))) := by
      rw [← hx', List.getElem_reverse]
      simp only [hfl]
      have e : L - 1 - k = L - (k + 1) := by (first | lia | omega)
      simp [flags, e]
    have et : L - k = (L - (k + 1)) + 1 := by (first | lia | omega)
    rw [et] at hI
    obtain ⟨σ', e, hI'⟩ := p_step2 hw hI
    exact ⟨upd τ 6 (.sh x), σ', rfl, by rw [hxe]; exact e, hI'⟩) (by simpa using q0)
  rw [one_len, List.length_reverse, hfl, Nat.sub_self] at q1
  obtain ⟨acc, k, h7, _, hl, hd, _⟩ := q1.e
  have hacc : acc = dps w L (2 * w.length - 2) := by
    rw [← hd]
    have := addL_zero' acc
    rw [hl] at this
    exact this.symm
  have iRv : iRev (xMov 2) σ2 = some (one (flags w L).reverse, upd σ2 2 .no) := by
    unfold iRev
    simp [s22, list?]
  have iRn : iRng (xB1 bRng1 (bGen (xVar 1))) σ0 = some (one (di (rngI 0 L 1)), σ0) := by
    unfold iRng
    simp [i0.s1, bRng1, near0, nearL]
  have et : yTup [2, 3] (eOw 100 xNil (eSh (xList xNil) eNil)) (initS [.list (di w), .int L]) = some (.nxt, σ0) := by
    rw [← hσ]
    simp
  simp only [g_package_depths, gOf, List.length_cons, List.length_nil, if_true, f_package_eq]
  rw [seq_eq et]
  rw [seq_for iRn e1]
  rw [seq_eq emid]
  rw [seq_for iRv e4]
  simp [h7, resD, hacc]
end Mine
end

section
set_option autoImplicit false
namespace Mine
open PySem

theorem din_di (d : List Nat) : din d = di (d.map fun n : Nat => (n : Int)) := by simp [din, di]
theorem dp_nth {us : List (Int × Int)} {k : Nat} {p : Int × Int} (h : us[k]? = some p) (hl : us.length ≤ 1048576) : nthD (.list (dp us)) (.int k) = some (.tup [.int p.1, .int p.2]) := by
  have e : (dp us).length = us.length := by simp [dp]
  simp only [nthD, e]
  rw [if_pos hl, if_pos (by (first | lia | omega))]
  simp [dp, h]
theorem tup_nth0 (a b : D) : nthD (.tup [a, b]) (.int 0) = some a := by simp [nthD]
theorem tup_nth1 (a b : D) : nthD (.tup [a, b]) (.int 1) = some b := by simp [nthD]

noncomputable def plBd : Ex := (ySeq (yAt 3 (xVar 5) (xSub (bGen (xSub (bGen (xVar 1)) (xVar 4))) (xInt 1))) yNil)
theorem f_placed_eq : f_placed = ySeq (ySetO 3 100 (fMul (xCons (xInt 0) xNil) (xVar 0))) (ySeq (yFor (iEnum (xVar 2)) [4, 5] plBd) (ySeq (yRet (xMov 3)) yNil)) := rfl
theorem zeros_eq (n : Nat) : (List.replicate ((n : Int)).toNat [D.int 0]).flatten = din (List.replicate n 0) := by
  have e : ((n : Int)).toNat = n := by (first | lia | omega)
  rw [e]
  induction n with
  | zero => rfl
  | succ n ih => rw [List.replicate_succ, List.flatten_cons, ih (by (first | lia | omega))]; simp [din, List.replicate_succ]
structure PL (us : List (Int × Int)) (d : List Nat) (size k : Nat) (σ : St) : Prop where
  e : ∃ lens, σ 3 = .ow (din lens) ∧ lens.length = size ∧ ∀ j p, j < k → us[j]? = some p → lens[p.2.toNat]? = d[j]?
  s1 : σ 1 = .sh (.list (dp us))
theorem placed_spec {us : List (Int × Int)} {d : List Nat} {size : Nat} (hs : size ≤ 1000) (hl : d.length = us.length) (hu : ∀ p ∈ us, 0 ≤ p.2 ∧ p.2 < size) (hnd : us.Pairwise fun p q => p.2 ≠ q.2) (hul : us.length ≤ 1000) :
    ∃ lens : List Nat, g_placed [.int size, .list (dp us), .list (din d)] = some (.list (din lens)) ∧ lens.length = size ∧ ∀ (j : Nat) (p : Int × Int), us[j]? = some p → lens[p.2.toNat]? = d[j]? := by
  have hss : small (size : Int) := ⟨by (first | lia | omega), by (first | lia | omega)⟩
  have hmulc : [D.int 0].length * ((size : Int)).toNat ≤ 1048576 ∧ small (size : Int) := ⟨by simp; (first | assumption | exact Nat.le_trans (by assumption) (by decide) | exact Int.le_trans (by assumption) (by decide) | exact Nat.lt_of_lt_of_le (by assumption) (by assumption) | exact Nat.le_trans (by assumption) (by assumption) | exact Nat.lt_of_lt_of_le (by assumption) (by decide)), hss⟩
  generalize hσ : upd (upd (upd (initS [.int size, .list (dp us), .list (din d)]) 100 (.ow (din (List.replicate size 0)))) 100 .no) 3 (.ow (din (List.replicate size 0))) = σ0
  have i0 : PL us d size 0 σ0 := by
    subst hσ
    exact ⟨⟨List.replicate size 0, by (first | rfl | simp), by (first | rfl | simp), fun j p hj => by (first | lia | omega)⟩, by (first | rfl | simp)⟩
  obtain ⟨σ1, e1, i1⟩ := for_loop (tgi := [4, 5]) (Bd := plBd) (rows := enumD (din d)) (PL us d size) (fun k row τ hr hI => by
    rw [din_di] at hr
    obtain ⟨c, hc, rfl⟩ := enum_row hr
    simp only [List.getElem?_map, Option.map_eq_some_iff] at hc
    obtain ⟨x, hx, rfl⟩ := hc
    have hkd : k < d.length := (List.getElem?_eq_some_iff.mp hx).1
    obtain ⟨p, hp⟩ : ∃ p, us[k]? = some p := ⟨_, List.getElem?_eq_getElem (by (first | lia | omega) : k < us.length)⟩
    obtain ⟨lens, h3, hlen, hall⟩ := hI.e
    have hps := hu p (List.mem_of_getElem? hp)
    have n1 := dp_nth hp (by (first | assumption | exact Nat.le_trans (by assumption) (by decide) | exact Int.le_trans (by assumption) (by decide) | exact Nat.lt_of_lt_of_le (by assumption) (by assumption) | exact Nat.le_trans (by assumption) (by assumption) | exact Nat.lt_of_lt_of_le (by assumption) (by decide)))
    obtain ⟨sp, hsp⟩ : ∃ sp : Nat, p.2 = sp := ⟨p.2.toNat, by (first | lia | omega)⟩
    have hcond : 0 ≤ (sp : Int) ∧ (sp : Int) < ((din lens).length : Int) ∧ (din lens).length ≤ 1048576 := ⟨by (first | lia | omega), by rw [din_len]; (first | lia | omega), by rw [din_len]; (first | lia | omega)⟩
    have hset : (din lens).set sp (.int (x : Int)) = din (lens.set sp x) := by simp [din]
    rw [hsp] at n1
    refine ⟨upd (upd τ 4 (.sh (.int k))) 5 (.sh (.int x)), upd (upd (upd τ 4 (.sh (.int k))) 5 (.sh (.int x))) 3 (.ow (din (lens.set sp x))), rfl, ?_, ⟨⟨lens.set sp x, by (first | rfl | simp), by simpa using hlen, fun j q hj hq => ?_⟩, by (first | exact hI.s1 | simp [hI.s1])⟩⟩
    · have e3 : (upd (upd τ 4 (.sh (.int (k : Int)))) 5 (.sh (.int (x : Int)))) 3 = .ow (din lens) := by simp [h3]
      have e1 : (upd (upd τ 4 (.sh (.int (k : Int)))) 5 (.sh (.int (x : Int)))) 1 = .sh (.list (dp us)) := by simp [hI.s1]
      have e4 : (upd (upd τ 4 (.sh (.int (k : Int)))) 5 (.sh (.int (x : Int)))) 4 = .sh (.int k) := by simp
      have e5 : (upd (upd τ 4 (.sh (.int (k : Int)))) 5 (.sh (.int (x : Int)))) 5 = .sh (.int x) := by simp
      generalize upd (upd τ 4 (.sh (.int (k : Int)))) 5 (.sh (.int (x : Int))) = τ2 at *
      have g : yAt 3 (xVar 5) (xSub (bGen (xSub (bGen (xVar 1)) (xVar 4))) (xInt 1)) τ2 = some (.nxt, upd τ2 3 (.ow (din (lens.set sp x)))) := by
        simp only [y_at, e_var, e5, Option.bind_some, e3, e_own?, e_sub, e_gen, e1, e4, Option.map_some, n1, e_int, tup_nth1]
        rw [if_pos hcond, ← hset]
        rfl
      unfold plBd
      rw [y_seq, g]; rfl
    · by_cases hjk : j = k
      · subst hjk
        rw [hp] at hq; cases hq
        have e : p.2.toNat = sp := by (first | lia | omega)
        rw [e, hx, List.getElem?_set_self (by (first | lia | omega))]
      · have := hall j q (by (first | lia | omega)) hq
        have hne : q.2 ≠ p.2 := by
          obtain ⟨hj1, hq1⟩ := List.getElem?_eq_some_iff.mp hq
          obtain ⟨hk1, hp1⟩ := List.getElem?_eq_some_iff.mp hp
          have := List.pairwise_iff_getElem.mp hnd j k hj1 hk1 (by (first | lia | omega))
          rw [hq1, hp1] at this; exact this
        have hq0 := hu q (List.mem_of_getElem? hq)
        rw [List.getElem?_set_ne (by (first | lia | omega))]
        exact this) i0
  rw [enum_len, din_len] at i1
  obtain ⟨lens, h3, hlen, hall⟩ := i1.e
  refine ⟨lens, ?_, hlen, fun j p hp => hall j p (by have := (List.getElem?_eq_some_iff.mp hp).1; (first | lia | omega)) hp⟩
  have es : ySetO 3 100 (fMul (xCons (xInt 0) xNil) (xVar 0)) (initS [.int size, .list (dp us), .list (din d)]) = some (.nxt, σ0) := by
    have f1 : fMul (xCons (xInt 0) xNil) (xVar 0) (initS [.int size, .list (dp us), .list (din d)]) = some (din (List.replicate size 0), initS [.int size, .list (dp us), .list (din d)]) := by
      unfold fMul
      simp only [e_cons, e_int, e_nil, Option.bind_some, Option.map_some, e_var, s_init, List.getElem?_cons_zero]
      rw [if_pos hmulc, zeros_eq]
    rw [y_setO, f1, ← hσ]
    simp
  have ie : iEnum (xVar 2) σ0 = some (enumD (din d), σ0) := by
    unfold iEnum
    rw [← hσ]
    simp [list?]
  simp only [g_placed, gOf, List.length_cons, List.length_nil, if_true, f_placed_eq]
  rw [seq_eq es]
  rw [seq_for ie e1]
  simp [h3, resD]

theorem room_spec {n L : Nat} (hn : n ≤ 2 ^ L) (h1 : 1 ≤ L) (hL : L ≤ 8) : g_check_room [.int n, .int L] = some .none := by
  have e : (if (L : Int) > 0 then (L : Int) else 0) = L := by (first | lia | omega)
  have hs1 : small 1 := by decide
  have hb : (0 ≤ (L : Int) ∧ (L : Int) ≤ 1000 ∧ small 1) := ⟨by (first | lia | omega), by (first | lia | omega), hs1⟩
  have eL : ((L : Int)).toNat = L := by (first | lia | omega)
  have hp : (1 : Int) * 2 ^ L = ((2 ^ L : Nat) : Int) := by push_cast; (first | lia | omega)
  have h2 : decide (((2 ^ L : Nat) : Int) < n) = false := by
    rw [decide_eq_false_iff_not]
    (first | lia | omega)
  have h3 : decide ((L : Int) < 1) = false := by rw [decide_eq_false_iff_not]; (first | lia | omega)
  have hm : bMax2 (.int 0) (.int L) = some (.int L) := by simp only [bMax2, e]
  have hsh : oShl (.int 1) (.int L) = some (.int ((2 ^ L : Nat) : Int)) := by
    simp only [oShl]
    rw [if_pos hb, eL, hp]
  have g1 : cGt (.int n) (.int ((2 ^ L : Nat) : Int)) = some (.bool false) := by simp only [cGt, h2]
  have g2 : cLt (.int L) (.int 1) = some (.bool false) := by simp only [cLt, h3]
  generalize ((2 ^ L : Nat) : Int) = z at *
  simp only [g_check_room, gOf, List.length_cons, List.length_nil, if_true, f_check_room]
  by_cases c : 0 < n
  · have g3 : cGt (.int n) (.int 0) = some (.bool true) := by simp [cGt, c]
    simp [g1, g2, g3, hm, hsh, resD]
  · have g3 : cGt (.int n) (.int 0) = some (.bool false) := by simp [cGt, c]
    simp [g1, g2, g3, hm, hsh, resD]
end Mine
end

section
set_option autoImplicit false
namespace Mine
open PySem

/-- the row's used symbols, sorted -/
noncomputable def us (r : List Int) : List (Int × Int) := psort (up r 0)
noncomputable def uw (r : List Int) : List Int := (us r).map (·.1)
theorem us_perm (r : List Int) : (us r).Perm (up r 0) := psort_perm _
theorem us_len (r : List Int) : (us r).length = (up r 0).length := (us_perm r).length_eq
theorem us_mem {r : List Int} {p : Int × Int} (h : p ∈ us r) : 0 ≤ p.2 ∧ p.2 < r.length ∧ 0 < p.1 ∧ r.getD p.2.toNat 0 = p.1 := by
  obtain ⟨h1, h2, h3, h4⟩ := up_mem r 0 p ((us_perm r).mem_iff.mp h)
  exact ⟨by (first | assumption | exact Nat.le_trans (by assumption) (by decide) | exact Int.le_trans (by assumption) (by decide) | exact Nat.lt_of_lt_of_le (by assumption) (by assumption) | exact Nat.le_trans (by assumption) (by assumption) | exact Nat.lt_of_lt_of_le (by assumption) (by decide)), by (first | lia | omega), h3, by simpa using h4⟩
theorem uw_asc {r : List Int} (hr : r.length ≤ 64) : Asc (uw r) := by
  unfold uw Asc
  rw [List.pairwise_map]
  have hs : (us r).Pairwise fun a b => pkey a ≤ pkey b := psort_sorted _
  rw [List.pairwise_iff_getElem] at hs ⊢
  intro i j hi hj hij
  have h := hs i j hi hj hij
  have h1 := us_mem (List.getElem_mem hi)
  have h2 := us_mem (List.getElem_mem hj)
  unfold pkey at h
  (first | lia | omega)
theorem uw_pos {r : List Int} : ∀ v ∈ uw r, 0 < v := fun v hv => by
  obtain ⟨p, hp, rfl⟩ := List.mem_map.mp hv
  exact (us_mem hp).2.2.1
theorem up_ne : ∀ (r : List Int) (k : Nat), (up r k).Pairwise fun p q => p.2 ≠ q.2
  | [], k => .nil
  | c :: r, k => by
    simp only [up]
    split
    · refine List.pairwise_cons.mpr ⟨fun q hq => ?_, up_ne r (k + 1)⟩
      have := (up_mem r (k + 1) q hq).1
      simp only [ne_eq]; (first | lia | omega)
    · exact up_ne r (k + 1)
theorem us_ne (r : List Int) : (us r).Pairwise fun p q => p.2 ≠ q.2 := (us_perm r).symm.pairwise (up_ne r 0) (fun h => Ne.symm h)
theorem rows_dp (l : List (Int × Int)) : rowsOf (dp l) = some (l.map fun p => [.int p.1, .int p.2]) := by
  induction l with
  | nil => rfl
  | cons p l ih => show (pairOf _).bind _ = _; simp only [pairOf, Option.bind_some]; show (rowsOf (dp l)).map _ = _; rw [ih]; rfl
theorem firsts_comp (l : List (Int × Int)) (σ : St) : compGo [0, 1] xTrue (xVar 0) (l.map fun p => [.int p.1, .int p.2]) σ = some (di (l.map (·.1))) := by
  rw [comp_spec (fun row => row.head?) (fun _ => True) (fun row hrow τ _ => by
    obtain ⟨p, _, rfl⟩ := List.mem_map.mp hrow
    exact ⟨upd (upd τ 0 (.sh (.int p.1))) 1 (.sh (.int p.2)), rfl, .inl ⟨.int p.1, upd (upd τ 0 (.sh (.int p.1))) 1 (.sh (.int p.2)), upd (upd τ 0 (.sh (.int p.1))) 1 (.sh (.int p.2)), rfl, rfl, by (first | rfl | simp), trivial⟩⟩) σ trivial]
  congr 1
  induction l with
  | nil => rfl
  | cons p l ih => simp only [List.map_cons, List.filterMap_cons, List.head?_cons] at ih ⊢; rw [ih]; rfl

/-- what the lengths of a row are: best for it, within the limit -/
structure Told (L : Nat) (r : List Int) (lens : List Nat) : Prop where
  len : lens.length = r.length
  opt : OptL L (uw r) ((us r).map fun p => lens.getD p.2.toNat 0)

theorem told_of {L : Nat} {r : List Int} {d lens : List Nat} (ho : OptL L (uw r) d) (hl : lens.length = r.length) (h : ∀ (j : Nat) (p : Int × Int), (us r)[j]? = some p → lens[p.2.toNat]? = d[j]?) : Told L r lens := by
  refine ⟨hl, ?_⟩
  have e : ((us r).map fun p => lens.getD p.2.toNat 0) = d := by
    have hd : d.length = (us r).length := by rw [ho.len]; simp [uw]
    apply List.ext_getElem (by (first | exact hd | simp [hd]))
    intro i h1 h2
    have hi : i < (us r).length := by simpa using h1
    have := h i (us r)[i] (List.getElem?_eq_getElem hi)
    rw [List.getElem?_eq_getElem h2] at this
    simp [List.getD_eq_getElem?_getD, this]
  rw [e]; exact ho

theorem least_spec {r : List Int} (h0 : ∀ c ∈ r, 0 ≤ c) (hn : r.length ≤ 9) (h2 : 2 ≤ (up r 0).length) {L : Nat} (hL1 : 1 ≤ L) (hL : L ≤ 8) (hroom : (up r 0).length ≤ 2 ^ L) : ∃ lens, g_least_lengths [.list (di r), .int L] = some (.list (din lens)) ∧ Told L r lens := by
  have hul := up_len r 0
  have hwl : (uw r).length = (up r 0).length := by simp [uw, us_len]
  have hus := used_spec h0 (by (first | lia | omega)) h2
  have hroomS := room_spec (n := (us r).length) (L := L) (by rw [us_len]; exact hroom) hL1 hL
  obtain ⟨hopt, hlen⟩ := pm_opt (uw_asc (r := r) (by (first | assumption | exact Nat.le_trans (by assumption) (by decide) | exact Int.le_trans (by assumption) (by decide) | exact Nat.lt_of_lt_of_le (by assumption) (by assumption) | exact Nat.le_trans (by assumption) (by assumption) | exact Nat.lt_of_lt_of_le (by assumption) (by decide)))) (fun v hv => Int.le_of_lt (uw_pos v hv)) hL (by (first | lia | omega)) (by rw [hwl]; exact hroom)
  have hpk := package_spec (w := uw r) (by (first | lia | omega)) (by (first | lia | omega)) hL hlen
  obtain ⟨lens, hpl, hll, hall⟩ := placed_spec (us := us r) (d := dps (uw r) L (2 * (uw r).length - 2)) (size := r.length) (by (first | assumption | exact Nat.le_trans (by assumption) (by decide) | exact Int.le_trans (by assumption) (by decide) | exact Nat.lt_of_lt_of_le (by assumption) (by assumption) | exact Nat.le_trans (by assumption) (by assumption) | exact Nat.lt_of_lt_of_le (by assumption) (by decide))) (by rw [dps_len]; simp [uw]) (fun p hp => ⟨(us_mem hp).1, (us_mem hp).2.1⟩) (us_ne r) (by rw [us_len]; (first | lia | omega))
  refine ⟨lens, ?_, told_of hopt hll hall⟩
  have l1 : bLen (.list (dp (us r))) = some (.int (us r).length) := by
    have e : (dp (us r)).length = (us r).length := by simp [dp]
    simp only [bLen, e]; rw [if_pos (by rw [us_len]; (first | lia | omega))]
  have l2 := len_spec (l := r) (by (first | assumption | exact Nat.le_trans (by assumption) (by decide) | exact Int.le_trans (by assumption) (by decide) | exact Nat.lt_of_lt_of_le (by assumption) (by assumption) | exact Nat.le_trans (by assumption) (by assumption) | exact Nat.lt_of_lt_of_le (by assumption) (by decide)))
  have hlt : decide (((us r).length : Int) < 2) = false := by rw [decide_eq_false_iff_not, us_len]; (first | lia | omega)
  have c1 : cLt (.int (us r).length) (.int 2) = some (.bool false) := by simp only [cLt, hlt]
  have hz : ((us r).map fun p => [D.int p.1, D.int p.2]).length ≤ 1048576 := by rw [List.length_map, us_len]; (first | lia | omega)
  have hcomp : ∀ σ : St, σ 2 = .sh (.list (dp (us r))) → xComp (iPairs (xVar 2)) [] [0, 1] xTrue (xVar 0) σ = some (.list (di (uw r)), σ) := fun σ h => by
    have e2 : iPairs (xVar 2) σ = some ((us r).map fun p => [.int p.1, .int p.2], σ) := by
      unfold iPairs
      simp [h, list?, rows_dp]
    unfold xComp
    rw [e2]
    simp only [Option.bind_some]
    rw [if_pos hz, firsts_comp]
    rfl
  have hus' : g_used_symbols [.list (di r)] = some (.list (dp (us r))) := hus
  generalize hσ : upd (initS [.list (di r), .int L]) 2 (.sh (.list (dp (us r)))) = σ0
  have s2 : σ0 2 = .sh (.list (dp (us r))) := by first | exact (congrFun hσ.symm _).trans rfl | (rw [← hσ]; simp)
  have s0 : σ0 0 = .sh (.list (di r)) := by first | exact (congrFun hσ.symm _).trans rfl | (rw [← hσ]; simp)
  have s1 : σ0 1 = .sh (.int L) := by first | exact (congrFun hσ.symm _).trans rfl | (rw [← hσ]; simp)
  simp only [g_least_lengths, gOf, List.length_cons, List.length_nil, if_true, f_least_lengths]
  rw [y_seq]
  have e1 : ySet 2 (xCall g_used_symbols (xCons (xVar 0) xNil)) (initS [.list (di r), .int L]) = some (.nxt, σ0) := by
    rw [← hσ]; simp [hus']
  rw [e1]
  simp only [Option.bind_some]
  simp [s0, s1, s2, l1, l2, hroomS, c1, hcomp σ0 s2, hpk, hpl, resD]
end Mine
end

section
set_option autoImplicit false
namespace Mine
open PySem

noncomputable def tPick : Ev := (xAnd (xBin cLt (xVar 3) (xVar 1)) (xOr (xBin cGe (xVar 4) (xVar 5)) (xBin cLe (xSub (bOwn 0) (xVar 3)) (xSub (bOwn 0) (xVar 4)))))
noncomputable def tL : Ex := (ySeq (ySwp [3, 8] (eSh (xVar 3) (eSh (xBin oAdd (xVar 3) (xInt 1)) eNil))) yNil)
noncomputable def tJ : Ex := (ySeq (ySwp [4, 8] (eSh (xVar 4) (eSh (xBin oAdd (xVar 4) (xInt 1)) eNil))) yNil)
noncomputable def tAt : Ex := yAt 2 (xVar 5) (xVar 8)
noncomputable def tAug : Ex := yAug 6 oIadd (xSub (bOwn 0) (xVar 8))
noncomputable def tSd : Ex := (ySeq (yIf tPick tL tJ) (ySeq tAt (ySeq tAug yNil)))
noncomputable def tMd : Ex := (ySeq (ySet 6 (xInt 0)) (ySeq (yFor (iRng (xB1 bRng1 (bGen (xInt 2)))) [7] tSd) (ySeq (yApp 0 (xVar 6)) yNil)))
noncomputable def tDp : Ex := (ySeq (yAt 9 (xBin oAdd (xSub (bOwn 9) (xSub (bOwn 2) (xVar 10))) (xInt 1)) (xVar 10)) yNil)
noncomputable def tSz : EvL := (fMul (xCons (xInt 0) xNil) (xBin oSub (xBin oMul (xInt 2) (xVar 1)) (xInt 1)))
theorem f_tree_eq : f_tree_depths = ySeq (ySet 1 (xB1 bLen (bGen (xVar 0)))) (ySeq (ySetO 0 100 (fCopy (bGen (xVar 0)))) (ySeq (ySetO 2 101 tSz) (ySeq (ySwp [4, 3] (eSh (xInt 0) (eSh (xVar 1) eNil)))
  (ySeq (yFor (iRng (xB2 bRng2 (xCons (xVar 1) (xCons (xBin oSub (xBin oMul (xInt 2) (xVar 1)) (xInt 1)) xNil)))) [5] tMd) (ySeq (ySetO 9 102 tSz)
  (ySeq (yFor (iRng (xB3 bRng3 (xCons (xBin oSub (xBin oMul (xInt 2) (xVar 1)) (xInt 3)) (xCons (xNeg (xInt 1)) (xCons (xNeg (xInt 1)) xNil))))) [10] tDp) (ySeq (yRet (xUpto (bOwn 9) (xVar 1))) yNil))))))) := rfl

structure TF (n made : Nat) (s : TS) (both : Int) (σ : St) : Prop where
  s0 : σ 0 = .ow (di s.ws)
  s1 : σ 1 = .sh (.int n)
  s2 : σ 2 = .ow (din s.par)
  s3 : σ 3 = .sh (.int s.leaf)
  s4 : σ 4 = .sh (.int s.joined)
  s5 : σ 5 = .sh (.int made)
  s6 : σ 6 = .sh (.int both)
  s9 : σ 102 = .no
theorem side_step {n made : Nat} {s : TS} {both : Int} {σ : St} (h : TF n made s both σ) (hlen : s.ws.length = made) (hm : made ≤ 20) (hpl : s.par.length ≤ 40) (hnx : s.next n made < made) (hnp : s.next n made < s.par.length) (hln : s.leaf < n → s.leaf < made) :
    ∃ σ', tSd σ = some (.nxt, σ') ∧ TF n made (s.side n made) (both + s.w (s.next n made)) σ' := by
  have hp : tPick σ = some (.bool (s.pickLeaf n made), σ) := by
    unfold tPick TS.pickLeaf
    by_cases c1 : s.leaf < n
    · by_cases c2 : made ≤ s.joined
      · simp [h.s1, h.s3, h.s4, h.s5, cLt, cGe, c1, c2]
      · obtain ⟨x, nx, ex⟩ : ∃ x, nthD (.list (di s.ws)) (.int s.leaf) = some (.int x) ∧ s.ws.getD s.leaf 0 = x := ⟨_, nth_pos (by have := hln c1; (first | lia | omega)) (by (first | lia | omega)), rfl⟩
        obtain ⟨y, ny, ey⟩ : ∃ y, nthD (.list (di s.ws)) (.int s.joined) = some (.int y) ∧ s.ws.getD s.joined 0 = y := ⟨_, nth_pos (by (first | lia | omega)) (by (first | lia | omega)), rfl⟩
        rw [ex, ey]
        simp [h.s0, h.s1, h.s3, h.s4, h.s5, cLt, cGe, cLe, c1, c2, nx, ny]
    · simp [h.s1, h.s3, cLt, c1]
  obtain ⟨x, nx, ex⟩ : ∃ x, nthD (.list (di s.ws)) (.int (s.next n made)) = some (.int x) ∧ s.w (s.next n made) = x := ⟨_, nth_pos (by (first | lia | omega)) (by (first | lia | omega)), rfl⟩
  rw [ex]
  -- the rest, once what is taken is told
  have rest : ∀ τ : St, τ 0 = .ow (di s.ws) → τ 1 = .sh (.int n) → τ 2 = .ow (din s.par) → τ 3 = .sh (.int (s.side n made).leaf) → τ 4 = .sh (.int (s.side n made).joined) → τ 5 = .sh (.int made) → τ 6 = .sh (.int both) → τ 8 = .sh (.int (s.next n made)) → τ 102 = .no →
      ∃ σ', ySeq tAt (ySeq tAug yNil) τ = some (.nxt, σ') ∧ TF n made (s.side n made) (both + x) σ' := fun τ a0 a1 a2 a3 a4 a5 a6 a8 a9 => by
    have hcond : 0 ≤ ((s.next n made : Nat) : Int) ∧ ((s.next n made : Nat) : Int) < ((din s.par).length : Int) ∧ (din s.par).length ≤ 1048576 := ⟨by (first | lia | omega), by rw [din_len]; (first | lia | omega), by rw [din_len]; (first | lia | omega)⟩
    have hset : (din s.par).set (s.next n made) (.int (made : Int)) = din (s.side n made).par := by rw [side_par]; simp [din]
    have g1 : tAt τ = some (.nxt, upd τ 2 (.ow (din (s.side n made).par))) := by
      unfold tAt
      simp only [y_at, e_var, a5, Option.bind_some, a2, e_own?, a8]
      rw [if_pos hcond, ← hset]
      rfl
    refine ⟨upd (upd τ 2 (.ow (din (s.side n made).par))) 6 (.sh (.int (both + x))), ?_, ⟨by simp [a0, side_ws], by (first | exact a1 | simp [a1]), by (first | rfl | simp), by (first | exact a3 | simp [a3]), by (first | exact a4 | simp [a4]), by (first | exact a5 | simp [a5]), by (first | rfl | simp), by (first | exact a9 | simp [a9])⟩⟩
    rw [seq_eq g1]
    unfold tAug
    simp [a0, a6, a8, nx, oIadd]
  unfold tSd
  rw [y_seq, y_if, hp]
  cases hc : s.pickLeaf n made with
  | true =>
    have e1 : s.next n made = s.leaf := by unfold TS.next; rw [hc]; rfl
    have e2 : s.side n made = { s with leaf := s.leaf + 1, par := s.par.set s.leaf made } := by unfold TS.side; rw [hc]; rfl
    have g : tL σ = some (.nxt, upd (upd σ 3 (.sh (.int ((s.leaf : Int) + 1)))) 8 (.sh (.int s.leaf))) := by
      unfold tL
      simp [h.s3, oAdd]
    simp only [Option.bind_some]
    rw [g]
    simp only [Option.bind_some]
    exact rest _ (by (first | exact h.s0 | simp [h.s0])) (by (first | exact h.s1 | simp [h.s1])) (by (first | exact h.s2 | simp [h.s2])) (by (first | exact e2 | simp [e2])) (by simp [h.s4, e2]) (by (first | exact h.s5 | simp [h.s5])) (by (first | exact h.s6 | simp [h.s6])) (by (first | exact e1 | simp [e1])) (by (first | exact h.s9 | simp [h.s9]))
  | false =>
    have e1 : s.next n made = s.joined := by unfold TS.next; rw [hc]; rfl
    have e2 : s.side n made = { s with joined := s.joined + 1, par := s.par.set s.joined made } := by unfold TS.side; rw [hc]; rfl
    have g : tJ σ = some (.nxt, upd (upd σ 4 (.sh (.int ((s.joined : Int) + 1)))) 8 (.sh (.int s.joined))) := by
      unfold tJ
      simp [h.s4, oAdd]
    simp only [Option.bind_some]
    rw [g]
    simp only [Option.bind_some]
    exact rest _ (by (first | exact h.s0 | simp [h.s0])) (by (first | exact h.s1 | simp [h.s1])) (by (first | exact h.s2 | simp [h.s2])) (by simp [h.s3, e2]) (by (first | exact e2 | simp [e2])) (by (first | exact h.s5 | simp [h.s5])) (by (first | exact h.s6 | simp [h.s6])) (by (first | exact e1 | simp [e1])) (by (first | exact h.s9 | simp [h.s9]))
end Mine
end

section
set_option autoImplicit false
namespace Mine
open PySem

structure TO (n : Nat) (s : TS) (σ : St) : Prop where
  s0 : σ 0 = .ow (di s.ws)
  s1 : σ 1 = .sh (.int n)
  s2 : σ 2 = .ow (din s.par)
  s3 : σ 3 = .sh (.int s.leaf)
  s4 : σ 4 = .sh (.int s.joined)
  s9 : σ 102 = .no
theorem made_step {n made : Nat} {lo : Int} {s : TS} {σ : St} (hn : n ≤ 9) (h : TO n s σ) (I : TInv n made lo s) (hc : 2 ≤ (n - s.leaf) + (made - s.joined)) (hm : made < 2 * n - 1) (hnm : n ≤ made) :
    ∃ σ', tMd (upd σ 5 (.sh (.int made))) = some (.nxt, σ') ∧ TO n (s.step n made) σ' := by
  have hlen := I.len
  have hpl := I.plen
  obtain ⟨a1, a2, a3, a4⟩ := side_bd I.l1 I.l3 (by (first | lia | omega))
  have p1 := side_act I.l1 I.l3 (by (first | lia | omega))
  have p2 := side_act a1 a2 (by (first | lia | omega))
  have hx : s.next n made ∈ s.act n made := p1.mem_iff.mpr List.mem_cons_self
  have hy : (s.side n made).next n made ∈ (s.side n made).act n made := p2.mem_iff.mpr List.mem_cons_self
  rw [mem_act] at hx hy
  have hl2 := I.l2
  have f0 : TF n made s 0 (upd (upd σ 5 (.sh (.int made))) 6 (.sh (.int 0))) := ⟨by (first | exact h.s0 | simp [h.s0]), by (first | exact h.s1 | simp [h.s1]), by (first | exact h.s2 | simp [h.s2]), by (first | exact h.s3 | simp [h.s3]), by (first | exact h.s4 | simp [h.s4]), by (first | rfl | simp), by (first | rfl | simp), by (first | exact h.s9 | simp [h.s9])⟩
  have up7 : ∀ {s : TS} {b : Int} {σ : St} {y : D}, TF n made s b σ → TF n made s b (upd σ 7 (.sh y)) := fun f => ⟨by (first | exact f.s0 | simp [f.s0]), by (first | exact f.s1 | simp [f.s1]), by (first | exact f.s2 | simp [f.s2]), by (first | exact f.s3 | simp [f.s3]), by (first | exact f.s4 | simp [f.s4]), by (first | exact f.s5 | simp [f.s5]), by (first | exact f.s6 | simp [f.s6]), by (first | exact f.s9 | simp [f.s9])⟩
  obtain ⟨σ1, e1, f1⟩ := side_step (up7 (y := .int 0) f0) hlen (by (first | lia | omega)) (by (first | lia | omega)) (by (first | lia | omega)) (by (first | lia | omega)) (by (first | lia | omega))
  obtain ⟨σ2, e2, f2⟩ := side_step (up7 (y := .int 1) f1) (by rw [side_ws]; exact hlen) (by (first | lia | omega)) (by rw [side_plen]; (first | lia | omega)) (by (first | lia | omega)) (by rw [side_plen]; (first | lia | omega)) (by (first | lia | omega))
  have ir : iRng (xB1 bRng1 (bGen (xInt 2))) (upd (upd σ 5 (.sh (.int made))) 6 (.sh (.int 0))) = some ([[.int 0], [.int 1]], upd (upd σ 5 (.sh (.int made))) 6 (.sh (.int 0))) := by rfl
  have hl : (di ((s.side n made).side n made).ws).length ≤ 1048576 := by rw [di_len, side_ws, side_ws]; (first | lia | omega)
  refine ⟨upd σ2 0 (.ow (di (s.ws ++ [s.w (s.next n made) + s.w ((s.side n made).next n made)]))), ?_, ?_⟩
  · unfold tMd
    rw [y_seq, y_set]
    simp only [e_int, Option.map_some, Option.bind_some]
    rw [y_seq, f_for, ir]
    simp only [Option.bind_some]
    have e3 : forGo [7] tSd [[.int 0], [.int 1]] (upd (upd σ 5 (.sh (.int made))) 6 (.sh (.int 0))) = some (.nxt, σ2) := by
      rw [f_cons]
      simp only [List.map_cons, List.map_nil, List.zip_cons_cons, List.zip_nil_left, b_sh, b_nil, Option.bind_some]
      rw [e1]
      simp only [Option.bind_some]
      rw [f_cons]
      simp only [List.map_cons, List.map_nil, List.zip_cons_cons, List.zip_nil_left, b_sh, b_nil, Option.bind_some]
      rw [e2]
      rfl
    rw [e3]
    simp only [Option.bind_some]
    have f6 := f2.s6
    have f0' := f2.s0
    rw [side_w, Int.zero_add] at f6
    have hd : di ((s.side n made).side n made).ws ++ [D.int (s.w (s.next n made) + s.w ((s.side n made).next n made))] = di (s.ws ++ [s.w (s.next n made) + s.w ((s.side n made).next n made)]) := by
      rw [side_ws, side_ws]; simp [di]
    simp [f0', f6, hl, hd]
  · exact ⟨by simp [TS.step]; rfl, by (first | exact f2.s1 | simp [f2.s1]), by simp [f2.s2]; rfl, by simp [f2.s3]; rfl, by simp [f2.s4]; rfl, by (first | exact f2.s9 | simp [f2.s9])⟩

theorem rngab_get {a b : Int} {k : Nat} {i : Int} (h : (rngI a b 1)[k]? = some i) : i = a + k ∧ (k : Int) < b - a := by
  unfold rngI at h
  simp only [List.getElem?_map, Option.map_eq_some_iff] at h
  obtain ⟨y, h1, h2⟩ := h
  obtain ⟨h3, rfl⟩ := List.getElem?_eq_some_iff.mp h1
  rw [PyProof.Rows.rangeSize_nat] at h3
  simp at h2 h3
  (first | lia | omega)
theorem rngab_len {a b : Int} : (rngI a b 1).length = (b - a).toNat := by
  simp [rngI, PyProof.Rows.rangeSize_nat]
  (first | lia | omega)

/-- the loop that makes the tree -/
theorem tree_loop {n : Nat} (h2 : 2 ≤ n) (hn : n ≤ 9) {s : TS} (I0 : TInv n n 0 s) (hl : s.leaf = 0) (hj : s.joined = n) {σ : St} (h : TO n s σ) :
    ∃ σ', forGo [5] tMd (one (di (rngI n (2 * n - 1) 1))) σ = some (.nxt, σ') ∧ TO n (TS.run n (n - 1) n s) σ' := by
  obtain ⟨σ', e, s', lo, hT, _, _, hr⟩ := for_loop (tgi := [5]) (Bd := tMd) (rows := one (di (rngI n (2 * n - 1) 1)))
    (fun k σ => ∃ s' lo, TO n s' σ ∧ TInv n (n + k) lo s' ∧ (n - s'.leaf) + (n + k - s'.joined) = n - k ∧ TS.run n (n - 1 - k) (n + k) s' = TS.run n (n - 1) n s) (fun k row τ hr hI0 => by
      obtain ⟨s', lo, hT, hI, hcnt, hrun⟩ := hI0
      obtain ⟨x, hx, rfl⟩ := one_get hr
      obtain ⟨i, hi, rfl⟩ := di_get hx
      obtain ⟨rfl, hk⟩ := rngab_get hi
      have e : (n : Int) + (k : Int) = ((n + k : Nat) : Int) := by (first | lia | omega)
      rw [e]
      obtain ⟨σ', e1, hT'⟩ := made_step hn hT hI (by (first | lia | omega)) (by (first | lia | omega)) (by (first | lia | omega))
      obtain ⟨I2, _⟩ := step_inv hI (by (first | lia | omega))
      obtain ⟨a1, a2, a3, a4⟩ := side_bd hI.l1 hI.l3 (by (first | lia | omega))
      obtain ⟨b1, b2, b3, b4⟩ := side_bd a1 a2 (by (first | lia | omega))
      refine ⟨_, σ', rfl, e1, s'.step n (n + k), _, hT', I2, ?_, ?_⟩
      · exact two_sides hcnt a4 b4 b2
      · rw [← hrun]
        have e3 : n - 1 - k = (n - 1 - (k + 1)) + 1 := by (first | lia | omega)
        rw [e3]; rfl) (σ := σ) ⟨s, 0, h, I0, by rw [hl, hj]; (first | lia | omega), rfl⟩
  rw [one_len, di_len, rngab_len] at hr
  have e1 : ((2 * (n : Int) - 1) - (n : Int)).toNat = n - 1 := by (first | lia | omega)
  rw [e1, Nat.sub_self] at hr
  refine ⟨σ', e, ?_⟩
  rw [← hr]; exact hT
end Mine
end

section
set_option autoImplicit false
namespace Mine
open PySem PySem.W PyProof.Rows PySem.Calls

theorem rngd_get {n k : Nat} {i : Int} (h2 : 2 ≤ n) (h : (rngI (2 * (n : Int) - 3) (-1) (-1))[k]? = some i) : i = ((2 * n - 3 - k : Nat) : Int) ∧ k < 2 * n - 2 := by
  unfold rngI at h
  simp only [List.getElem?_map, Option.map_eq_some_iff] at h
  obtain ⟨y, h1, h2'⟩ := h
  obtain ⟨h3, rfl⟩ := List.getElem?_eq_some_iff.mp h1
  rw [rangeSize_downNat] at h3
  simp at h2' h3
  (first | lia | omega)
theorem rngd_len {n : Nat} (h2 : 2 ≤ n) : (rngI (2 * (n : Int) - 3) (-1) (-1)).length = 2 * n - 2 := by
  simp [rngI, rangeSize_downNat]
  (first | lia | omega)
structure DI (n : Nat) (par : List Nat) (k : Nat) (σ : St) : Prop where
  e : ∃ dl : List Nat, σ 9 = .ow (din dl) ∧ dl.length = 2 * n - 1 ∧ dl.getD (2 * n - 2) 0 = 0 ∧ ∀ i, 2 * n - 2 - k ≤ i → i < 2 * n - 2 → dl.getD i 0 = dl.getD (par.getD i 0) 0 + 1
  s1 : σ 1 = .sh (.int n)
  s2 : σ 2 = .ow (din par)
theorem din_nthD {d : List Nat} {k : Nat} (h : k < d.length) (hd : d.length ≤ 1048576) : nthD (.list (din d)) (.int k) = some (.int ((d.getD k 0 : Nat) : Int)) :=
  din_nth (by rw [List.getElem?_eq_getElem h, List.getD_eq_getElem?_getD, List.getElem?_eq_getElem h]; rfl) hd
theorem set_getD {d : List Nat} {k x i : Nat} (h : k < d.length) : (d.set k x).getD i 0 = if i = k then x else d.getD i 0 := by
  simp only [List.getD_eq_getElem?_getD]
  by_cases c : i = k
  · subst c; rw [if_pos rfl, List.getElem?_set_self h]; rfl
  · rw [if_neg c, List.getElem?_set_ne (Ne.symm c)]
theorem depth_step {n : Nat} (h2 : 2 ≤ n) (hn : n ≤ 9) {par : List Nat} (hpl : par.length = 2 * n - 1) (hp : ∀ i, i < 2 * n - 2 → i < par.getD i 0 ∧ par.getD i 0 < 2 * n - 1) {k : Nat} (hk : k < 2 * n - 2) {σ : St} (h : DI n par k σ) :
    ∃ σ', tDp (upd σ 10 (.sh (.int ((2 * n - 3 - k : Nat) : Int)))) = some (.nxt, σ') ∧ DI n par (k + 1) σ' := by
  obtain ⟨dl, h9, hl, hlast, hall⟩ := h.e
  generalize hp0 : 2 * n - 3 - k = p0
  have hp0lt : p0 < 2 * n - 2 := by (first | lia | omega)
  obtain ⟨q1, q2⟩ := hp p0 hp0lt
  obtain ⟨pv, npar, epv⟩ : ∃ pv : Nat, nthD (.list (din par)) (.int p0) = some (.int (pv : Nat)) ∧ par.getD p0 0 = pv := ⟨_, din_nthD (by (first | lia | omega)) (by (first | lia | omega)), rfl⟩
  rw [epv] at q1 q2
  obtain ⟨dv, ndl, edv⟩ : ∃ dv : Nat, nthD (.list (din dl)) (.int pv) = some (.int (dv : Nat)) ∧ dl.getD pv 0 = dv := ⟨_, din_nthD (by (first | lia | omega)) (by (first | lia | omega)), rfl⟩
  have hcond : 0 ≤ ((p0 : Nat) : Int) ∧ ((p0 : Nat) : Int) < ((din dl).length : Int) ∧ (din dl).length ≤ 1048576 := ⟨by (first | lia | omega), by rw [din_len]; (first | lia | omega), by rw [din_len]; (first | lia | omega)⟩
  have hset : (din dl).set p0 (.int ((dv : Int) + 1)) = din (dl.set p0 (dv + 1)) := by simp [din]
  refine ⟨upd (upd σ 10 (.sh (.int (p0 : Nat)))) 9 (.ow (din (dl.set p0 (dv + 1)))), ?_, ⟨⟨dl.set p0 (dv + 1), by (first | rfl | simp), by simpa using hl, ?_, fun i hi1 hi2 => ?_⟩, by (first | exact h.s1 | simp [h.s1]), by (first | exact h.s2 | simp [h.s2])⟩⟩
  · have a9 : (upd σ 10 (.sh (.int ((p0 : Nat) : Int)))) 9 = .ow (din dl) := by simp [h9]
    have a2 : (upd σ 10 (.sh (.int ((p0 : Nat) : Int)))) 2 = .ow (din par) := by simp [h.s2]
    have a10 : (upd σ 10 (.sh (.int ((p0 : Nat) : Int)))) 10 = .sh (.int (p0 : Nat)) := by simp
    generalize upd σ 10 (.sh (.int ((p0 : Nat) : Int))) = τ at *
    unfold tDp
    have g : yAt 9 (xBin oAdd (xSub (bOwn 9) (xSub (bOwn 2) (xVar 10))) (xInt 1)) (xVar 10) τ = some (.nxt, upd τ 9 (.ow (din (dl.set p0 (dv + 1))))) := by
      simp only [y_at, e_bin, e_sub, e_own, e_var, e_int, a9, a2, a10, Option.bind_some, Option.map_some, npar, ndl, oAdd, e_own?]
      rw [if_pos hcond, ← hset]
      rfl
    rw [y_seq, g]; rfl
  · rw [set_getD (by (first | lia | omega)), if_neg (by (first | lia | omega))]; exact hlast
  · rw [set_getD (by (first | lia | omega)), set_getD (by (first | lia | omega))]
    by_cases c : i = p0
    · subst c
      rw [if_pos rfl, epv, if_neg (by (first | lia | omega)), edv]
    · have := hp i hi2
      rw [if_neg c, if_neg (by (first | lia | omega))]
      exact hall i (by (first | lia | omega)) hi2

theorem tree_spec {w : List Int} (hw : Asc w) (h0 : ∀ v ∈ w, 0 ≤ v) (h2 : 2 ≤ w.length) (hn : w.length ≤ 9) : ∃ d, g_tree_depths [.list (di w)] = some (.list (din d)) ∧ Opt w d := by
  generalize hnn : w.length = n at *
  have hwget : ∀ (i : Nat) (hi : i < n), w.getD i 0 = w[i]'(by (first | lia | omega)) := fun i hi => by rw [List.getD_eq_getElem?_getD, List.getElem?_eq_getElem (by (first | lia | omega))]; rfl
  have I0 : TInv n n 0 ⟨w, List.replicate (2 * n - 1) 0, 0, n⟩ := by
    refine ⟨hnn, by (first | rfl | simp), Nat.zero_le _, Nat.le_refl _, Nat.le_refl _, fun i j h1 h2 => ?_, fun i j g1 g2 g3 => absurd (Nat.lt_of_le_of_lt g2 g3) (Nat.not_lt_of_le g1), Int.le_refl _, fun i hi => ?_, fun i g1 g2 => absurd g2 (Nat.not_lt_of_le g1)⟩
    · show w.getD i 0 ≤ w.getD j 0
      rw [hwget i (by (first | lia | omega)), hwget j h2]
      by_cases c : i = j
      · subst c; exact Int.le_refl _
      · exact List.pairwise_iff_getElem.mp hw i j (by (first | lia | omega)) (by (first | lia | omega)) (by (first | lia | omega))
    · rw [mem_act] at hi
      dsimp only at hi
      show 0 ≤ w.getD i 0
      rw [hwget i (by (first | lia | omega))]
      exact h0 _ (List.getElem_mem _)
  have lw := len_spec (l := w) (by (first | lia | omega))
  rw [hnn] at lw
  have hs2 : small 2 := by decide
  have near1 : near (n : Int) := ⟨by (first | lia | omega), by (first | lia | omega)⟩
  have near2 : near (2 * (n : Int) - 1) := ⟨by (first | lia | omega), by (first | lia | omega)⟩
  have near3 : near (2 * (n : Int) - 3) := ⟨by (first | lia | omega), by (first | lia | omega)⟩
  have near4 : near (-1) := by decide
  have e21 : (2 * (n : Int) - 1) = ((2 * n - 1 : Nat) : Int) := by (first | lia | omega)
  have hsz : ∀ σ : St, σ 1 = .sh (.int n) → tSz σ = some (din (List.replicate (2 * n - 1) 0), σ) := fun σ h => by
    have hmulc : [D.int 0].length * (((2 * n - 1 : Nat) : Int)).toNat ≤ 1048576 ∧ small (((2 * n - 1 : Nat) : Int)) := ⟨by simp; (first | lia | omega), by constructor <;> (first | lia | omega)⟩
    unfold tSz fMul
    simp only [e_cons, e_int, e_nil, Option.bind_some, Option.map_some, e_bin, e_var, h, oMul, hs2, true_or, if_true, oSub, e21]
    rw [if_pos hmulc, zeros_eq]
  generalize hσ : upd (upd (upd (upd (upd (upd (upd (upd (upd (initS [.list (di w)]) 1 (.sh (.int n))) 100 (.ow (di w))) 100 .no) 0 (.ow (di w))) 101 (.ow (din (List.replicate (2 * n - 1) 0)))) 101 .no) 2 (.ow (din (List.replicate (2 * n - 1) 0)))) 4 (.sh (.int n))) 3 (.sh (.int 0)) = σ0
  have T0 : TO n ⟨w, List.replicate (2 * n - 1) 0, 0, n⟩ σ0 := by
    subst hσ
    exact ⟨by (first | rfl | simp), by (first | rfl | simp), by (first | rfl | simp), by (first | rfl | simp), by (first | rfl | simp), by (first | rfl | simp)⟩
  obtain ⟨σ1, e1, T1⟩ := tree_loop h2 hn I0 rfl rfl T0
  obtain ⟨r1, r2, r3, r4, r5, r6⟩ := run_opt hn (n - 1) n 0 ⟨w, List.replicate (2 * n - 1) 0, 0, n⟩ (by (first | lia | omega)) (Nat.le_refl _) (by dsimp only; (first | lia | omega)) (by (first | lia | omega)) I0
  have hact : TS.act n n ⟨w, List.replicate (2 * n - 1) 0, 0, n⟩ = List.range' 0 n := by simp [TS.act]
  generalize TS.run n (n - 1) n ⟨w, List.replicate (2 * n - 1) 0, 0, n⟩ = fin at *
  have hpar : ∀ i, i < 2 * n - 2 → i < fin.par.getD i 0 ∧ fin.par.getD i 0 < 2 * n - 1 := fun i hi => r5 i hi (by
    by_cases c : i < n
    · left; rw [hact, List.mem_range'_1]; (first | lia | omega)
    · right; (first | lia | omega))
  generalize hσ2 : upd (upd (upd σ1 102 (.ow (din (List.replicate (2 * n - 1) 0)))) 102 .no) 9 (.ow (din (List.replicate (2 * n - 1) 0))) = σ2
  have D0 : DI n fin.par 0 σ2 := by
    subst hσ2
    refine ⟨⟨List.replicate (2 * n - 1) 0, by (first | rfl | simp), by (first | rfl | simp), ?_, fun i h1 h2 => by (first | lia | omega)⟩, by (first | exact T1.s1 | simp [T1.s1]), by (first | exact T1.s2 | simp [T1.s2])⟩
    simp only [List.getD_eq_getElem?_getD, List.getElem?_replicate]
    rw [if_pos (by (first | lia | omega))]; rfl
  obtain ⟨σ3, e3, D1⟩ := for_loop (tgi := [10]) (Bd := tDp) (rows := one (di (rngI (2 * (n : Int) - 3) (-1) (-1)))) (DI n fin.par) (fun k row τ hr hI => by
    obtain ⟨x, hx, rfl⟩ := one_get hr
    obtain ⟨i, hi, rfl⟩ := di_get hx
    obtain ⟨rfl, hk⟩ := rngd_get h2 hi
    obtain ⟨σ', e, hI'⟩ := depth_step h2 hn r2 hpar hk hI
    exact ⟨_, σ', rfl, e, hI'⟩) D0
  rw [one_len, di_len, rngd_len h2] at D1
  obtain ⟨dl, h9, hl, hlast, hall⟩ := D1.e
  have o := r6 (fun i => dl.getD i 0) hlast fun i hi => hall i (by (first | lia | omega)) hi
  rw [hact] at o
  have ew : (List.range' 0 n).map fin.w = w := by
    apply List.ext_getElem (by (first | exact hnn | simp [hnn]))
    intro i h1 h3
    have hi : i < n := by (first | lia | omega)
    simp only [List.getElem_map, List.getElem_range', Nat.zero_add, Nat.one_mul]
    rw [r3 i hi]
    exact hwget i hi
  have ed : (List.range' 0 n).map (fun i => dl.getD i 0) = dl.take n := by
    apply List.ext_getElem (by simp; (first | lia | omega))
    intro i h1 h3
    have hi : i < n := by simpa using h1
    simp only [List.getElem_map, List.getElem_range', Nat.zero_add, Nat.one_mul, List.getElem_take]
    rw [List.getD_eq_getElem?_getD, List.getElem?_eq_getElem (by (first | lia | omega))]; rfl
  rw [ew, ed] at o
  refine ⟨dl.take n, ?_, o⟩
  have i1 : iRng (xB2 bRng2 (xCons (xVar 1) (xCons (xBin oSub (xBin oMul (xInt 2) (xVar 1)) (xInt 1)) xNil))) σ0 = some (one (di (rngI n (2 * n - 1) 1)), σ0) := by
    unfold iRng
    simp [T0.s1, oMul, hs2, oSub, bRng2, near1, near2]
  have i3 : iRng (xB3 bRng3 (xCons (xBin oSub (xBin oMul (xInt 2) (xVar 1)) (xInt 3)) (xCons (xNeg (xInt 1)) (xCons (xNeg (xInt 1)) xNil)))) σ2 = some (one (di (rngI (2 * (n : Int) - 3) (-1) (-1))), σ2) := by
    unfold iRng
    simp [D0.s1, oMul, hs2, oSub, bRng3, near3, near4]
  have hup : uptoD (.list (din dl)) (.int n) = some (.list (din (dl.take n))) := by
    simp only [uptoD]
    rw [if_pos ⟨by (first | lia | omega), by rw [din_len]; (first | lia | omega)⟩]
    simp [din]
  have hcp : fCopy (bGen (xVar 0)) (upd (initS [.list (di w)]) 1 (.sh (.int n))) = some (di w, upd (initS [.list (di w)]) 1 (.sh (.int n))) := by
    have hz : (di w).length ≤ 1048576 := by rw [di_len]; (first | lia | omega)
    unfold fCopy
    simp [hz]
  simp only [g_tree_depths, gOf, List.length_singleton, if_true, f_tree_eq]
  rw [y_seq, y_set]
  simp only [e_b1, e_gen, e_var, s_init, List.getElem?_cons_zero, Option.map_some, Option.bind_some, lw]
  rw [y_seq, y_setO, hcp]
  simp only [Option.bind_some]
  have hno : (upd (initS [.list (di w)]) 1 (.sh (.int (n : Int)))) 100 = .no := by simp
  rw [hno]
  simp only [e_no?, Option.map_some, Option.bind_some]
  rw [y_seq, y_setO, hsz _ (by (first | rfl | simp))]
  simp only [Option.bind_some]
  have hno2 : (upd (upd (upd (upd (initS [.list (di w)]) 1 (.sh (.int (n : Int)))) 100 (.ow (di w))) 100 .no) 0 (.ow (di w))) 101 = .no := by simp
  rw [hno2]
  simp only [e_no?, Option.map_some, Option.bind_some]
  rw [y_seq]
  have hsw : ySwp [4, 3] (eSh (xInt 0) (eSh (xVar 1) eNil)) (upd (upd (upd (upd (upd (upd (upd (initS [.list (di w)]) 1 (.sh (.int n))) 100 (.ow (di w))) 100 .no) 0 (.ow (di w))) 101 (.ow (din (List.replicate (2 * n - 1) 0)))) 101 .no) 2 (.ow (din (List.replicate (2 * n - 1) 0)))) = some (.nxt, σ0) := by
    rw [← hσ]; simp
  rw [hsw]
  simp only [Option.bind_some]
  rw [seq_for i1 e1]
  rw [y_seq, y_setO, hsz _ T1.s1]
  simp only [Option.bind_some]
  rw [T1.s9]
  simp only [e_no?, Option.map_some, Option.bind_some]
  rw [hσ2, y_seq, f_for, i3]
  simp only [Option.bind_some]
  rw [e3]
  simp [h9, D1.s1, hup, resD]
end Mine
end

section
set_option autoImplicit false
namespace Mine
open PySem

theorem free_spec {r : List Int} (h0 : ∀ c ∈ r, 0 ≤ c) (hn : r.length ≤ 9) (h2 : 2 ≤ (up r 0).length) : ∃ lens, g_free_lengths [.list (di r)] = some (.list (din lens)) ∧ Told ((up r 0).length - 1) r lens := by
  have hul := up_len r 0
  have hwl : (uw r).length = (up r 0).length := by simp [uw, us_len]
  have hus' : g_used_symbols [.list (di r)] = some (.list (dp (us r))) := used_spec h0 (by (first | lia | omega)) h2
  obtain ⟨d, htr, hopt⟩ := tree_spec (uw_asc (r := r) (by (first | assumption | exact Nat.le_trans (by assumption) (by decide) | exact Int.le_trans (by assumption) (by decide) | exact Nat.lt_of_lt_of_le (by assumption) (by assumption) | exact Nat.le_trans (by assumption) (by assumption) | exact Nat.lt_of_lt_of_le (by assumption) (by decide)))) (fun v hv => Int.le_of_lt (uw_pos v hv)) (by (first | lia | omega)) (by (first | lia | omega))
  have hoL := hopt.toL (L := (up r 0).length - 1) (by (first | lia | omega)) (by (first | lia | omega))
  obtain ⟨lens, hpl, hll, hall⟩ := placed_spec (us := us r) (d := d) (size := r.length) (by (first | assumption | exact Nat.le_trans (by assumption) (by decide) | exact Int.le_trans (by assumption) (by decide) | exact Nat.lt_of_lt_of_le (by assumption) (by assumption) | exact Nat.le_trans (by assumption) (by assumption) | exact Nat.lt_of_lt_of_le (by assumption) (by decide))) (by rw [hopt.len]; simp [uw]) (fun p hp => ⟨(us_mem hp).1, (us_mem hp).2.1⟩) (us_ne r) (by rw [us_len]; (first | lia | omega))
  refine ⟨lens, ?_, told_of hoL hll hall⟩
  have l1 : bLen (.list (dp (us r))) = some (.int (us r).length) := by
    have e : (dp (us r)).length = (us r).length := by simp [dp]
    simp only [bLen, e]; rw [if_pos (by rw [us_len]; (first | lia | omega))]
  have l2 := len_spec (l := r) (by (first | assumption | exact Nat.le_trans (by assumption) (by decide) | exact Int.le_trans (by assumption) (by decide) | exact Nat.lt_of_lt_of_le (by assumption) (by assumption) | exact Nat.le_trans (by assumption) (by assumption) | exact Nat.lt_of_lt_of_le (by assumption) (by decide)))
  have hlt : decide (((us r).length : Int) < 2) = false := by rw [decide_eq_false_iff_not, us_len]; (first | lia | omega)
  have c1 : cLt (.int (us r).length) (.int 2) = some (.bool false) := by simp only [cLt, hlt]
  have hz : ((us r).map fun p => [D.int p.1, D.int p.2]).length ≤ 1048576 := by rw [List.length_map, us_len]; (first | lia | omega)
  have hcomp : ∀ σ : St, σ 1 = .sh (.list (dp (us r))) → xComp (iPairs (xVar 1)) [] [0, 1] xTrue (xVar 0) σ = some (.list (di (uw r)), σ) := fun σ h => by
    have e2 : iPairs (xVar 1) σ = some ((us r).map fun p => [.int p.1, .int p.2], σ) := by
      unfold iPairs
      simp [h, list?, rows_dp]
    unfold xComp
    rw [e2]
    simp only [Option.bind_some]
    rw [if_pos hz, firsts_comp]
    rfl
  generalize hσ : upd (initS [.list (di r)]) 1 (.sh (.list (dp (us r)))) = σ0
  have s1 : σ0 1 = .sh (.list (dp (us r))) := by first | exact (congrFun hσ.symm _).trans rfl | (rw [← hσ]; simp)
  have s0 : σ0 0 = .sh (.list (di r)) := by first | exact (congrFun hσ.symm _).trans rfl | (rw [← hσ]; simp)
  simp only [g_free_lengths, gOf, List.length_cons, List.length_nil, if_true, f_free_lengths]
  rw [y_seq]
  have e1 : ySet 1 (xCall g_used_symbols (xCons (xVar 0) xNil)) (initS [.list (di r)]) = some (.nxt, σ0) := by
    rw [← hσ]; simp [hus']
  rw [e1]
  simp only [Option.bind_some]
  simp [s0, s1, l1, l2, c1, hcomp σ0 s1, htr, hpl, resD]

/-- the limit that a row's lengths keep to -/
noncomputable def lim (L : Nat) (r : List Int) : Nat := if L = 0 then (up r 0).length - 1 else L
theorem told_spec {r : List Int} (h0 : ∀ c ∈ r, 0 ≤ c) (hn : r.length ≤ 9) (h2 : 2 ≤ (up r 0).length) {L : Nat} (hL : L ≤ 8) (hroom : L = 0 ∨ (up r 0).length ≤ 2 ^ L) : ∃ lens, g_law_told [.list (di r), .int L] = some (.list (din lens)) ∧ Told (lim L r) r lens := by
  by_cases c : L = 0
  · subst c
    obtain ⟨lens, e, t⟩ := free_spec h0 hn h2
    refine ⟨lens, ?_, t⟩
    have cg : cGt (.int ((0 : Nat) : Int)) (.int 0) = some (.bool false) := by simp [cGt]
    simp at cg
    simp [g_law_told, gOf, f_law_told, cg, e, resD]
  · obtain ⟨lens, e, t⟩ := least_spec h0 hn h2 (L := L) (by (first | lia | omega)) hL (hroom.resolve_left c)
    refine ⟨lens, ?_, by unfold lim; rw [if_neg c]; exact t⟩
    have hd : decide ((0 : Int) < L) = true := by rw [decide_eq_true_iff]; (first | lia | omega)
    have cg : cGt (.int (L : Int)) (.int 0) = some (.bool true) := by simp only [cGt, hd]
    simp [g_law_told, gOf, f_law_told, cg, e, resD]
end Mine
end

section
set_option autoImplicit false
namespace Mine
open PySem

noncomputable def tbBd : Ex := (ySeq (yIf (xBin cGt (xVar 4) (xInt 0))
 (ySeq (yIf (xOr (xBin cGe (xVar 3) (xB1 bLen (bGen (xVar 1)))) (xBin cEq (xSub (bGen (xVar 1)) (xVar 3)) (xInt 0)))
 (ySeq yStuck
 yNil)
 yNil)
 (ySeq (yAug 2 oIadd (xBin oMul (xVar 4) (xSub (bGen (xVar 1)) (xVar 3))))
 yNil))
 yNil)
 yNil)
theorem f_total_eq : f_total_bits = ySeq (ySet 2 (xInt 0)) (ySeq (yFor (iEnum (xVar 0)) [3, 4] tbBd) (ySeq (yRet (xVar 2)) yNil)) := rfl
theorem dot_snoc : ∀ (r : List Int) (l : List Nat) (c : Int) (x : Nat), r.length = l.length → dot (r ++ [c]) (l ++ [x]) = dot r l + c * (x : Int)
  | [], [], c, x, _ => by simp [dot]
  | [], _ :: _, c, x, h => by simp at h
  | _ :: _, [], c, x, h => by simp at h
  | v :: r, y :: l, c, x, h => by
    have := dot_snoc r l c x (by simpa using h)
    simp only [List.cons_append, dot, this]; (first | lia | omega)
theorem total_spec {r : List Int} {lens : List Nat} (h0 : ∀ c ∈ r, 0 ≤ c) (hn : r.length ≤ 9) (hl : lens.length = r.length) (hpos : ∀ i, i < r.length → 0 < r.getD i 0 → 1 ≤ lens.getD i 0 ∧ lens.getD i 0 ≤ 1000) : g_total_bits [.list (di r), .list (din lens)] = some (.int (dot r lens)) := by
  have ll : bLen (.list (din lens)) = some (.int r.length) := by
    simp only [bLen, din_len, hl]; rw [if_pos (by (first | lia | omega))]
  obtain ⟨σ', e, h1, h2⟩ := for_loop (tgi := [3, 4]) (rows := enumD (di r)) (Bd := tbBd) (fun k σ => σ 1 = .sh (.list (din lens)) ∧ σ 2 = .sh (.int (dot (r.take k) (lens.take k)))) (fun k row σ hr hI0 => by
    obtain ⟨h1, h2⟩ := hI0
    obtain ⟨c, hc, rfl⟩ := enum_row hr
    have hlt : k < r.length := (List.getElem?_eq_some_iff.mp hc).1
    obtain ⟨x, hx⟩ : ∃ x, lens[k]? = some x := ⟨_, List.getElem?_eq_getElem (by (first | lia | omega) : k < lens.length)⟩
    have nx := din_nth hx (by (first | lia | omega))
    have ed : dot (r.take (k + 1)) (lens.take (k + 1)) = dot (r.take k) (lens.take k) + c * (x : Int) := by
      rw [List.take_succ, List.take_succ, hc, hx]
      exact dot_snoc _ _ _ _ (by simp; (first | lia | omega))
    have hc0 := h0 c (List.mem_of_getElem? hc)
    by_cases cp : 0 < c
    · have hx1 : 1 ≤ x ∧ x ≤ 1000 := by
        have := hpos k hlt (by rw [List.getD_eq_getElem?_getD, hc]; exact cp)
        rw [List.getD_eq_getElem?_getD, hx] at this; exact this
      have hxs : small (x : Int) := ⟨by (first | lia | omega), by (first | lia | omega)⟩
      have g1 : cGt (.int c) (.int 0) = some (.bool true) := by simp [cGt, cp]
      have g2 : cGe (.int (k : Int)) (.int (r.length : Int)) = some (.bool false) := by
        simp only [cGe]
        have : decide ((r.length : Int) ≤ (k : Int)) = false := by rw [decide_eq_false_iff_not]; (first | lia | omega)
        rw [this]
      have g3 : cEq (.int (x : Int)) (.int 0) = some (.bool false) := by
        simp only [cEq]
        have : ((x : Int) == 0) = false := by simp; (first | lia | omega)
        rw [this]
      have g4 : oMul (.int c) (.int (x : Int)) = some (.int (c * x)) := by
        simp only [oMul]; rw [if_pos (.inr hxs)]
      refine ⟨upd (upd σ 3 (.sh (.int k))) 4 (.sh (.int c)), upd (upd (upd σ 3 (.sh (.int k))) 4 (.sh (.int c))) 2 (.sh (.int (dot (r.take (k + 1)) (lens.take (k + 1))))), rfl, ?_, by (first | exact h1 | simp [h1]), by (first | rfl | simp)⟩
      rw [ed]
      unfold tbBd
      simp [h1, h2, ll, nx, g1, g2, g3, g4, oIadd]
    · have e0 : c = 0 := by (first | lia | omega)
      subst e0
      have g1 : cGt (.int 0) (.int 0) = some (.bool false) := by simp [cGt]
      refine ⟨upd (upd σ 3 (.sh (.int k))) 4 (.sh (.int 0)), upd (upd σ 3 (.sh (.int k))) 4 (.sh (.int 0)), rfl, ?_, by (first | exact h1 | simp [h1]), ?_⟩
      · unfold tbBd
        simp [g1]
      · rw [ed]; simp [h2]) (σ := upd (initS [.list (di r), .list (din lens)]) 2 (.sh (.int 0))) ⟨by (first | rfl | simp), by (first | exact dot | simp [dot])⟩
  rw [enum_len, di_len, List.take_length, ← hl, List.take_length] at h2
  simp only [g_total_bits, gOf, List.length_cons, List.length_nil, if_true, f_total_eq]
  simp [iEnum, list?, e, h2, resD]
end Mine
end

section
set_option autoImplicit false
namespace Mine

/-- the lengths of the used symbols, by symbol -/
noncomputable def al (r : List Int) (l : List Nat) : List Nat := (up r 0).map fun p => l.getD p.2.toNat 0
theorem dot_up (f : Nat → Nat) : ∀ (r : List Int) (k : Nat), (∀ c ∈ r, 0 ≤ c) → dot ((up r k).map (·.1)) ((up r k).map fun p => f p.2.toNat) = dot r ((List.range' k r.length).map f)
  | [], k, _ => rfl
  | c :: r, k, h => by
    have ih := dot_up f r (k + 1) fun x hx => h x (List.mem_cons_of_mem _ hx)
    have hc := h c List.mem_cons_self
    simp only [up, List.length_cons, List.range'_succ, List.map_cons]
    split
    · simp only [List.map_cons, dot, ih]
      simp
    · have e : c = 0 := by (first | lia | omega)
      simp only [dot, ih, e]
      (first | lia | omega)
theorem range_getD (l : List Nat) : (List.range' 0 l.length).map (fun i => l.getD i 0) = l := by
  apply List.ext_getElem (by (first | rfl | simp))
  intro i h1 h2
  simp [List.getD_eq_getElem?_getD, h2]
theorem dot_al {r : List Int} {l : List Nat} (h0 : ∀ c ∈ r, 0 ≤ c) (hl : l.length = r.length) : dot ((up r 0).map (·.1)) (al r l) = dot r l := by
  have := dot_up (fun i => l.getD i 0) r 0 h0
  rw [← hl, range_getD] at this
  exact this
theorem dot_us {r : List Int} {l : List Nat} (h0 : ∀ c ∈ r, 0 ≤ c) (hl : l.length = r.length) : dot (uw r) ((us r).map fun p => l.getD p.2.toNat 0) = dot r l := by
  rw [← dot_al h0 hl]
  have h := dot_pairs ((us_perm r).map fun p => (p.1, l.getD p.2.toNat 0))
  simp only [List.map_map] at h
  exact h
theorem us_al (r : List Int) (l : List Nat) : ((us r).map fun p => l.getD p.2.toNat 0).Perm (al r l) := (us_perm r).map _
theorem Va.perm {L : Nat} {a b : List Nat} (h : a.Perm b) (v : Va L a) : Va L b := ⟨fun x hx => v.le x (h.mem_iff.mpr hx), by rw [← kr_perm h]; exact v.k⟩
theorem Told.va {L : Nat} {r : List Int} {lens : List Nat} (t : Told L r lens) : Va L (al r lens) := t.opt.va.perm (us_al r lens)
theorem Told.best {L : Nat} {r : List Int} {lens : List Nat} (t : Told L r lens) (h0 : ∀ c ∈ r, 0 ≤ c) {l : List Nat} (hl : l.length = r.length) (hv : Va L (al r l)) : dot r lens ≤ dot r l := by
  have := t.opt.opt ((us r).map fun p => l.getD p.2.toNat 0) (by (first | exact uw | simp [uw])) (hv.perm (us_al r l).symm)
  rwa [dot_us h0 t.len, dot_us h0 hl] at this
theorem Told.cost {L : Nat} {r : List Int} {lens : List Nat} (t : Told L r lens) (h0 : ∀ c ∈ r, 0 ≤ c) : dot (uw r) ((us r).map fun p => lens.getD p.2.toNat 0) = dot r lens := dot_us h0 t.len
end Mine
end

section
set_option autoImplicit false
namespace Mine
open PySem

noncomputable def shortN (n : Nat) : Nat := if n < 4 then 1 else if n < 8 then 2 else 3
noncomputable def nShort : Ev := (xB1 bLen (bGen (xComp (iRng (xB2 bRng2 (xCons (xInt 1) (xCons (xInt 4) xNil)))) [(1, 0)] [0] (xBin cLe (xBin oPow (xInt 2) (xVar 0)) (xB1 bLen (bGen (xVar 1)))) (xVar 0))))
theorem f_near_eq : f_law_near = ySeq (ySet 1 nShort) (ySeq (yRet (xBin oAdd (xBin oMul (xB1 bSum (bGen (xVar 0))) (xVar 1)) (xB1 bSum (bGen (xUpto (bGen (xB1 bSort2 (bGen (xVar 0)))) (xBin oMul (xInt 2) (xBin oSub (xB1 bLen (bGen (xVar 0))) (xBin oPow (xInt 2) (xVar 1))))))))) yNil) := rfl
theorem short_spec {U : List Int} (h2 : 2 ≤ U.length) (h9 : U.length ≤ 9) {σ : St} (h : σ 0 = .sh (.list (di U))) : nShort σ = some (.int (shortN U.length : Nat), σ) := by
  have lu := len_spec (l := U) (by (first | lia | omega))
  have hs2 : small 2 := by decide
  have hr : iRng (xB2 bRng2 (xCons (xInt 1) (xCons (xInt 4) xNil))) σ = some ([[.int 1], [.int 2], [.int 3]], σ) := by rfl
  have hin : ∀ y : D, (upd (inner [(1, 0)] σ) 0 (.sh y)) 1 = .sh (.list (di U)) := fun y => by simp [inner, List.lookup, h, shc]
  have key : ∀ (k : Int) (τ : St), τ 1 = .sh (.list (di U)) → 0 ≤ k → k ≤ 3 → (xBin cLe (xBin oPow (xInt 2) (xVar 0)) (xB1 bLen (bGen (xVar 1)))) (upd τ 0 (.sh (.int k))) = some (.bool (decide ((2 : Int) ^ k.toNat ≤ U.length)), upd τ 0 (.sh (.int k))) := fun k τ hτ h0 h3 => by
    have hp : oPow (.int 2) (.int k) = some (.int (2 ^ k.toNat)) := by simp only [oPow]; rw [if_pos ⟨h0, by (first | lia | omega), hs2⟩]
    simp [hτ, lu, hp, cLe]
  unfold nShort xComp
  rw [e_b1, e_gen, hr]
  simp only [Option.bind_some, List.length_cons, List.length_nil]
  rw [if_pos (by decide)]
  have i1 : (inner [(1, 0)] σ) 1 = .sh (.list (di U)) := by simp [inner, List.lookup, h, shc]
  have k1 := key 1 (inner [(1, 0)] σ) i1 (by decide) (by decide)
  have i2 : (upd (inner [(1, 0)] σ) 0 (.sh (.int 1))) 1 = .sh (.list (di U)) := hin _
  have k2 := key 2 (upd (inner [(1, 0)] σ) 0 (.sh (.int 1))) i2 (by decide) (by decide)
  have i3 : (upd (upd (inner [(1, 0)] σ) 0 (.sh (.int 1))) 0 (.sh (.int 2))) 1 = .sh (.list (di U)) := by simp [i1]
  have k3 := key 3 (upd (upd (inner [(1, 0)] σ) 0 (.sh (.int 1))) 0 (.sh (.int 2))) i3 (by decide) (by decide)
  have d1 : decide ((2 : Int) ^ (1 : Int).toNat ≤ U.length) = true := by rw [decide_eq_true_iff]; show (2 : Int) ≤ _; (first | lia | omega)
  rw [d1] at k1
  have p2 : (2 : Int) ^ (2 : Int).toNat = 4 := by decide
  have p3 : (2 : Int) ^ (3 : Int).toNat = 8 := by decide
  rw [p2] at k2
  rw [p3] at k3
  simp only [compGo, List.map_cons, List.map_nil, List.zip_cons_cons, List.zip_nil_left, b_sh, b_nil, Option.bind_some]
  rw [k1]
  simp only [Option.bind_some, e_var, e_upd, if_true]
  rw [k2]
  unfold shortN
  by_cases c1 : U.length < 4
  · have d2 : decide ((4 : Int) ≤ U.length) = false := by rw [decide_eq_false_iff_not]; (first | lia | omega)
    have d3 : decide ((8 : Int) ≤ U.length) = false := by rw [decide_eq_false_iff_not]; (first | lia | omega)
    rw [d2]
    simp only [Option.bind_some]
    rw [k3, d3, if_pos c1]
    simp [bLen]
  · have d2 : decide ((4 : Int) ≤ U.length) = true := by rw [decide_eq_true_iff]; (first | lia | omega)
    rw [d2, if_neg c1]
    simp only [Option.bind_some, e_upd, if_true]
    rw [k3]
    by_cases c2 : U.length < 8
    · have d3 : decide ((8 : Int) ≤ U.length) = false := by rw [decide_eq_false_iff_not]; (first | lia | omega)
      rw [d3, if_pos c2]
      simp [bLen]
    · have d3 : decide ((8 : Int) ≤ U.length) = true := by rw [decide_eq_true_iff]; (first | lia | omega)
      rw [d3, if_neg c2]
      simp [bLen]
end Mine
end

section
set_option autoImplicit false
namespace Mine
open PySem

/-- the total of the two neighbouring lengths -/
noncomputable def nearV (U : List Int) : Int := U.sum * (shortN U.length : Nat) + ((isort U).take (2 * (U.length - 2 ^ shortN U.length))).sum
theorem shortN_pow {n : Nat} (h2 : 2 ≤ n) (h9 : n ≤ 9) : 2 ^ shortN n ≤ n ∧ n < 2 ^ (shortN n + 1) := by
  unfold shortN
  split
  · exact ⟨by (first | assumption | exact Nat.le_trans (by assumption) (by decide) | exact Int.le_trans (by assumption) (by decide) | exact Nat.lt_of_lt_of_le (by assumption) (by assumption) | exact Nat.le_trans (by assumption) (by assumption) | exact Nat.lt_of_lt_of_le (by assumption) (by decide)), by (first | assumption | exact Nat.le_trans (by assumption) (by decide) | exact Int.le_trans (by assumption) (by decide) | exact Nat.lt_of_lt_of_le (by assumption) (by assumption) | exact Nat.le_trans (by assumption) (by assumption) | exact Nat.lt_of_lt_of_le (by assumption) (by decide))⟩
  · split
    · exact ⟨by show 4 ≤ n; (first | lia | omega), by show n < 8; (first | assumption | exact Nat.le_trans (by assumption) (by decide) | exact Int.le_trans (by assumption) (by decide) | exact Nat.lt_of_lt_of_le (by assumption) (by assumption) | exact Nat.le_trans (by assumption) (by assumption) | exact Nat.lt_of_lt_of_le (by assumption) (by decide))⟩
    · exact ⟨by show 8 ≤ n; (first | lia | omega), by show n < 16; (first | lia | omega)⟩
theorem near_spec {U : List Int} (h2 : 2 ≤ U.length) (h9 : U.length ≤ 9) : g_law_near [.list (di U)] = some (.int (nearV U)) := by
  have lu := len_spec (l := U) (by (first | assumption | exact Nat.le_trans (by assumption) (by decide) | exact Int.le_trans (by assumption) (by decide) | exact Nat.lt_of_lt_of_le (by assumption) (by assumption) | exact Nat.le_trans (by assumption) (by assumption) | exact Nat.lt_of_lt_of_le (by assumption) (by decide)))
  have hs := short_spec h2 h9 (σ := initS [.list (di U)]) rfl
  have hso := sort2_ints (l := U) (by (first | lia | omega))
  obtain ⟨hp1, hp2⟩ := shortN_pow h2 h9
  have hsm2 : small 2 := by decide
  have hsh : (shortN U.length : Nat) ≤ 3 := by
    unfold shortN
    split
    · (first | lia | omega)
    · split <;> (first | lia | omega)
  have hssm : small ((shortN U.length : Nat) : Int) := ⟨by (first | lia | omega), by (first | lia | omega)⟩
  have hpow : oPow (.int 2) (.int (shortN U.length : Nat)) = some (.int ((2 ^ shortN U.length : Nat) : Int)) := by
    have e : (((shortN U.length : Nat) : Int)).toNat = shortN U.length := by (first | lia | omega)
    simp only [oPow]
    rw [if_pos ⟨by (first | lia | omega), by (first | lia | omega), hsm2⟩, e]
    push_cast; rfl
  have hmul : oMul (.int U.sum) (.int (shortN U.length : Nat)) = some (.int (U.sum * (shortN U.length : Nat))) := by
    simp only [oMul]; rw [if_pos (.inr hssm)]
  have e2 : (2 : Int) * ((U.length : Int) - ((2 ^ shortN U.length : Nat) : Int)) = ((2 * (U.length - 2 ^ shortN U.length) : Nat) : Int) := by (first | lia | omega)
  have hmul2 : oMul (.int 2) (.int ((U.length : Int) - ((2 ^ shortN U.length : Nat) : Int))) = some (.int ((2 * (U.length - 2 ^ shortN U.length) : Nat) : Int)) := by
    simp only [oMul]; rw [if_pos (.inl hsm2), e2]
  have hil : (isort U).length = U.length := (isort_perm U).length_eq
  have hup : uptoD (.list (di (isort U))) (.int ((2 * (U.length - 2 ^ shortN U.length) : Nat) : Int)) = some (.list (di ((isort U).take (2 * (U.length - 2 ^ shortN U.length))))) := by
    simp only [uptoD]
    rw [if_pos ⟨by (first | lia | omega), by rw [di_len]; (first | lia | omega)⟩, ← di_take]
    rfl
  have hsum : ∀ l : List Int, bSum (.list (di l)) = some (.int l.sum) := fun l => by simp only [bSum, ints?_of_di, Option.map_some]
  unfold nearV
  generalize hk : (2 * (U.length - 2 ^ shortN U.length) : Nat) = k at *
  generalize hz : ((2 ^ shortN U.length : Nat) : Int) = z at *
  simp only [g_law_near, gOf, List.length_singleton, if_true, f_near_eq]
  rw [y_seq, y_set, hs]
  simp only [Option.map_some, Option.bind_some]
  simp [hsum, hmul, hso, lu, hpow, oSub, hmul2, hup, oAdd, resD]
end Mine
end

section
set_option autoImplicit false
namespace Mine
open PySem

noncomputable def mx (a b : Int) : Int := if b > a then b else a
noncomputable def evn : Int → Int → Int → List Int → List Int → List Int
  | f, s, d, x :: a, y :: b => (mx (f + x) (s + y) - d) :: evn (f + x) (s + y) (mx (f + x) (s + y)) a b
  | _, _, _, _, _ => []
noncomputable def evBd : Ex := (ySeq (ySwp [5, 4] (eSh (xBin oAdd (xVar 4) (xVar 6)) (eSh (xBin oAdd (xVar 5) (xVar 7)) eNil)))
 (ySeq (yApp 2 (xBin oSub (xB2 bMax2 (xCons (xVar 4) (xCons (xVar 5) xNil))) (xVar 3)))
 (ySeq (ySet 3 (xB2 bMax2 (xCons (xVar 4) (xCons (xVar 5) xNil))))
 yNil)))
theorem f_evener_eq : f_law_evener = ySeq (yTup [2, 3, 4, 5] (eOw 100 xNil (eSh (xInt 0) (eSh (xInt 0) (eSh (xInt 0) eNil))))) (ySeq (yFor (iZip (xCons (xB1 bSort2 (bGen (xVar 0))) (xCons (xB1 bSort2 (bGen (xVar 1))) xNil))) [6, 7] evBd) (ySeq (yRet (xMov 2)) yNil)) := rfl
theorem ev_loop : ∀ (a b : List Int) (f s d : Int) (l : List Int) (σ : St), l.length + a.length ≤ 100 → σ 2 = .ow (di l) → σ 3 = .sh (.int d) → σ 4 = .sh (.int f) → σ 5 = .sh (.int s) →
    ∃ σ', forGo [6, 7] evBd (zipD (di a) (di b)) σ = some (.nxt, σ') ∧ σ' 2 = .ow (di (l ++ evn f s d a b))
  | [], b, f, s, d, l, σ, _, h2, _, _, _ => ⟨σ, by simp [zipD, di], by simp [evn, h2]⟩
  | x :: a, [], f, s, d, l, σ, _, h2, _, _, _ => ⟨σ, by simp [zipD, di], by simp [evn, h2]⟩
  | x :: a, y :: b, f, s, d, l, σ, hl, h2, h3, h4, h5 => by
    have hz : (di l).length ≤ 1048576 := by rw [di_len]; (first | lia | omega)
    have hm : bMax2 (.int (f + x)) (.int (s + y)) = some (.int (mx (f + x) (s + y))) := rfl
    have hd : di l ++ [D.int (mx (f + x) (s + y) - d)] = di (l ++ [mx (f + x) (s + y) - d]) := by simp [di]
    have hb : evBd (upd (upd σ 6 (.sh (.int x))) 7 (.sh (.int y))) = some (.nxt, upd (upd (upd (upd (upd (upd σ 6 (.sh (.int x))) 7 (.sh (.int y))) 5 (.sh (.int (s + y)))) 4 (.sh (.int (f + x)))) 2 (.ow (di (l ++ [mx (f + x) (s + y) - d])))) 3 (.sh (.int (mx (f + x) (s + y))))) := by
      unfold evBd
      simp [h2, h3, h4, h5, oAdd, hm, oSub, hz, hd]
    obtain ⟨σ', e, h⟩ := ev_loop a b (f + x) (s + y) (mx (f + x) (s + y)) (l ++ [mx (f + x) (s + y) - d]) _ (by simp at hl ⊢; (first | lia | omega)) (show (upd (upd (upd (upd (upd (upd σ 6 (.sh (.int x))) 7 (.sh (.int y))) 5 (.sh (.int (s + y)))) 4 (.sh (.int (f + x)))) 2 (.ow (di (l ++ [mx (f + x) (s + y) - d])))) 3 (.sh (.int (mx (f + x) (s + y))))) 2 = _ by (first | rfl | simp)) (by (first | rfl | simp)) (by (first | rfl | simp)) (by (first | rfl | simp))
    refine ⟨σ', ?_, by rw [h]; simp [evn]⟩
    show forGo [6, 7] evBd ([.int x, .int y] :: zipD (di a) (di b)) σ = _
    rw [f_cons]
    simp only [List.map_cons, List.map_nil, List.zip_cons_cons, List.zip_nil_left, b_sh, b_nil, Option.bind_some]
    rw [hb]
    simp only [Option.bind_some]
    exact e
theorem evener_spec {a b : List Int} (ha : a.length ≤ 9) (hb : b.length ≤ 9) : g_law_evener [.list (di a), .list (di b)] = some (.list (di (evn 0 0 0 (isort a) (isort b)))) := by
  have s1 := sort2_ints (l := a) (by (first | lia | omega))
  have s2 := sort2_ints (l := b) (by (first | lia | omega))
  have hl : (isort a).length = a.length := (isort_perm a).length_eq
  generalize hσ : upd (upd (upd (upd (upd (upd (initS [.list (di a), .list (di b)]) 100 (.ow [])) 100 .no) 2 (.ow [])) 3 (.sh (.int 0))) 4 (.sh (.int 0))) 5 (.sh (.int 0)) = σ0
  obtain ⟨σ', e, h⟩ := ev_loop (isort a) (isort b) 0 0 0 [] σ0 (by simp; (first | lia | omega)) (by first | exact (congrFun hσ.symm _).trans di | (rw [← hσ]; simp [di])) (by first | exact (congrFun hσ.symm _).trans rfl | (rw [← hσ]; simp)) (by first | exact (congrFun hσ.symm _).trans rfl | (rw [← hσ]; simp)) (by first | exact (congrFun hσ.symm _).trans rfl | (rw [← hσ]; simp))
  have iz : iZip (xCons (xB1 bSort2 (bGen (xVar 0))) (xCons (xB1 bSort2 (bGen (xVar 1))) xNil)) σ0 = some (zipD (di (isort a)) (di (isort b)), σ0) := by
    unfold iZip
    rw [← hσ]
    simp [s1, s2]
  have et : yTup [2, 3, 4, 5] (eOw 100 xNil (eSh (xInt 0) (eSh (xInt 0) (eSh (xInt 0) eNil)))) (initS [.list (di a), .list (di b)]) = some (.nxt, σ0) := by
    rw [← hσ]; simp
  simp only [g_law_evener, gOf, List.length_cons, List.length_nil, if_true, f_evener_eq]
  rw [seq_eq et]
  rw [seq_for iz e]
  simp [h, resD]
end Mine
end

section
set_option autoImplicit false
namespace Mine
open PySem

noncomputable def rstep (l : List Int) : List Int := isort (l.drop 1 ++ [l.getD 0 0 + 1, l.getD 0 0 + 1])
noncomputable def rest (len : Nat) : Nat → List Int
  | 0 => rngI 1 ((len : Int) + 1) 1
  | k + 1 => rstep (rest len k)
noncomputable def fwI : Ex := (ySeq (ySet 5 (xB1 bSort2 (bGen (xBin oAdd (xFrom (bGen (xVar 5)) (xInt 1)) (xList (xCons (xBin oAdd (xSub (bGen (xVar 5)) (xInt 0)) (xInt 1)) (xCons (xBin oAdd (xSub (bGen (xVar 5)) (xInt 0)) (xInt 1)) xNil)))))))
 yNil)
noncomputable def fwB : Ex := (ySeq (ySet 5 (xB1 bList (bGen (xB2 bRng2 (xCons (xInt 1) (xCons (xBin oAdd (xVar 4) (xInt 1)) xNil))))))
 (ySeq (yFor (iRng (xB1 bRng1 (bGen (xBin oSub (xBin oSub (xVar 0) (xInt 1)) (xVar 4))))) [6] fwI)
 (ySeq (yIf (xBin cLe (xB1 bMax (bGen (xVar 5))) (xVar 2))
 (ySeq (yApp 3 (xBin oAdd (xBin oMul (xBin oAdd (xBin oSub (xVar 1) (xVar 0)) (xInt 1)) (xVar 4)) (xB1 bSum (bGen (xVar 5)))))
 yNil)
 yNil)
 yNil)))
theorem f_fewest_eq : f_law_fewest = ySeq (ySetO 3 100 xNil) (ySeq (yFor (iRng (xB2 bRng2 (xCons (xInt 1) (xCons (xVar 0) xNil)))) [4] fwB) (ySeq (yRet (xB1 bMin (bOwn 3))) yNil)) := rfl
theorem rstep_len {l : List Int} (h : 1 ≤ l.length) : (rstep l).length = l.length + 1 := by
  unfold rstep
  rw [(isort_perm _).length_eq]
  simp; (first | lia | omega)
theorem rest_len {len : Nat} (h : 1 ≤ len) : ∀ k, (rest len k).length = len + k
  | 0 => by
    unfold rest
    rw [rngab_len]; (first | lia | omega)
  | k + 1 => by
    have ih := rest_len h k
    show (rstep _).length = _
    rw [rstep_len (by (first | lia | omega)), ih]; (first | lia | omega)
theorem fw_inner {len : Nat} (h1 : 1 ≤ len) {k : Nat} (hk : len + k ≤ 20) {σ : St} (h : σ 5 = .sh (.list (di (rest len k)))) : ∃ σ', fwI σ = some (.nxt, σ') ∧ σ' 5 = .sh (.list (di (rest len (k + 1)))) ∧ ∀ j, j ≠ 5 → σ' j = σ j := by
  have hl := rest_len h1 k
  obtain ⟨x, nx, ex⟩ : ∃ x, nthD (.list (di (rest len k))) (.int ((0 : Nat) : Int)) = some (.int x) ∧ (rest len k).getD 0 0 = x := ⟨_, nth_pos (by (first | lia | omega)) (by (first | lia | omega)), rfl⟩
  have hf : fromD (.list (di (rest len k))) (.int 1) = some (.list (di ((rest len k).drop 1))) := by
    simp only [fromD]
    rw [if_pos ⟨by decide, by rw [di_len]; (first | lia | omega)⟩, ← di_drop]
    rfl
  have ha : oAdd (.list (di ((rest len k).drop 1))) (.list [.int (x + 1), .int (x + 1)]) = some (.list (di ((rest len k).drop 1 ++ [x + 1, x + 1]))) := by
    simp only [oAdd]
    rw [if_pos (by rw [di_len]; simp; (first | lia | omega))]
    simp [di]
  have hs := sort2_ints (l := (rest len k).drop 1 ++ [x + 1, x + 1]) (by simp; (first | lia | omega))
  have he : rest len (k + 1) = isort ((rest len k).drop 1 ++ [x + 1, x + 1]) := by show rstep _ = _; unfold rstep; rw [ex]
  simp only [Int.natCast_zero] at nx
  refine ⟨upd σ 5 (.sh (.list (di (rest len (k + 1))))), ?_, by (first | rfl | simp), fun j hj => by (first | exact hj | simp [hj])⟩
  have hx : oAdd (.int x) (.int 1) = some (.int (x + 1)) := rfl
  rw [he]
  clear he
  generalize (rest len k).drop 1 = t at *
  unfold fwI
  simp [h, hf, nx, hx, ha, hs]
end Mine
end

section
set_option autoImplicit false
namespace Mine
open PySem

/-- fewest's candidates, for the lengths 1 .. k -/
noncomputable def fws (n : Nat) (W L : Int) : Nat → List Int
  | 0 => []
  | k + 1 => fws n W L k ++ (if maxI (rest (k + 1) (n - 1 - (k + 1))) ≤ L then [(W - n + 1) * ((k + 1 : Nat) : Int) + (rest (k + 1) (n - 1 - (k + 1))).sum] else [])
structure FI (n : Nat) (W L : Int) (k : Nat) (σ : St) : Prop where
  s0 : σ 0 = .sh (.int n)
  s1 : σ 1 = .sh (.int W)
  s2 : σ 2 = .sh (.int L)
  s3 : σ 3 = .ow (di (fws n W L k))
theorem fws_len (n : Nat) (W L : Int) : ∀ k, (fws n W L k).length ≤ k
  | 0 => Nat.le_refl _
  | k + 1 => by
    have := fws_len n W L k
    simp only [fws, List.length_append]
    split <;> simp <;> (first | lia | omega)
theorem fw_step {n : Nat} (hn : n ≤ 9) {W L : Int} {k : Nat} (hk : k + 1 < n) {σ : St} (h : FI n W L k σ) : ∃ σ', fwB (upd σ 4 (.sh (.int ((k + 1 : Nat) : Int)))) = some (.nxt, σ') ∧ FI n W L (k + 1) σ' := by
  generalize hm : n - 1 - (k + 1) = m
  have near1 : near 1 := by decide
  have near0 : near 0 := by decide
  have neark : near (((k + 1 : Nat) : Int) + 1) := ⟨by (first | lia | omega), by (first | lia | omega)⟩
  have nearm : near (m : Int) := ⟨by (first | lia | omega), by (first | lia | omega)⟩
  have e1 : (n : Int) - 1 - ((k + 1 : Nat) : Int) = (m : Nat) := by (first | lia | omega)
  have hls : bList (.rng 1 (((k + 1 : Nat) : Int) + 1) 1) = some (.list (di (rest (k + 1) 0))) := by
    simp only [bList]
    rw [if_pos ⟨near1, neark, trivial⟩]
    rfl
  generalize hσ1 : upd (upd σ 4 (.sh (.int ((k + 1 : Nat) : Int)))) 5 (.sh (.list (di (rest (k + 1) 0)))) = σ1
  have b0 : σ1 0 = .sh (.int n) := by first | exact (congrFun hσ1.symm _).trans h.s0 | (rw [← hσ1]; simp [h.s0])
  have b4 : σ1 4 = .sh (.int ((k + 1 : Nat) : Int)) := by first | exact (congrFun hσ1.symm _).trans rfl | (rw [← hσ1]; simp)
  have b5 : σ1 5 = .sh (.list (di (rest (k + 1) 0))) := by first | exact (congrFun hσ1.symm _).trans rfl | (rw [← hσ1]; simp)
  have b1 : σ1 1 = .sh (.int W) := by first | exact (congrFun hσ1.symm _).trans h.s1 | (rw [← hσ1]; simp [h.s1])
  have b2 : σ1 2 = .sh (.int L) := by first | exact (congrFun hσ1.symm _).trans h.s2 | (rw [← hσ1]; simp [h.s2])
  have b3 : σ1 3 = .ow (di (fws n W L k)) := by first | exact (congrFun hσ1.symm _).trans h.s3 | (rw [← hσ1]; simp [h.s3])
  obtain ⟨σ2, e2, c5, cj⟩ := for_loop (tgi := [6]) (Bd := fwI) (rows := one (di (rngI 0 m 1))) (fun j τ => τ 5 = .sh (.list (di (rest (k + 1) j))) ∧ ∀ i, i ≠ 5 → i ≠ 6 → τ i = σ1 i) (fun j row τ hr ⟨h5, hj⟩ => by
    obtain ⟨x, hx, rfl⟩ := one_get hr
    obtain ⟨i, hi, rfl⟩ := di_get hx
    obtain ⟨rfl, hjm⟩ := rng1_get hi
    obtain ⟨σ', e, g5, gj⟩ := fw_inner (len := k + 1) (by (first | lia | omega)) (k := j) (by (first | lia | omega)) (σ := upd τ 6 (.sh (.int j))) (by (first | exact h5 | simp [h5]))
    exact ⟨_, σ', rfl, e, g5, fun i h5 h6 => by rw [gj i h5]; simp [h6, hj i h5 h6]⟩) (σ := σ1) ⟨b5, fun _ _ _ => rfl⟩
  rw [one_len, di_len, rng1_len (by (first | lia | omega))] at c5
  have em : ((m : Int)).toNat = m := by (first | lia | omega)
  rw [em] at c5
  have c0 : σ2 0 = .sh (.int n) := by rw [cj 0 (by decide) (by decide)]; exact b0
  have c1 : σ2 1 = .sh (.int W) := by rw [cj 1 (by decide) (by decide)]; exact b1
  have c2 : σ2 2 = .sh (.int L) := by rw [cj 2 (by decide) (by decide)]; exact b2
  have c3 : σ2 3 = .ow (di (fws n W L k)) := by rw [cj 3 (by decide) (by decide)]; exact b3
  have c4 : σ2 4 = .sh (.int ((k + 1 : Nat) : Int)) := by rw [cj 4 (by decide) (by decide)]; exact b4
  have hrl := rest_len (len := k + 1) (by (first | lia | omega)) m
  have hmax : bMax (.list (di (rest (k + 1) m))) = some (.int (maxI (rest (k + 1) m))) := by
    have hne : rest (k + 1) m ≠ [] := fun e => by rw [e] at hrl; simp only [List.length_nil] at hrl; (first | lia | omega)
    simp only [bMax, ints?_of_di, Option.bind_some, if_neg hne]
  have hsum : bSum (.list (di (rest (k + 1) m))) = some (.int (rest (k + 1) m).sum) := by simp only [bSum, ints?_of_di, Option.map_some]
  have hsm : small ((k + 1 : Nat) : Int) := ⟨by (first | lia | omega), by (first | lia | omega)⟩
  have hmul : oMul (.int (W - n + 1)) (.int ((k + 1 : Nat) : Int)) = some (.int ((W - n + 1) * ((k + 1 : Nat) : Int))) := by
    simp only [oMul]; rw [if_pos (.inr hsm)]
  have hfl := fws_len n W L k
  have hz : (di (fws n W L k)).length ≤ 1048576 := by rw [di_len]; (first | lia | omega)
  have eset : ySet 5 (xB1 bList (bGen (xB2 bRng2 (xCons (xInt 1) (xCons (xBin oAdd (xVar 4) (xInt 1)) xNil))))) (upd σ 4 (.sh (.int ((k + 1 : Nat) : Int)))) = some (.nxt, σ1) := by
    have ha : oAdd (.int ((k + 1 : Nat) : Int)) (.int 1) = some (.int (((k + 1 : Nat) : Int) + 1)) := rfl
    have hb : bRng2 (.int 1) (.int (((k + 1 : Nat) : Int) + 1)) = some (.rng 1 (((k + 1 : Nat) : Int) + 1) 1) := rfl
    rw [← hσ1]
    generalize ((k + 1 : Nat) : Int) = z at *
    simp [ha, hb, hls]
  have ir : iRng (xB1 bRng1 (bGen (xBin oSub (xBin oSub (xVar 0) (xInt 1)) (xVar 4)))) σ1 = some (one (di (rngI 0 m 1)), σ1) := by
    generalize ((k + 1 : Nat) : Int) = z at *
    unfold iRng
    simp [b0, b4, oSub, e1, bRng1, near0, nearm]
  have efw : fws n W L (k + 1) = fws n W L k ++ (if maxI (rest (k + 1) m) ≤ L then [(W - n + 1) * ((k + 1 : Nat) : Int) + (rest (k + 1) m).sum] else []) := by rw [← hm]; rfl
  generalize rest (k + 1) m = R at *
  generalize ((k + 1 : Nat) : Int) = z at *
  by_cases c : maxI R ≤ L
  · have hle : cLe (.int (maxI R)) (.int L) = some (.bool true) := by simp [cLe, c]
    rw [if_pos c] at efw
    refine ⟨upd σ2 3 (.ow (di (fws n W L (k + 1)))), ?_, ⟨by (first | exact c0 | simp [c0]), by (first | exact c1 | simp [c1]), by (first | exact c2 | simp [c2]), by (first | rfl | simp)⟩⟩
    unfold fwB
    rw [seq_eq eset]
    rw [seq_for ir e2]
    have hd : di (fws n W L k) ++ [D.int ((W - n + 1) * z + R.sum)] = di (fws n W L k ++ [(W - n + 1) * z + R.sum]) := by simp [di]
    simp [c0, c1, c2, c3, c4, c5, hmax, hle, hsum, oAdd, oSub, hmul, hz, hd, efw]
  · have hle : cLe (.int (maxI R)) (.int L) = some (.bool false) := by simp [cLe, c]
    rw [if_neg c, List.append_nil] at efw
    refine ⟨σ2, ?_, ⟨c0, c1, c2, by rw [efw]; exact c3⟩⟩
    unfold fwB
    rw [seq_eq eset]
    rw [seq_for ir e2]
    simp [c2, c5, hmax, hle]
theorem fewest_spec {n : Nat} (h2 : 2 ≤ n) (hn : n ≤ 9) {W L : Int} (hne : fws n W L (n - 1) ≠ []) : g_law_fewest [.int n, .int W, .int L] = some (.int (minI (fws n W L (n - 1)))) := by
  have near1 : near 1 := by decide
  have nearn : near (n : Int) := ⟨by (first | lia | omega), by (first | lia | omega)⟩
  generalize hσ : upd (upd (upd (initS [.int n, .int W, .int L]) 100 (.ow [])) 100 .no) 3 (.ow []) = σ0
  have i0 : FI n W L 0 σ0 := by subst hσ; exact ⟨by (first | rfl | simp), by (first | rfl | simp), by (first | rfl | simp), by simp [fws, di]⟩
  obtain ⟨σ1, e1, i1⟩ := for_loop (tgi := [4]) (Bd := fwB) (rows := one (di (rngI 1 n 1))) (FI n W L) (fun k row τ hr hI => by
    obtain ⟨x, hx, rfl⟩ := one_get hr
    obtain ⟨i, hi, rfl⟩ := di_get hx
    obtain ⟨rfl, hk⟩ := rngab_get hi
    have e : (1 : Int) + (k : Int) = ((k + 1 : Nat) : Int) := by (first | lia | omega)
    rw [e]
    obtain ⟨σ', e1, hI'⟩ := fw_step hn (by (first | lia | omega)) hI
    exact ⟨_, σ', rfl, e1, hI'⟩) i0
  rw [one_len, di_len, rngab_len] at i1
  have en : ((n : Int) - 1).toNat = n - 1 := by (first | lia | omega)
  rw [en] at i1
  have ir : iRng (xB2 bRng2 (xCons (xInt 1) (xCons (xVar 0) xNil))) σ0 = some (one (di (rngI 1 n 1)), σ0) := by
    unfold iRng
    simp [i0.s0, bRng2, near1, nearn]
  have hmin : bMin (.list (di (fws n W L (n - 1)))) = some (.int (minI (fws n W L (n - 1)))) := by
    simp only [bMin, ints?_of_di, Option.bind_some, if_neg hne]
  have es : ySetO 3 100 xNil (initS [.int n, .int W, .int L]) = some (.nxt, σ0) := by first | exact (congrFun hσ.symm _).trans rfl | (rw [← hσ]; simp)
  simp only [g_law_fewest, gOf, List.length_cons, List.length_nil, if_true, f_fewest_eq]
  rw [seq_eq es]
  rw [seq_for ir e1]
  simp [i1.s3, hmin, resD]
end Mine
end

section
set_option autoImplicit false
namespace Mine
open PySem

theorem up_firsts : ∀ (r : List Int) (k : Nat), (up r k).map (·.1) = r.filter (0 < ·)
  | [], k => rfl
  | c :: r, k => by
    have ih := up_firsts r (k + 1)
    simp only [up, List.filter_cons]
    split <;> simp_all
theorem uw_eq {r : List Int} (hr : r.length ≤ 64) : uw r = isort (r.filter (0 < ·)) := by
  refine isort_eq ?_ (uw_asc hr)
  rw [← up_firsts r 0]
  exact (us_perm r).map _
/-- the comprehension that keeps the counts in use -/
theorem keep_comp (r : List Int) (σ : St) : compGo [0] (xBin cGt (xVar 0) (xInt 0)) (xVar 0) (one (di r)) σ = some (di (r.filter (0 < ·))) := by
  rw [comp_spec (fun row => match row with | [.int c] => if 0 < c then some (.int c) else none | _ => none) (fun _ => True) (fun row hrow τ _ => by
    simp only [one, di, List.map_map, List.mem_map] at hrow
    obtain ⟨c, _, rfl⟩ := hrow
    refine ⟨upd τ 0 (.sh (.int c)), rfl, ?_⟩
    by_cases h : 0 < c
    · exact .inl ⟨.int c, upd τ 0 (.sh (.int c)), upd τ 0 (.sh (.int c)), by (first | exact h | simp [h]), by simp [cGt, h], by (first | rfl | simp), trivial⟩
    · exact .inr ⟨upd τ 0 (.sh (.int c)), by (first | exact h | simp [h]), by simp [cGt, h], trivial⟩) σ trivial]
  congr 1
  induction r with
  | nil => rfl
  | cons c r ih =>
    simp only [one, di, List.map_cons, List.filterMap_cons, List.filter_cons] at ih ⊢
    by_cases h : 0 < c
    · rw [if_pos h, if_pos (by simpa using h)]
      simp only [List.map_cons]
      rw [ih]
    · rw [if_neg h, if_neg (by simpa using h)]
      exact ih
end Mine
end

section
set_option autoImplicit false
namespace Mine
open PySem

theorem sub0 {U : List Int} {a : Int} (h : U[0]? = some a) (hl : U.length ≤ 1048576) : nthD (.list (di U)) (.int 0) = some (.int a) := by
  obtain ⟨hlt, _⟩ := List.getElem?_eq_some_iff.mp h
  have := nth_pos hlt hl
  rw [List.getD_eq_getElem?_getD, h] at this
  simpa using this
theorem sub1 {U : List Int} {a : Int} (h : U[1]? = some a) (hl : U.length ≤ 1048576) : nthD (.list (di U)) (.int 1) = some (.int a) := by
  obtain ⟨hlt, _⟩ := List.getElem?_eq_some_iff.mp h
  have := nth_pos hlt hl
  rw [List.getD_eq_getElem?_getD, h] at this
  simpa using this
theorem subl {U : List Int} {a : Int} (h : U[U.length - 1]? = some a) (hl : U.length ≤ 1048576) (h1 : 1 ≤ U.length) : nthD (.list (di U)) (.int (-1)) = some (.int a) := by
  have := nth_neg (j := 1) (Nat.le_refl _) h1 hl
  rw [List.getD_eq_getElem?_getD, h] at this
  simpa using this
noncomputable def limV (L : Nat) (n : Nat) : Int := if 0 < L then (L : Int) else (n : Int) - 1
theorem row_right_spec {r : List Int} (hn : r.length ≤ 9) {T : Int} {L : Nat} {a0 a1 al' : Int} (h2 : 2 ≤ (uw r).length) (u0 : (uw r)[0]? = some a0) (u1 : (uw r)[1]? = some a1) (ul : (uw r)[(uw r).length - 1]? = some al')
    (hne : fws (uw r).length (uw r).sum (limV L (uw r).length) ((uw r).length - 1) ≠ []) (hf : minI (fws (uw r).length (uw r).sum (limV L (uw r).length) ((uw r).length - 1)) ≤ T) (hT : T ≤ nearV (uw r))
    (heq : al' ≤ a0 + a1 → T = nearV (uw r)) (hlt : ¬ al' ≤ a0 + a1 → T < nearV (uw r) ∨ ((uw r).length ≠ 4 ∧ (uw r).length ≠ 8) ∨ limV L (uw r).length ≤ sameN (uw r).length) :
    g_law_row_right [.list (di r), .int T, .int L] = some (.bool true) := by
  have hul : (uw r).length ≤ 9 := by
    have := up_len r 0
    simp [uw, us_len]; (first | assumption | exact Nat.le_trans (by assumption) (by decide) | exact Int.le_trans (by assumption) (by decide) | exact Nat.lt_of_lt_of_le (by assumption) (by assumption) | exact Nat.le_trans (by assumption) (by assumption) | exact Nat.lt_of_lt_of_le (by assumption) (by decide))
  have hcomp : ∀ σ : St, σ 0 = .sh (.list (di r)) → xComp (iList (xVar 0)) [] [0] (xBin cGt (xVar 0) (xInt 0)) (xVar 0) σ = some (.list (di (r.filter (0 < ·))), σ) := fun σ h => by
    have e2 : iList (xVar 0) σ = some (one (di r), σ) := by
      unfold iList
      simp [h, list?]
    unfold xComp
    rw [e2]
    simp only [Option.bind_some]
    rw [if_pos (by rw [one_len, di_len]; (first | assumption | exact Nat.le_trans (by assumption) (by decide) | exact Int.le_trans (by assumption) (by decide) | exact Nat.lt_of_lt_of_le (by assumption) (by assumption) | exact Nat.le_trans (by assumption) (by assumption) | exact Nat.lt_of_lt_of_le (by assumption) (by decide))), keep_comp]
    rfl
  have hso : bSort2 (.list (di (r.filter (0 < ·)))) = some (.list (di (uw r))) := by
    rw [sort2_ints (by have := List.length_filter_le (0 < ·) r; (first | lia | omega)), ← uw_eq (by (first | assumption | exact Nat.le_trans (by assumption) (by decide) | exact Int.le_trans (by assumption) (by decide) | exact Nat.lt_of_lt_of_le (by assumption) (by assumption) | exact Nat.le_trans (by assumption) (by assumption) | exact Nat.lt_of_lt_of_le (by assumption) (by decide)))]
  have hlen := len_spec (l := uw r) (by (first | lia | omega))
  have hnear := near_spec (U := uw r) h2 hul
  have hfew := fewest_spec (n := (uw r).length) h2 hul (W := (uw r).sum) (L := limV L (uw r).length) hne
  have hsame := same_spec ((uw r).length : Nat) (by (first | lia | omega)) (by (first | lia | omega))
  have n0 := sub0 u0 (by (first | lia | omega))
  have n1 := sub1 u1 (by (first | lia | omega))
  have nl := subl ul (by (first | lia | omega)) (by (first | lia | omega))
  have hsum : bSum (.list (di (uw r))) = some (.int (uw r).sum) := by simp only [bSum, ints?_of_di, Option.map_some]
  have c1 : cLe (.int (minI (fws (uw r).length (uw r).sum (limV L (uw r).length) ((uw r).length - 1)))) (.int T) = some (.bool true) := by simp only [cLe]; rw [decide_eq_true hf]
  have c2 : cLe (.int T) (.int (nearV (uw r))) = some (.bool true) := by simp only [cLe]; rw [decide_eq_true hT]
  generalize hU : uw r = U at *
  generalize hF : minI (fws U.length U.sum (limV L U.length) (U.length - 1)) = F at *
  generalize hV : nearV U = V at *
  have hlim : ∀ τ : St, τ 2 = .sh (.int L) → τ 4 = .sh (.int U.length) → (xIf (xBin cGt (xVar 2) (xInt 0)) (xVar 2) (xBin oSub (xVar 4) (xInt 1))) τ = some (.int (limV L U.length), τ) := fun τ t2 t4 => by
    unfold limV
    by_cases c : 0 < L
    · have g : cGt (.int (L : Int)) (.int 0) = some (.bool true) := by
        simp only [cGt]; rw [decide_eq_true (by (first | lia | omega))]
      simp [t2, g, c]
    · have g : cGt (.int (L : Int)) (.int 0) = some (.bool false) := by
        simp only [cGt]; rw [decide_eq_false (by (first | lia | omega))]
      simp [t2, t4, g, c, oSub]
  generalize hσ : upd (initS [.list (di r), .int T, .int L]) 3 (.sh (.list (di U))) = σ1
  have a1' : σ1 1 = .sh (.int T) := by first | exact (congrFun hσ.symm _).trans rfl | (rw [← hσ]; simp)
  have a2' : σ1 2 = .sh (.int L) := by first | exact (congrFun hσ.symm _).trans rfl | (rw [← hσ]; simp)
  have a3' : σ1 3 = .sh (.list (di U)) := by first | exact (congrFun hσ.symm _).trans rfl | (rw [← hσ]; simp)
  generalize hσ2 : upd (upd (upd σ1 5 (.sh (.int V))) 4 (.sh (.int U.length))) 6 (.sh (.int (limV L U.length))) = σ3
  have b1 : σ3 1 = .sh (.int T) := by first | exact (congrFun hσ2.symm _).trans a1' | (rw [← hσ2]; simp [a1'])
  have b3 : σ3 3 = .sh (.list (di U)) := by first | exact (congrFun hσ2.symm _).trans a3' | (rw [← hσ2]; simp [a3'])
  have b4 : σ3 4 = .sh (.int U.length) := by first | exact (congrFun hσ2.symm _).trans rfl | (rw [← hσ2]; simp)
  have b5 : σ3 5 = .sh (.int V) := by first | exact (congrFun hσ2.symm _).trans rfl | (rw [← hσ2]; simp)
  have b6 : σ3 6 = .sh (.int (limV L U.length)) := by first | exact (congrFun hσ2.symm _).trans rfl | (rw [← hσ2]; simp)
  have d0 : xComp (iList (xVar 0)) [] [0] (xBin cGt (xVar 0) (xInt 0)) (xVar 0) (initS [.list (di r), .int T, .int L]) = some (.list (di (r.filter (0 < ·))), initS [.list (di r), .int T, .int L]) := hcomp _ rfl
  have e1 : ySet 3 (xB1 bSort2 (bGen (xComp (iList (xVar 0)) [] [0] (xBin cGt (xVar 0) (xInt 0)) (xVar 0)))) (initS [.list (di r), .int T, .int L]) = some (.nxt, σ1) := by
    rw [y_set, e_b1, e_gen, d0]
    simp only [Option.map_some, Option.bind_some, hso]
    rw [hσ]
  have e2 : ySwp [5, 4] (eSh (xB1 bLen (bGen (xVar 3))) (eSh (xCall g_law_near (xCons (xVar 3) xNil)) eNil)) σ1 = some (.nxt, upd (upd σ1 5 (.sh (.int V))) 4 (.sh (.int U.length))) := by
    simp [a3', hlen, hnear]
  have e3 : ySet 6 (xIf (xBin cGt (xVar 2) (xInt 0)) (xVar 2) (xBin oSub (xVar 4) (xInt 1))) (upd (upd σ1 5 (.sh (.int V))) 4 (.sh (.int U.length))) = some (.nxt, σ3) := by
    rw [y_set, hlim _ (by (first | exact a2' | simp [a2'])) (by (first | rfl | simp))]
    simp only [Option.map_some]
    rw [hσ2]
  have e4 : (xNot (xChn cLe cLe (xCall g_law_fewest (xCons (xVar 4) (xCons (xB1 bSum (bGen (xVar 3))) (xCons (xVar 6) xNil)))) (xVar 1) (xVar 5))) σ3 = some (.bool false, σ3) := by
    simp [xChn, b1, b3, b4, b5, b6, hsum, hfew, c1, c2]
  simp only [g_law_row_right, gOf, List.length_cons, List.length_nil, if_true, f_law_row_right]
  rw [seq_eq e1]
  rw [seq_eq e2]
  rw [seq_eq e3]
  rw [seq_if_f e4]
  by_cases c : al' ≤ a0 + a1
  · have g : cGe (.int (a0 + a1)) (.int al') = some (.bool true) := by simp only [cGe]; rw [decide_eq_true c]
    have g2 : cEq (.int T) (.int V) = some (.bool true) := by rw [heq c]; simp [cEq]
    simp [b1, b3, b5, n0, n1, nl, oAdd, g, g2, resD]
  · have g : cGe (.int (a0 + a1)) (.int al') = some (.bool false) := by simp only [cGe]; rw [decide_eq_false c]
    by_cases h1 : T < V
    · have g2 : cLt (.int T) (.int V) = some (.bool true) := by simp only [cLt]; rw [decide_eq_true h1]
      simp [b1, b3, b5, n0, n1, nl, oAdd, g, g2, resD]
    · have g2 : cLt (.int T) (.int V) = some (.bool false) := by simp only [cLt]; rw [decide_eq_false h1]
      have hcase := (hlt c).resolve_left h1
      by_cases h2' : U.length ≠ 4 ∧ U.length ≠ 8
      · have g3 : cNin (.int U.length) (.list [.int 4, .int 8]) = some (.bool true) := by
          simp only [cNin]
          have : ([(4 : Int), 8].any (· == (U.length : Int))) = false := by simp; (first | lia | omega)
          rw [this]; rfl
        simp [b1, b3, b4, b5, n0, n1, nl, oAdd, g, g2, g3, resD]
      · have g3 : cNin (.int U.length) (.list [.int 4, .int 8]) = some (.bool false) := by
          simp only [cNin]
          have : ([(4 : Int), 8].any (· == (U.length : Int))) = true := by simp; (first | lia | omega)
          rw [this]; rfl
        have g4 : cLe (.int (limV L U.length)) (.int (sameN U.length)) = some (.bool true) := by
          simp only [cLe]; rw [decide_eq_true (hcase.resolve_left h2')]
        simp [b1, b3, b4, b5, b6, n0, n1, nl, oAdd, g, g2, g3, hsame, g4, resD]
end Mine
end

section
set_option autoImplicit false
namespace Mine
open PySem

theorem move_right_spec {m : List Int} {ah be : List Nat} {a b : Nat} {fall : Int} {x y u v mv : Nat} {mo : Int} (hm : m.length ≤ 9) (hla : ah.length ≤ 9) (hlb : be.length ≤ 9) (hmo : m[a]? = some mo) (hx : ah[a]? = some x) (hy : ah[b]? = some y) (hu : be[a]? = some u) (hv : be[b]? = some v)
    (hz : mo = 0 → uw m ≠ [] ∧ (if (x : Int) - y < 0 then -((x : Int) - y) else (x : Int) - y) + minI (m.filter (0 < ·)) ≤ fall) (hnz : mo ≠ 0 → (if (x : Int) - y < 0 then -((x : Int) - y) else (x : Int) - y) ≤ fall ∧ fall ≤ (u : Int) - v) :
    g_law_move_right [.list (di m), .list [.int a, .int b], .list [.list (din ah), .list (din be)], .int fall] = some (.bool true) := by
  have nx := din_nth hx (by (first | lia | omega))
  have ny := din_nth hy (by (first | lia | omega))
  have nu := din_nth hu (by (first | lia | omega))
  have nv := din_nth hv (by (first | lia | omega))
  have nm : nthD (.list (di m)) (.int a) = some (.int mo) := by
    have := nth_pos (List.getElem?_eq_some_iff.mp hmo).1 (by (first | lia | omega) : m.length ≤ 1048576)
    rwa [List.getD_eq_getElem?_getD, hmo] at this
  generalize hap : (if (x : Int) - y < 0 then -((x : Int) - y) else (x : Int) - y) = ap at *
  have habs : bAbs (.int ((x : Int) - y)) = some (.int ap) := by simp only [bAbs, hap]
  by_cases c : mo = 0
  · obtain ⟨g1, g2⟩ := hz c
    have ce : cEq (.int mo) (.int 0) = some (.bool true) := by simp [cEq, c]
    have hne : m.filter (0 < ·) ≠ [] := fun e => g1 (by rw [uw_eq (by (first | lia | omega)), e]; rfl)
    have hmin : bMin (.list (di (m.filter (0 < ·)))) = some (.int (minI (m.filter (0 < ·)))) := by simp only [bMin, ints?_of_di, Option.bind_some, if_neg hne]
    have hcomp : ∀ σ : St, σ 0 = .sh (.list (di m)) → xComp (iList (xVar 0)) [] [0] (xBin cGt (xVar 0) (xInt 0)) (xVar 0) σ = some (.list (di (m.filter (0 < ·))), σ) := fun σ h => by
      have e2 : iList (xVar 0) σ = some (one (di m), σ) := by
        unfold iList
        simp [h, list?]
      unfold xComp
      rw [e2]
      simp only [Option.bind_some]
      rw [if_pos (by rw [one_len, di_len]; (first | lia | omega)), keep_comp]
      rfl
    generalize minI (m.filter (0 < ·)) = mi at *
    have c1 : cGe (.int fall) (.int (ap + mi)) = some (.bool true) := by simp only [cGe]; rw [decide_eq_true g2]
    simp only [g_law_move_right, gOf, List.length_cons, List.length_nil, if_true, f_law_move_right]
    simp [nx, ny, nm, oSub, habs, ce, hcomp, hmin, oAdd, c1, resD]
  · obtain ⟨g1, g2⟩ := hnz c
    have ce : cEq (.int mo) (.int 0) = some (.bool false) := by simp [cEq, c]
    have c1 : cLe (.int ap) (.int fall) = some (.bool true) := by simp only [cLe]; rw [decide_eq_true g1]
    have c2 : cLe (.int fall) (.int ((u : Int) - v)) = some (.bool true) := by simp only [cLe]; rw [decide_eq_true g2]
    simp only [g_law_move_right, gOf, List.length_cons, List.length_nil, if_true, f_law_move_right]
    simp [nx, ny, nu, nv, nm, oSub, habs, ce, xChn, c1, c2, resD]
end Mine
end

section
set_option autoImplicit false
namespace Mine
open PySem

noncomputable def enG : List D → Option D
  | [.int k, .int c] => if 0 < c then some (.tup [.int c, .int k]) else none
  | _ => none
theorem enum_up : ∀ (r : List Int) (k : Nat), (((List.range' k r.length).zip (di r)).map fun p => [D.int p.1, p.2]).filterMap enG = dp (up r k)
  | [], k => rfl
  | c :: r, k => by
    have ih := enum_up r (k + 1)
    simp only [List.length_cons, List.range'_succ, di, List.map_cons, List.zip_cons_cons, List.filterMap_cons, up] at ih ⊢
    by_cases h : 0 < c
    · have e : enG [.int (k : Int), .int c] = some (.tup [.int c, .int k]) := by simp [enG, h]
      rw [e, if_pos h]
      simp only [dp, List.map_cons] at ih ⊢
      rw [ih]
    · have e : enG [.int (k : Int), .int c] = none := by simp [enG, h]
      rw [e, if_neg h]
      exact ih
theorem enum_comp (r : List Int) (σ : St) : compGo [0, 1] (xBin cGt (xVar 1) (xInt 0)) (xTup (xCons (xVar 1) (xCons (xVar 0) xNil))) (enumD (di r)) σ = some (dp (up r 0)) := by
  rw [comp_spec enG (fun _ => True) (fun row hrow τ _ => by
    obtain ⟨k, hk⟩ := List.getElem?_of_mem hrow
    obtain ⟨c, _, rfl⟩ := enum_row hk
    refine ⟨upd (upd τ 0 (.sh (.int k))) 1 (.sh (.int c)), rfl, ?_⟩
    by_cases h : 0 < c
    · exact .inl ⟨.tup [.int c, .int k], upd (upd τ 0 (.sh (.int k))) 1 (.sh (.int c)), upd (upd τ 0 (.sh (.int k))) 1 (.sh (.int c)), by simp [enG, h], by simp [cGt, h], by (first | rfl | simp), trivial⟩
    · exact .inr ⟨upd (upd τ 0 (.sh (.int k))) 1 (.sh (.int c)), by simp [enG, h], by simp [cGt, h], trivial⟩) σ trivial]
  congr 1
  have := enum_up r 0
  unfold enumD
  rw [di_len, List.range_eq_range']
  exact this
end Mine
end

section
set_option autoImplicit false
namespace Mine
open PySem

noncomputable def m5 : Ex := (ySet 5 (xB1 bSort2 (bGen (xComp (iEnum (xSub (bOwn 2) (xNeg (xInt 1)))) [] [0, 1] (xBin cGt (xVar 1) (xInt 0)) (xTup (xCons (xVar 1) (xCons (xVar 0) xNil)))))))
noncomputable def m6 : Ex := (ySet 6 (xCallB 0 g_law_take (xCons (xBin oSub (xB1 bLen (bGen (xVar 5))) (xInt 1)) xNil)))
noncomputable def m7 : Ex := (ySet 7 (xBin oAdd (xBin oAdd (xVar 6) (xInt 1)) (xCallB 0 g_law_take (xCons (xBin oSub (xBin oSub (xB1 bLen (bGen (xVar 5))) (xInt 1)) (xVar 6)) xNil))))
noncomputable def m8 : Ex := (ySwp [9, 8] (eSh (xSub (bGen (xSub (bGen (xVar 5)) (xVar 6))) (xInt 1)) (eSh (xSub (bGen (xSub (bGen (xVar 5)) (xVar 7))) (xInt 1)) eNil)))
noncomputable def mTe : Ev := (xOr (xBin cGt (xSub (bGen (xSub (bGen (xVar 5)) (xVar 6))) (xInt 0)) (xInt 1)) (xBin cGt (xB1 bLen (bGen (xVar 5))) (xInt 2)))
noncomputable def mG1 : Ex := (ySetO 10 102 (fCopy (bGen (xSub (bOwn 2) (xNeg (xInt 1))))))
noncomputable def mG2 : Ex := (yAt 10 (xBin oSub (xSub (bOwn 10) (xVar 8)) (xInt 1)) (xVar 8))
noncomputable def mG3 : Ex := (yAt 10 (xBin oAdd (xSub (bOwn 10) (xVar 9)) (xInt 1)) (xVar 9))
noncomputable def mG4 : Ex := (yApp 2 (xMov 10))
noncomputable def mG5 : Ex := (yApp 3 (xList (xCons (xVar 8) (xCons (xVar 9) xNil))))
noncomputable def mGo : Ex := (ySeq mG1 (ySeq mG2 (ySeq mG3 (ySeq mG4 (ySeq mG5 yNil)))))
noncomputable def mBdy : Ex := ySeq m5 (ySeq m6 (ySeq m7 (ySeq m8 (ySeq (yIf mTe mGo yNil) yNil))))
noncomputable def mHd : Ex := ySwp [3, 2] (eOw 100 (xCons (xVar 1) xNil) (eOw 101 xNil eNil))
theorem f_moves_eq : f_law_moves = ySeq mHd (ySeq (yFor (iRng (xB1 bRng1 (bGen (xBin oAdd (xInt 1) (xCallB 0 g_law_take (xCons (xInt 2) xNil)))))) [4] mBdy) (ySeq (yRet (xTup (xCons (xMov 2) (xCons (xMov 3) xNil)))) yNil)) := rfl

noncomputable def rowsD (R : List (List Int)) : List D := R.map fun r => .list (di r)
noncomputable def movesD (M : List (Nat × Nat)) : List D := M.map fun p => .list [.int p.1, .int p.2]
structure MvOK (r : List Int) (a b : Nat) : Prop where
  ne : a ≠ b
  la : a < r.length
  lb : b < r.length
  pa : 1 ≤ r.getD a 0
  pb : 1 ≤ r.getD b 0
  le : r.getD a 0 ≤ r.getD b 0
  more : 1 < r.getD a 0 ∨ 2 < (up r 0).length
noncomputable def mv (r : List Int) (a b : Nat) : List Int := (r.set a (r.getD a 0 - 1)).set b (r.getD b 0 + 1)
theorem last_row (R : List (List Int)) (r : List Int) (h : R.length ≤ 100) : nthD (.list (rowsD (R ++ [r]))) (.int (-1)) = some (.list (di r)) := by
  have e : (rowsD (R ++ [r])).length = R.length + 1 := by simp [rowsD]
  simp only [nthD, e]
  rw [if_pos (by (first | lia | omega)), if_neg (by decide), if_pos (by (first | lia | omega))]
  have e2 : ((-1 : Int) + ((R.length + 1 : Nat) : Int)).toNat = R.length := by (first | lia | omega)
  rw [e2]
  simp [rowsD]

/-! the rows' facts -/
structure RowOK (n : Nat) (W : Int) (r : List Int) : Prop where
  nn : ∀ c ∈ r, 0 ≤ c
  len : r.length = n
  sum : r.sum = W
  two : 2 ≤ (up r 0).length
theorem sum_set : ∀ (l : List Int) (i : Nat) (x : Int), i < l.length → (l.set i x).sum = l.sum - l.getD i 0 + x
  | [], i, x, h => by simp at h
  | v :: l, 0, x, _ => by simp; (first | lia | omega)
  | v :: l, i + 1, x, h => by
    have := sum_set l i x (by simpa using h)
    simp only [List.set_cons_succ, List.sum_cons, this, List.getD_cons_succ]
    (first | lia | omega)
theorem getD_set_ne {l : List Int} {i j : Nat} {x : Int} (h : i ≠ j) : (l.set i x).getD j 0 = l.getD j 0 := by
  simp [List.getD_eq_getElem?_getD, List.getElem?_set_ne h]
theorem getD_set_eq {l : List Int} {i : Nat} {x : Int} (h : i < l.length) : (l.set i x).getD i 0 = x := by
  simp [List.getD_eq_getElem?_getD, h]
theorem up_count (r : List Int) : (up r 0).length = r.countP (0 < ·) := by
  rw [← List.length_map (f := fun p : Int × Int => p.1), up_firsts, List.countP_eq_length_filter]
theorem mv_len (r : List Int) (a b : Nat) : (mv r a b).length = r.length := by simp [mv]
theorem mv_a {r : List Int} {a b : Nat} (h : MvOK r a b) : (mv r a b).getD a 0 = r.getD a 0 - 1 := by
  unfold mv
  rw [getD_set_ne (Ne.symm h.ne), getD_set_eq h.la]
theorem mv_b {r : List Int} {a b : Nat} (h : MvOK r a b) : (mv r a b).getD b 0 = r.getD b 0 + 1 := by
  unfold mv
  rw [getD_set_eq (by simpa using h.lb)]
theorem mv_ne {r : List Int} {a b j : Nat} (ha : a ≠ j) (hb : b ≠ j) : (mv r a b).getD j 0 = r.getD j 0 := by
  unfold mv
  rw [getD_set_ne hb, getD_set_ne ha]
theorem cnt_set {l : List Int} {i : Nat} {x : Int} (h : i < l.length) : (l.set i x).countP (0 < ·) + (if 0 < l.getD i 0 then 1 else 0) = l.countP (0 < ·) + (if 0 < x then 1 else 0) := by
  induction l generalizing i with
  | nil => simp at h
  | cons v l ih =>
    cases i with
    | zero =>
      simp only [List.set_cons_zero, List.countP_cons, List.getD_cons_zero, decide_eq_true_eq]
      (first | lia | omega)
    | succ i =>
      have := ih (i := i) (by simpa using h)
      simp only [List.set_cons_succ, List.countP_cons, List.getD_cons_succ]
      (first | lia | omega)
theorem mv_ok {n : Nat} {W : Int} {r : List Int} {a b : Nat} (h : RowOK n W r) (m : MvOK r a b) : RowOK n W (mv r a b) where
  nn := fun c hc => by
    have h1 := m.pa
    have h2 := m.pb
    unfold mv at hc
    rcases List.mem_or_eq_of_mem_set hc with hc | rfl
    · rcases List.mem_or_eq_of_mem_set hc with hc | rfl
      · exact h.nn c hc
      · (first | lia | omega)
    · (first | lia | omega)
  len := by rw [mv_len]; exact h.len
  sum := by
    unfold mv
    rw [sum_set _ _ _ (by simpa using m.lb), sum_set _ _ _ m.la, getD_set_ne m.ne, h.sum]
    (first | lia | omega)
  two := by
    have h1 := m.pa
    have h2 := m.pb
    have c1 := cnt_set (l := r) (i := a) (x := r.getD a 0 - 1) m.la
    have c2 := cnt_set (l := r.set a (r.getD a 0 - 1)) (i := b) (x := r.getD b 0 + 1) (by simpa using m.lb)
    rw [getD_set_ne m.ne, if_pos (by (first | assumption | exact Nat.le_trans (by assumption) (by decide) | exact Int.le_trans (by assumption) (by decide) | exact Nat.lt_of_lt_of_le (by assumption) (by assumption) | exact Nat.le_trans (by assumption) (by assumption) | exact Nat.lt_of_lt_of_le (by assumption) (by decide))), if_pos (by (first | lia | omega))] at c2
    rw [if_pos (by (first | assumption | exact Nat.le_trans (by assumption) (by decide) | exact Int.le_trans (by assumption) (by decide) | exact Nat.lt_of_lt_of_le (by assumption) (by assumption) | exact Nat.le_trans (by assumption) (by assumption) | exact Nat.lt_of_lt_of_le (by assumption) (by decide)))] at c1
    have ht := h.two
    have hm := m.more
    rw [up_count] at ht hm ⊢
    unfold mv
    rcases hm with hm | hm
    · rw [if_pos (by (first | lia | omega))] at c1; (first | lia | omega)
    · split at c1 <;> omega

structure Ch (cs : List Int) (R : List (List Int)) (M : List (Nat × Nat)) (k : Nat) : Prop where
  len : R.length = M.length + 1
  le : M.length ≤ k
  hd : R[0]? = some cs
  mvs : ∀ t a b, M[t]? = some (a, b) → ∃ r, R[t]? = some r ∧ R[t + 1]? = some (mv r a b) ∧ MvOK r a b
  ok : ∀ r ∈ R, RowOK cs.length cs.sum r
theorem Ch.up {cs : List Int} {R : List (List Int)} {M : List (Nat × Nat)} {k : Nat} (h : Ch cs R M k) : Ch cs R M (k + 1) := ⟨h.len, by have := h.le; (first | lia | omega), h.hd, h.mvs, h.ok⟩
theorem Ch.snoc {cs : List Int} {R : List (List Int)} {r : List Int} {M : List (Nat × Nat)} {k a b : Nat} (h : Ch cs (R ++ [r]) M k) (m : MvOK r a b) : Ch cs (R ++ [r] ++ [mv r a b]) (M ++ [(a, b)]) (k + 1) where
  len := by have := h.len; simp only [List.length_append, List.length_cons, List.length_nil] at this ⊢; (first | lia | omega)
  le := by have := h.le; simp only [List.length_append, List.length_cons, List.length_nil]; (first | lia | omega)
  hd := by rw [List.getElem?_append_left (by (first | rfl | simp))]; exact h.hd
  mvs := fun t c d ht => by
    have hl := h.len
    simp only [List.length_append, List.length_cons, List.length_nil] at hl
    by_cases c1 : t < M.length
    · rw [List.getElem?_append_left c1] at ht
      obtain ⟨q, e1, e2, e3⟩ := h.mvs t c d ht
      exact ⟨q, by rw [List.getElem?_append_left (by simp; (first | lia | omega))]; exact e1, by rw [List.getElem?_append_left (by simp; (first | lia | omega))]; exact e2, e3⟩
    · have ht2 := (List.getElem?_eq_some_iff.mp ht).1
      simp only [List.length_append, List.length_cons, List.length_nil] at ht2
      have et : t = M.length := by (first | lia | omega)
      subst et
      have hab : a = c ∧ b = d := by simpa using ht
      obtain ⟨rfl, rfl⟩ := hab
      refine ⟨r, ?_, ?_, m⟩
      · have e : M.length = R.length := by (first | lia | omega)
        rw [e]; simp
      · have e : M.length + 1 = (R ++ [r]).length := by simp; (first | lia | omega)
        rw [e, List.getElem?_append_right (Nat.le_refl _)]; simp
  ok := fun q hq => by
    rcases List.mem_append.mp hq with hq | hq
    · exact h.ok q hq
    · have : q = mv r a b := by simpa using hq
      rw [this]
      exact mv_ok (h.ok r (by (first | rfl | simp))) m
end Mine
end

section
set_option autoImplicit false
namespace Mine
open PySem

theorem us_pair {r : List Int} (hr : r.length ≤ 64) {i j : Nat} {p q : Int × Int} (hi : (us r)[i]? = some p) (hj : (us r)[j]? = some q) (hij : i < j) (h2 : 1 < p.1 ∨ 2 < (up r 0).length) : MvOK r p.2.toNat q.2.toNat := by
  obtain ⟨li, ei⟩ := List.getElem?_eq_some_iff.mp hi
  obtain ⟨lj, ej⟩ := List.getElem?_eq_some_iff.mp hj
  obtain ⟨a1, a2, a3, a4⟩ := us_mem (List.mem_of_getElem? hi)
  obtain ⟨b1, b2, b3, b4⟩ := us_mem (List.mem_of_getElem? hj)
  have hne := List.pairwise_iff_getElem.mp (us_ne r) i j li lj hij
  rw [ei, ej] at hne
  have hle := List.pairwise_iff_getElem.mp (uw_asc hr) i j (by simpa [uw] using li) (by simpa [uw] using lj) hij
  simp only [uw, List.getElem_map, ei, ej] at hle
  exact ⟨by (first | lia | omega), by (first | lia | omega), by (first | lia | omega), by (first | lia | omega), by (first | lia | omega), by (first | lia | omega), by rw [a4]; exact h2⟩

theorem movesD_len (M : List (Nat × Nat)) : (movesD M).length = M.length := by simp [movesD]
theorem rowsD_len (R : List (List Int)) : (rowsD R).length = R.length := by simp [rowsD]
theorem rowsD_snoc (R : List (List Int)) (r : List Int) : rowsD R ++ [.list (di r)] = rowsD (R ++ [r]) := by simp [rowsD]
theorem movesD_snoc (M : List (Nat × Nat)) (a b : Nat) : movesD M ++ [.list [.int a, .int b]] = movesD (M ++ [(a, b)]) := by simp [movesD]
structure MVI (cs : List Int) (k : Nat) (σ : St) : Prop where
  e : ∃ b R r M, σ 0 = .ow (di b) ∧ Bx b ∧ σ 2 = .ow (rowsD (R ++ [r])) ∧ σ 3 = .ow (movesD M) ∧ σ 102 = .no ∧ Ch cs (R ++ [r]) M k

/-- the move itself -/
theorem m_go {R : List (List Int)} {r : List Int} {M : List (Nat × Nat)} {a b : Nat} {σ : St} (hR : R.length ≤ 50) (hM : M.length ≤ 50) (hr : r.length ≤ 9) (m : MvOK r a b) (s2 : σ 2 = .ow (rowsD (R ++ [r]))) (s3 : σ 3 = .ow (movesD M)) (s8 : σ 8 = .sh (.int a)) (s9 : σ 9 = .sh (.int b)) (st : σ 102 = .no) :
    ∃ σ', mGo σ = some (.nxt, σ') ∧ σ' 0 = σ 0 ∧ σ' 2 = .ow (rowsD (R ++ [r] ++ [mv r a b])) ∧ σ' 3 = .ow (movesD (M ++ [(a, b)])) ∧ σ' 102 = .no := by
  have hl := last_row R r (by (first | assumption | exact Nat.le_trans (by assumption) (by decide) | exact Int.le_trans (by assumption) (by decide) | exact Nat.lt_of_lt_of_le (by assumption) (by assumption) | exact Nat.le_trans (by assumption) (by assumption) | exact Nat.lt_of_lt_of_le (by assumption) (by decide)))
  have hdl : (di r).length ≤ 1048576 := by rw [di_len]; (first | lia | omega)
  obtain ⟨x, nx, ex⟩ : ∃ x, nthD (.list (di r)) (.int (a : Nat)) = some (.int x) ∧ r.getD a 0 = x := ⟨_, nth_pos m.la (by (first | lia | omega)), rfl⟩
  obtain ⟨y, ny, ey⟩ : ∃ y, nthD (.list (di (r.set a (x - 1)))) (.int (b : Nat)) = some (.int y) ∧ r.getD b 0 = y := ⟨_, nth_pos (by simpa using m.lb) (by simp; (first | lia | omega)), by rw [getD_set_ne m.ne]⟩
  have hmv : mv r a b = (r.set a (x - 1)).set b (y + 1) := by unfold mv; rw [ex, ey]
  have la := m.la
  have lb := m.lb
  have e1 : mG1 σ = some (.nxt, upd (upd (upd σ 102 (.ow (di r))) 102 .no) 10 (.ow (di r))) := by
    unfold mG1 fCopy
    simp [s2, st, hl, hdl]
  generalize h1 : upd (upd (upd σ 102 (.ow (di r))) 102 .no) 10 (.ow (di r)) = σ1 at e1
  have a0 : σ1 0 = σ 0 := by first | exact (congrFun h1.symm _).trans rfl | (rw [← h1]; simp)
  have a2 : σ1 2 = .ow (rowsD (R ++ [r])) := by first | exact (congrFun h1.symm _).trans s2 | (rw [← h1]; simp [s2])
  have a3 : σ1 3 = .ow (movesD M) := by first | exact (congrFun h1.symm _).trans s3 | (rw [← h1]; simp [s3])
  have a8 : σ1 8 = .sh (.int a) := by first | exact (congrFun h1.symm _).trans s8 | (rw [← h1]; simp [s8])
  have a9 : σ1 9 = .sh (.int b) := by first | exact (congrFun h1.symm _).trans s9 | (rw [← h1]; simp [s9])
  have at' : σ1 102 = .no := by first | exact (congrFun h1.symm _).trans rfl | (rw [← h1]; simp)
  have a10 : σ1 10 = .ow (di r) := by first | exact (congrFun h1.symm _).trans rfl | (rw [← h1]; simp)
  have e2 : mG2 σ1 = some (.nxt, upd σ1 10 (.ow (di (r.set a (x - 1))))) := by
    unfold mG2
    simp only [y_at, e_bin, e_sub, e_own, e_var, e_int, a10, a8, Option.bind_some, nx, Option.map_some, oSub, e_own?]
    rw [if_pos ⟨by (first | lia | omega), by rw [di_len]; (first | lia | omega), hdl⟩, ← di_set]
    rfl
  generalize h2 : upd σ1 10 (.ow (di (r.set a (x - 1)))) = σ2 at e2
  have b0 : σ2 0 = σ 0 := by first | exact (congrFun h2.symm _).trans a0 | (rw [← h2]; simp [a0])
  have b2 : σ2 2 = .ow (rowsD (R ++ [r])) := by first | exact (congrFun h2.symm _).trans a2 | (rw [← h2]; simp [a2])
  have b3 : σ2 3 = .ow (movesD M) := by first | exact (congrFun h2.symm _).trans a3 | (rw [← h2]; simp [a3])
  have b8 : σ2 8 = .sh (.int a) := by first | exact (congrFun h2.symm _).trans a8 | (rw [← h2]; simp [a8])
  have b9 : σ2 9 = .sh (.int b) := by first | exact (congrFun h2.symm _).trans a9 | (rw [← h2]; simp [a9])
  have bt : σ2 102 = .no := by first | exact (congrFun h2.symm _).trans at' | (rw [← h2]; simp [at'])
  have b10 : σ2 10 = .ow (di (r.set a (x - 1))) := by first | exact (congrFun h2.symm _).trans rfl | (rw [← h2]; simp)
  have e3 : mG3 σ2 = some (.nxt, upd σ2 10 (.ow (di (mv r a b)))) := by
    unfold mG3
    simp only [y_at, e_bin, e_sub, e_own, e_var, e_int, b10, b9, Option.bind_some, ny, Option.map_some, oAdd, e_own?]
    rw [if_pos ⟨by (first | lia | omega), by rw [di_len]; simp; (first | assumption | exact Nat.le_trans (by assumption) (by decide) | exact Int.le_trans (by assumption) (by decide) | exact Nat.lt_of_lt_of_le (by assumption) (by assumption) | exact Nat.le_trans (by assumption) (by assumption) | exact Nat.lt_of_lt_of_le (by assumption) (by decide)), by rw [di_len]; simp; (first | lia | omega)⟩, hmv, ← di_set (r.set a (x - 1)) b (y + 1)]
    rfl
  refine ⟨upd (upd (upd (upd σ2 10 (.ow (di (mv r a b)))) 10 .no) 2 (.ow (rowsD (R ++ [r] ++ [mv r a b])))) 3 (.ow (movesD (M ++ [(a, b)]))), ?_, by (first | exact b0 | simp [b0]), by (first | rfl | simp), by (first | rfl | simp), by (first | exact bt | simp [bt])⟩
  unfold mGo
  rw [seq_eq e1]
  rw [seq_eq e2]
  rw [seq_eq e3]
  have z1 : (rowsD (R ++ [r])).length ≤ 1048576 := by rw [rowsD_len]; simp; (first | assumption | exact Nat.le_trans (by assumption) (by decide) | exact Int.le_trans (by assumption) (by decide) | exact Nat.lt_of_lt_of_le (by assumption) (by assumption) | exact Nat.le_trans (by assumption) (by assumption) | exact Nat.lt_of_lt_of_le (by assumption) (by decide))
  have z2 : (movesD M).length ≤ 1048576 := by rw [movesD_len]; (first | assumption | exact Nat.le_trans (by assumption) (by decide) | exact Int.le_trans (by assumption) (by decide) | exact Nat.lt_of_lt_of_le (by assumption) (by assumption) | exact Nat.le_trans (by assumption) (by assumption) | exact Nat.lt_of_lt_of_le (by assumption) (by decide))
  have e4 : mG4 (upd σ2 10 (.ow (di (mv r a b)))) = some (.nxt, upd (upd (upd σ2 10 (.ow (di (mv r a b)))) 10 .no) 2 (.ow (rowsD (R ++ [r] ++ [mv r a b])))) := by
    rw [← rowsD_snoc]
    unfold mG4
    simp [b2, z1]
  rw [seq_eq e4]
  rw [← movesD_snoc]
  unfold mG5
  simp [b3, b8, b9, z2]

theorem mvs_step {cs : List Int} (h9 : cs.length ≤ 9) {k : Nat} (hk : k ≤ 2) {σ : St} (h : MVI cs k σ) (i : Int) : ∃ σ', mBdy (upd σ 4 (.sh (.int i))) = some (.nxt, σ') ∧ MVI cs (k + 1) σ' := by
  obtain ⟨b, R, r, M, s0, hb, s2, s3, st, hc⟩ := h.e
  have hok := hc.ok r (by (first | rfl | simp))
  have hr : r.length ≤ 9 := by rw [hok.len]; exact h9
  have hl1 := hc.len
  have hl2 := hc.le
  simp only [List.length_append, List.length_cons, List.length_nil] at hl1
  have hl := last_row R r (by (first | lia | omega))
  have hm2 := hok.two
  have hm9 := up_len r 0
  have hul := us_len r
  have hso := sort2_pairs (up_fits r (by (first | lia | omega))) hm2 (by (first | lia | omega))
  have hso' : bSort2 (.list (dp (up r 0))) = some (.list (dp (us r))) := hso
  have lu : bLen (.list (dp (us r))) = some (.int (us r).length) := by
    have e : (dp (us r)).length = (us r).length := by simp [dp]
    simp only [bLen, e]; rw [if_pos (by (first | lia | omega))]
  generalize hσa : upd σ 4 (.sh (.int i)) = σa
  have a0 : σa 0 = .ow (di b) := by first | exact (congrFun hσa.symm _).trans s0 | (rw [← hσa]; simp [s0])
  have a2 : σa 2 = .ow (rowsD (R ++ [r])) := by first | exact (congrFun hσa.symm _).trans s2 | (rw [← hσa]; simp [s2])
  have a3 : σa 3 = .ow (movesD M) := by first | exact (congrFun hσa.symm _).trans s3 | (rw [← hσa]; simp [s3])
  have at' : σa 102 = .no := by first | exact (congrFun hσa.symm _).trans st | (rw [← hσa]; simp [st])
  have e5 : m5 σa = some (.nxt, upd σa 5 (.sh (.list (dp (us r))))) := by
    have en : iEnum (xSub (bOwn 2) (xNeg (xInt 1))) σa = some (enumD (di r), σa) := by
      unfold iEnum
      simp [a2, hl, list?]
    have ec : xComp (iEnum (xSub (bOwn 2) (xNeg (xInt 1)))) [] [0, 1] (xBin cGt (xVar 1) (xInt 0)) (xTup (xCons (xVar 1) (xCons (xVar 0) xNil))) σa = some (.list (dp (up r 0)), σa) := by
      unfold xComp
      rw [en]
      simp only [Option.bind_some]
      rw [if_pos (by rw [enum_len, di_len]; (first | assumption | exact Nat.le_trans (by assumption) (by decide) | exact Int.le_trans (by assumption) (by decide) | exact Nat.lt_of_lt_of_le (by assumption) (by assumption) | exact Nat.le_trans (by assumption) (by assumption) | exact Nat.lt_of_lt_of_le (by assumption) (by decide))), enum_comp]
      rfl
    unfold m5
    rw [y_set, e_b1, e_gen, ec]
    simp [hso']
  obtain ⟨lo, b1, t1, hb1, lo0, lo1⟩ := take_spec hb (m := (us r).length - 1) (by (first | lia | omega)) (by (first | lia | omega))
  obtain ⟨low, rfl⟩ : ∃ n : Nat, lo = n := ⟨lo.toNat, by (first | lia | omega)⟩
  have e6 : m6 (upd σa 5 (.sh (.list (dp (us r))))) = some (.nxt, upd (upd (upd σa 5 (.sh (.list (dp (us r))))) 0 (.ow (di b1))) 6 (.sh (.int low))) := by
    unfold m6
    simp [a0, lu, oSub, t1]
  obtain ⟨hi, b2, t2, hb2, hi0, hi1⟩ := take_spec hb1 (m := (us r).length - 1 - low) (by (first | lia | omega)) (by (first | lia | omega))
  obtain ⟨high, hhigh⟩ : ∃ n : Nat, (low : Int) + 1 + hi = n := ⟨((low : Int) + 1 + hi).toNat, by (first | lia | omega)⟩
  have e7 : m7 (upd (upd (upd σa 5 (.sh (.list (dp (us r))))) 0 (.ow (di b1))) 6 (.sh (.int low))) = some (.nxt, upd (upd (upd (upd (upd σa 5 (.sh (.list (dp (us r))))) 0 (.ow (di b1))) 6 (.sh (.int low))) 0 (.ow (di b2))) 7 (.sh (.int high))) := by
    have t3 : oAdd (.int ((low : Int) + 1)) (.int hi) = some (.int high) := by simp only [oAdd, hhigh]
    have t4 : oAdd (.int (low : Int)) (.int 1) = some (.int ((low : Int) + 1)) := rfl
    unfold m7
    simp [lu, oSub, t2, t3, t4]
  generalize hσb : upd (upd (upd (upd (upd σa 5 (.sh (.list (dp (us r))))) 0 (.ow (di b1))) 6 (.sh (.int low))) 0 (.ow (di b2))) 7 (.sh (.int high)) = σb at e7
  have c0 : σb 0 = .ow (di b2) := by first | exact (congrFun hσb.symm _).trans rfl | (rw [← hσb]; simp)
  have c2 : σb 2 = .ow (rowsD (R ++ [r])) := by first | exact (congrFun hσb.symm _).trans a2 | (rw [← hσb]; simp [a2])
  have c3 : σb 3 = .ow (movesD M) := by first | exact (congrFun hσb.symm _).trans a3 | (rw [← hσb]; simp [a3])
  have ct : σb 102 = .no := by first | exact (congrFun hσb.symm _).trans at' | (rw [← hσb]; simp [at'])
  have c5 : σb 5 = .sh (.list (dp (us r))) := by first | exact (congrFun hσb.symm _).trans rfl | (rw [← hσb]; simp)
  have c6 : σb 6 = .sh (.int low) := by first | exact (congrFun hσb.symm _).trans rfl | (rw [← hσb]; simp)
  have c7 : σb 7 = .sh (.int high) := by first | exact (congrFun hσb.symm _).trans rfl | (rw [← hσb]; simp)
  obtain ⟨p, hp⟩ : ∃ p, (us r)[low]? = some p := ⟨_, List.getElem?_eq_getElem (by (first | lia | omega) : low < (us r).length)⟩
  obtain ⟨q, hq⟩ : ∃ q, (us r)[high]? = some q := ⟨_, List.getElem?_eq_getElem (by (first | lia | omega) : high < (us r).length)⟩
  have n1 := dp_nth hp (by (first | lia | omega))
  have n2 := dp_nth hq (by (first | lia | omega))
  have hp2 := (us_mem (List.mem_of_getElem? hp)).1
  have hq2 := (us_mem (List.mem_of_getElem? hq)).1
  obtain ⟨A, hA⟩ : ∃ n : Nat, p.2 = n := ⟨p.2.toNat, by (first | lia | omega)⟩
  obtain ⟨B, hB⟩ : ∃ n : Nat, q.2 = n := ⟨q.2.toNat, by (first | lia | omega)⟩
  have e8 : m8 σb = some (.nxt, upd (upd σb 9 (.sh (.int B))) 8 (.sh (.int A))) := by
    unfold m8
    rw [hA] at n1
    rw [hB] at n2
    simp [c5, c6, c7, n1, n2, tup_nth1]
  generalize hσc : upd (upd σb 9 (.sh (.int B))) 8 (.sh (.int A)) = σc at e8
  have d0 : σc 0 = .ow (di b2) := by first | exact (congrFun hσc.symm _).trans c0 | (rw [← hσc]; simp [c0])
  have d2 : σc 2 = .ow (rowsD (R ++ [r])) := by first | exact (congrFun hσc.symm _).trans c2 | (rw [← hσc]; simp [c2])
  have d3 : σc 3 = .ow (movesD M) := by first | exact (congrFun hσc.symm _).trans c3 | (rw [← hσc]; simp [c3])
  have dt : σc 102 = .no := by first | exact (congrFun hσc.symm _).trans ct | (rw [← hσc]; simp [ct])
  have d5 : σc 5 = .sh (.list (dp (us r))) := by first | exact (congrFun hσc.symm _).trans c5 | (rw [← hσc]; simp [c5])
  have d6 : σc 6 = .sh (.int low) := by first | exact (congrFun hσc.symm _).trans c6 | (rw [← hσc]; simp [c6])
  have d8 : σc 8 = .sh (.int A) := by first | exact (congrFun hσc.symm _).trans rfl | (rw [← hσc]; simp)
  have d9 : σc 9 = .sh (.int B) := by first | exact (congrFun hσc.symm _).trans rfl | (rw [← hσc]; simp)
  have hte : mTe σc = some (.bool (decide (1 < p.1 ∨ 2 < (us r).length)), σc) := by
    unfold mTe
    by_cases g1 : 1 < p.1
    · have k1 : cGt (.int p.1) (.int 1) = some (.bool true) := by simp only [cGt]; rw [decide_eq_true g1]
      rw [decide_eq_true (.inl g1)]
      simp [d5, d6, n1, tup_nth0, k1]
    · have k1 : cGt (.int p.1) (.int 1) = some (.bool false) := by simp only [cGt]; rw [decide_eq_false g1]
      have k2 : cGt (.int (us r).length) (.int 2) = some (.bool (decide (1 < p.1 ∨ 2 < (us r).length))) := by
        simp only [cGt]
        congr 2
        exact decide_eq_decide.mpr ⟨fun h => .inr (by (first | lia | omega)), fun h => by rcases h with h | h <;> (first | lia | omega)⟩
      simp [d5, d6, n1, tup_nth0, k1, lu, k2]
  unfold mBdy
  rw [seq_eq e5]
  rw [seq_eq e6]
  rw [seq_eq e7]
  rw [seq_eq e8]
  rw [y_seq, y_if, hte]
  simp only [Option.bind_some]
  by_cases g : 1 < p.1 ∨ 2 < (us r).length
  · rw [decide_eq_true g]
    have m : MvOK r A B := by
      have := us_pair (by (first | lia | omega)) hp hq (by (first | lia | omega)) (by rw [← hul]; exact g)
      rwa [hA, hB] at this
    obtain ⟨σd, e9, f0, f2, f3, ft⟩ := m_go (by (first | lia | omega)) (by (first | lia | omega)) hr m d2 d3 d8 d9 dt
    refine ⟨σd, ?_, ⟨b2, R ++ [r], mv r A B, M ++ [(A, B)], by rw [f0]; exact d0, hb2, f2, f3, ft, hc.snoc m⟩⟩
    simp only [e9, Option.bind_some, y_nil]
  · rw [decide_eq_false g]
    refine ⟨σc, ?_, ⟨b2, R, r, M, d0, hb2, d2, d3, dt, hc.up⟩⟩
    simp only [y_nil, Option.bind_some]

theorem moves_spec {b cs : List Int} (hb : Bx b) (h2 : 2 ≤ cs.length) (h9 : cs.length ≤ 9) (h1 : ∀ c ∈ cs, 1 ≤ c) : ∃ R M b', g_law_moves b [.list (di cs)] = some (.tup [.list (rowsD R), .list (movesD M)], b') ∧ Bx b' ∧ Ch cs R M 2 := by
  have near0 : near 0 := by decide
  obtain ⟨t, b1, t1, hb1, lo0, lo1⟩ := take_spec hb (m := 2) (by (first | lia | omega)) (by (first | lia | omega))
  have neart : near (1 + t) := ⟨by (first | lia | omega), by (first | lia | omega)⟩
  have hup : cs.countP (0 < ·) = cs.length := List.countP_eq_length.mpr fun c hc => by simpa using (by have := h1 c hc; (first | assumption | exact Nat.le_trans (by assumption) (by decide) | exact Int.le_trans (by assumption) (by decide) | exact Nat.lt_of_lt_of_le (by assumption) (by assumption) | exact Nat.le_trans (by assumption) (by assumption) | exact Nat.lt_of_lt_of_le (by assumption) (by decide)) : 0 < c)
  have hCh : Ch cs ([] ++ [cs]) [] 0 := ⟨rfl, Nat.le_refl _, rfl, fun t a b h => (by simp at h), fun r hr => by
    have : r = cs := by simpa using hr
    rw [this]
    exact ⟨fun c hc => by have := h1 c hc; (first | lia | omega), rfl, rfl, by rw [up_count, hup]; exact h2⟩⟩
  have e1 : mHd (initB b [.list (di cs)]) = some (.nxt, upd (upd (upd (upd (upd (upd (initB b [.list (di cs)]) 100 (.ow [.list (di cs)])) 101 (.ow [])) 101 .no) 3 (.ow [])) 100 .no) 2 (.ow [.list (di cs)])) := by
    unfold mHd
    simp
  generalize hσ : upd (upd (upd (upd (upd (upd (initB b [.list (di cs)]) 100 (.ow [.list (di cs)])) 101 (.ow [])) 101 .no) 3 (.ow [])) 100 .no) 2 (.ow [.list (di cs)]) = σ0 at e1
  have s0 : σ0 0 = .ow (di b) := by first | exact (congrFun hσ.symm _).trans rfl | (rw [← hσ]; simp)
  have s2 : σ0 2 = .ow [.list (di cs)] := by first | exact (congrFun hσ.symm _).trans rfl | (rw [← hσ]; simp)
  have s3 : σ0 3 = .ow [] := by first | exact (congrFun hσ.symm _).trans rfl | (rw [← hσ]; simp)
  have st : σ0 102 = .no := by first | exact (congrFun hσ.symm _).trans rfl | (rw [← hσ]; simp)
  have ir : iRng (xB1 bRng1 (bGen (xBin oAdd (xInt 1) (xCallB 0 g_law_take (xCons (xInt 2) xNil))))) σ0 = some (one (di (rngI 0 (1 + t) 1)), upd σ0 0 (.ow (di b1))) := by
    unfold iRng
    simp [s0, t1, oAdd, bRng1, near0, neart]
  obtain ⟨σ1, e2, i2⟩ := for_loop (tgi := [4]) (rows := one (di (rngI 0 (1 + t) 1))) (Bd := mBdy) (MVI cs) (fun k row τ hr hI => by
    obtain ⟨x, hx, rfl⟩ := one_get hr
    obtain ⟨i, hi, rfl⟩ := di_get hx
    obtain ⟨rfl, hk⟩ := rng1_get hi
    obtain ⟨σ', e1, e2⟩ := mvs_step h9 (by (first | lia | omega)) hI (k : Int)
    exact ⟨_, σ', rfl, e1, e2⟩) (σ := upd σ0 0 (.ow (di b1))) ⟨b1, [], cs, [], by (first | rfl | simp), hb1, by simp [s2, rowsD], by simp [s3, movesD], by (first | exact st | simp [st]), hCh⟩
  rw [one_len, di_len, rng1_len (by (first | lia | omega))] at i2
  obtain ⟨b2, R, r, M, f0, hb2, f2, f3, ft, hc⟩ := i2.e
  refine ⟨R ++ [r], M, b2, ?_, hb2, ⟨hc.len, by have := hc.le; (first | lia | omega), hc.hd, hc.mvs, hc.ok⟩⟩
  simp only [g_law_moves, gOfB, List.length_singleton, if_true, f_moves_eq]
  rw [seq_eq e1]
  rw [seq_for ir e2]
  simp [f0, f2, f3, resD]
end Mine
end

section
set_option autoImplicit false
namespace Mine
open PySem

/-! ### every code is no better than one of few -/
noncomputable abbrev Dsc (l : List Nat) : Prop := l.Pairwise (fun x y => y ≤ x)
theorem pull_sum (l : List Nat) : ∀ c, (pull c l).1 + (pull c l).2.sum = c + l.sum := by
  induction l with
  | nil => intro c; rfl
  | cons y l ih =>
    intro c
    have := ih (max c y)
    simp only [pull, List.sum_cons]
    (first | lia | omega)
structure Sc (U : List Int) (l l' : List Nat) : Prop where
  len : l'.length = U.length
  dsc : Dsc l'
  kr : kr l' = kr l
  sum : l'.sum = l.sum
  bd : ∀ B, (∀ x ∈ l, x ≤ B) → ∀ x ∈ l', x ≤ B
  dot : dot U l' ≤ dot U l
theorem sort_code : ∀ (U : List Int), Asc U → ∀ l : List Nat, l.length = U.length → ∃ l', Sc U l l'
  | [], _, l, hl => by
    have : l = [] := by simpa using hl
    subst this
    exact ⟨[], rfl, .nil, rfl, rfl, fun _ h => h, Int.le_refl _⟩
  | v :: U, hU, [], hl => by simp at hl
  | v :: U, hU, x :: l, hl => by
    obtain ⟨h1, h2⟩ := List.pairwise_cons.mp hU
    have hl' : l.length = U.length := by simpa using hl
    have q1 := pull_len l x
    have q2 := pull_kr l x
    have q3 := pull_le l x
    have q4 := pull_sum l x
    have q5 := pull_dot l U x h1 hl'.symm
    have q6 := fun B hx hl => pull_bd (B := B) l x hx hl
    generalize pull x l = p at *
    obtain ⟨m, t⟩ := p
    dsimp only at q1 q2 q3 q4 q5 q6
    obtain ⟨l', s⟩ := sort_code U h2 t (by (first | lia | omega))
    refine ⟨m :: l', by simp [s.len], List.pairwise_cons.mpr ⟨fun y hy => s.bd m q3.2 y hy, s.dsc⟩, ?_, ?_, fun B hB y hy => ?_, ?_⟩
    · simp only [Mine.kr, s.kr]; exact q2
    · simp only [List.sum_cons, s.sum]; exact q4
    · obtain ⟨b1, b2⟩ := q6 B (hB x List.mem_cons_self) fun z hz => hB z (List.mem_cons_of_mem _ hz)
      rcases List.mem_cons.mp hy with rfl | hy
      · exact b1
      · exact s.bd B b2 y hy
    · have := s.dot
      simp only [Mine.dot]
      (first | lia | omega)
theorem kr_div' {m : Nat} (hm : m ≤ 8) (l : List Nat) (h : ∀ x ∈ l, x ≤ m) : ∃ t, kr l = 2 ^ (8 - m) * t := by
  induction l with
  | nil => exact ⟨0, rfl⟩
  | cons x l ih =>
    obtain ⟨t, ht⟩ := ih fun y hy => h y (List.mem_cons_of_mem _ hy)
    have hx := h x List.mem_cons_self
    refine ⟨2 ^ (m - x) + t, ?_⟩
    have e : 2 ^ (8 - x) = 2 ^ (8 - m) * 2 ^ (m - x) := by
      rw [← Nat.pow_add]; congr 1; (first | lia | omega)
    simp only [kr]
    rw [ht, e, Nat.mul_add]
theorem fill_top {m : Nat} {l : List Nat} (hm : m ≤ 8) (h1 : 1 ≤ m) (h : ∀ x ∈ l, x ≤ m) (hk : kr (m :: l) < 256) : kr ((m - 1) :: l) ≤ 256 := by
  obtain ⟨t, ht⟩ := kr_div' hm l h
  simp only [kr] at hk ⊢
  rw [ht] at hk ⊢
  have e1 : (256 : Nat) = 2 ^ (8 - m) * 2 ^ m := by
    rw [← Nat.pow_add]
    have : 8 - m + m = 8 := by (first | lia | omega)
    rw [this]
  have e2 : 2 ^ (8 - (m - 1)) = 2 * 2 ^ (8 - m) := by
    rw [Nat.mul_comm 2, ← Nat.pow_succ]; congr 1; (first | lia | omega)
  rw [e2]
  generalize 2 ^ (8 - m) = q at *
  generalize 2 ^ m = r at *
  have h3 : 1 + t < r := by
    by_cases c : 1 + t < r
    · exact c
    · have : q * r ≤ q * (1 + t) := Nat.mul_le_mul_left _ (by (first | lia | omega))
      rw [Nat.mul_add, Nat.mul_one] at this
      (first | lia | omega)
  have : q * (1 + t + 1) ≤ q * r := Nat.mul_le_mul_left _ h3
  rw [Nat.mul_add, Nat.mul_add, Nat.mul_one] at this
  (first | lia | omega)
theorem dot_mono {U : List Int} (h : ∀ v ∈ U, 0 ≤ v) {x y : Nat} (hxy : x ≤ y) (v : Int) (hv : 0 ≤ v) (l : List Nat) : dot (v :: U) (x :: l) ≤ dot (v :: U) (y :: l) := by
  simp only [dot]
  have : v * (x : Int) ≤ v * (y : Int) := Int.mul_le_mul_of_nonneg_left (by (first | lia | omega)) hv
  (first | lia | omega)
structure Ex1 (U : List Int) (l l' : List Nat) : Prop where
  len : l'.length = U.length
  dsc : Dsc l'
  kr : kr l' = 256
  bd : ∀ B, (∀ x ∈ l, x ≤ B) → ∀ x ∈ l', x ≤ B
  dot : dot U l' ≤ dot U l
theorem exact_code {U : List Int} (hU : Asc U) (h0 : ∀ v ∈ U, 0 ≤ v) (h1 : 1 ≤ U.length) : ∀ N (l : List Nat), l.sum ≤ N → l.length = U.length → (∀ x ∈ l, x ≤ 8) → kr l ≤ 256 → ∃ l', Ex1 U l l' := by
  intro N
  induction N with
  | zero =>
    intro l hs hl h8 hk
    obtain ⟨l', s⟩ := sort_code U hU l hl
    by_cases c : kr l' = 256
    · exact ⟨l', s.len, s.dsc, c, s.bd, s.dot⟩
    · exfalso
      match l', s with
      | [], s => have := s.len; simp at this; (first | lia | omega)
      | m :: t, s =>
        have hs2 := s.sum
        simp only [List.sum_cons] at hs2
        have hm : m = 0 := by (first | lia | omega)
        subst hm
        have := s.kr
        simp only [kr] at this c
        (first | lia | omega)
  | succ N ih =>
    intro l hs hl h8 hk
    obtain ⟨l', s⟩ := sort_code U hU l hl
    by_cases c : kr l' = 256
    · exact ⟨l', s.len, s.dsc, c, s.bd, s.dot⟩
    · match l', s, c with
      | [], s, _ => have := s.len; simp at this; (first | lia | omega)
      | m :: t, s, c =>
        have hkk := s.kr
        have hm1 : 1 ≤ m := by
          by_cases z : m = 0
          · subst z
            simp only [kr] at hkk c
            (first | lia | omega)
          · (first | lia | omega)
        have hm8 := s.bd 8 h8 m List.mem_cons_self
        have hd := (List.pairwise_cons.mp s.dsc).1
        have hf := fill_top hm8 hm1 hd (by (first | lia | omega))
        have hs2 := s.sum
        simp only [List.sum_cons] at hs2
        match U, s, hU, h0, h1 with
        | v :: U, s, hU, h0, h1 =>
          obtain ⟨l3, e⟩ := ih ((m - 1) :: t) (by simp only [List.sum_cons]; (first | lia | omega)) (by simpa using s.len) (fun x hx => by
            rcases List.mem_cons.mp hx with rfl | hx
            · (first | lia | omega)
            · exact s.bd 8 h8 x (List.mem_cons_of_mem _ hx)) hf
          refine ⟨l3, e.len, e.dsc, e.kr, fun B hB => e.bd B fun x hx => ?_, ?_⟩
          · rcases List.mem_cons.mp hx with rfl | hx
            · have := s.bd B hB m List.mem_cons_self
              (first | lia | omega)
            · exact s.bd B hB x (List.mem_cons_of_mem _ hx)
          · exact Int.le_trans e.dot (Int.le_trans (dot_mono (fun w hw => h0 w (List.mem_cons_of_mem _ hw)) (by (first | lia | omega)) v (h0 v List.mem_cons_self) t) s.dot)
        | [], s, _, _, h1 => simp at h1

/-! the few -/
noncomputable def en : Nat → Nat → Nat → List (List Nat)
  | 0, rem, _ => if rem = 0 then [[]] else []
  | k + 1, rem, hi => ((List.range (hi + 1)).filter fun x => decide ((k + 1) * 2 ^ (8 - x) ≤ rem)).flatMap fun x => (en k (rem - 2 ^ (8 - x)) x).map (x :: ·)
theorem kr_ge {x : Nat} : ∀ (l : List Nat), (∀ y ∈ l, y ≤ x) → l.length * 2 ^ (8 - x) ≤ kr l
  | [], _ => by simp
  | y :: l, h => by
    have ih := kr_ge l fun z hz => h z (List.mem_cons_of_mem _ hz)
    have hy := h y List.mem_cons_self
    have : 2 ^ (8 - x) ≤ 2 ^ (8 - y) := Nat.pow_le_pow_right (by decide) (by (first | lia | omega))
    simp only [kr, List.length_cons, Nat.add_mul, Nat.one_mul]
    (first | lia | omega)
theorem en_all : ∀ (k rem hi : Nat) (l : List Nat), l.length = k → Dsc l → (∀ x ∈ l, x ≤ hi) → kr l = rem → l ∈ en k rem hi
  | 0, rem, hi, l, hl, _, _, hk => by
    have : l = [] := by simpa using hl
    subst this
    have : rem = 0 := hk.symm
    simp [en, this]
  | k + 1, rem, hi, [], hl, _, _, _ => by simp at hl
  | k + 1, rem, hi, x :: t, hl, hd, hx, hk => by
    obtain ⟨h1, h2⟩ := List.pairwise_cons.mp hd
    have hl' : t.length = k := by simpa using hl
    have hg := kr_ge (x := x) (x :: t) fun y hy => by
      rcases List.mem_cons.mp hy with rfl | hy
      · exact Nat.le_refl _
      · exact h1 y hy
    rw [hl, hk] at hg
    simp only [kr] at hk
    have ih := en_all k (rem - 2 ^ (8 - x)) x t hl' h2 h1 (by (first | lia | omega))
    have := hx x List.mem_cons_self
    simp only [en, List.mem_flatMap, List.mem_filter, List.mem_range, List.mem_map, decide_eq_true_eq]
    exact ⟨x, ⟨by (first | lia | omega), hg⟩, t, ih, rfl⟩
noncomputable def codes (m : Nat) : List (List Nat) := en m 256 8
theorem low_code {U : List Int} (hU : Asc U) (h0 : ∀ v ∈ U, 0 ≤ v) (h1 : 1 ≤ U.length) {l : List Nat} (hl : l.length = U.length) {L : Nat} (hL : L ≤ 8) (hv : Va L l) : ∃ l', l' ∈ codes U.length ∧ l'.length = U.length ∧ Dsc l' ∧ Va L l' ∧ dot U l' ≤ dot U l := by
  obtain ⟨l', e⟩ := exact_code hU h0 h1 l.sum l (Nat.le_refl _) hl (fun x hx => by have := hv.le x hx; (first | lia | omega)) hv.k
  refine ⟨l', en_all _ _ _ l' e.len e.dsc (e.bd 8 fun x hx => by have := hv.le x hx; (first | lia | omega)) e.kr, e.len, e.dsc, ⟨e.bd L hv.le, by rw [e.kr]; exact Nat.le_refl _⟩, e.dot⟩
end Mine
end

section
set_option autoImplicit false
namespace Mine
open PySem

/-! ### linear forms of ascending rows -/
noncomputable def lin : List Int → List Int → Int
  | c :: cs, u :: U => c * u + lin cs U
  | _, _ => 0
noncomputable def li (l : List Nat) : List Int := l.map fun n : Nat => (n : Int)
noncomputable def zk (k : Int) (a b : List Int) : List Int := List.zipWith (fun x y => x + k * y) a b
theorem lin_dot : ∀ (l : List Nat) (U : List Int), lin (li l) U = dot U l
  | [], U => by cases U <;> rfl
  | x :: l, [] => rfl
  | x :: l, u :: U => by
    show (x : Int) * u + lin (li l) U = u * (x : Int) + dot U l
    rw [lin_dot l U, Int.mul_comm]
theorem lin_zk (k : Int) : ∀ (a b U : List Int), a.length = b.length → lin (zk k a b) U = lin a U + k * lin b U
  | [], [], U, _ => by cases U <;> simp [zk, lin]
  | [], _ :: _, _, h => by cases h
  | _ :: _, [], _, h => by cases h
  | x :: a, y :: b, [], _ => by simp [zk, lin]
  | x :: a, y :: b, u :: U, h => by
    have ih := lin_zk k a b U (Nat.succ.inj h)
    show (x + k * y) * u + lin (zk k a b) U = (x * u + lin a U) + k * (y * u + lin b U)
    rw [ih, Int.add_mul, Int.mul_add, Int.mul_assoc]
    (first | lia | omega)
noncomputable def e01 (m : Nat) : List Int := 1 :: 1 :: List.replicate (m - 2) 0
noncomputable def el (m : Nat) : List Int := List.replicate (m - 1) 0 ++ [1]
theorem lin_zero : ∀ (k : Nat) (U : List Int), lin (List.replicate k 0) U = 0
  | 0, U => by cases U <;> rfl
  | k + 1, [] => rfl
  | k + 1, u :: U => by
    show 0 * u + lin (List.replicate k 0) U = 0
    rw [lin_zero k U, Int.zero_mul]; rfl
theorem lin_e01 {U : List Int} {a0 a1 : Int} (h0 : U[0]? = some a0) (h1 : U[1]? = some a1) (m : Nat) : lin (e01 m) U = a0 + a1 := by
  match U, h0, h1 with
  | u :: v :: U, h0, h1 =>
    cases h0; cases h1
    show 1 * a0 + (1 * a1 + lin (List.replicate (m - 2) 0) U) = _
    rw [lin_zero, Int.one_mul, Int.one_mul, Int.add_zero]
theorem lin_last : ∀ (k : Nat) (U : List Int) (a : Int), U[k]? = some a → lin (List.replicate k 0 ++ [1]) U = a
  | 0, u :: U, a, h => by
    cases h
    show 1 * u + lin [] U = u
    rw [Int.one_mul]
    exact Int.add_zero u
  | k + 1, u :: U, a, h => by
    show 0 * u + lin (List.replicate k 0 ++ [1]) U = a
    rw [lin_last k U a h, Int.zero_mul, Int.zero_add]
  | 0, [], a, h => by cases h
  | k + 1, [], a, h => by cases h
/-- all sums from a place on to the end are no less than nothing -/
noncomputable def suf : List Int → Bool
  | [] => true
  | c :: cs => decide (0 ≤ (c :: cs).sum) && suf cs
theorem lin_suf : ∀ (c U : List Int) (z : Int), c.length = U.length → Asc U → (∀ v ∈ U, z ≤ v) → suf c = true → c.sum * z ≤ lin c U
  | [], [], z, _, _, _, _ => by simp [lin]
  | [], _ :: _, _, h, _, _, _ => by cases h
  | _ :: _, [], _, h, _, _, _ => by cases h
  | c :: cs, u :: U, z, h, hU, hz, hs => by
    obtain ⟨s1, s2⟩ := Bool.and_eq_true_iff.mp hs
    obtain ⟨h1, h2⟩ := List.pairwise_cons.mp hU
    have ih := lin_suf cs U u (Nat.succ.inj h) h2 h1 s2
    have h3 : (c :: cs).sum * z ≤ (c :: cs).sum * u := Int.mul_le_mul_of_nonneg_left (hz u List.mem_cons_self) (of_decide_eq_true s1)
    refine Int.le_trans h3 ?_
    show (c + cs.sum) * u ≤ c * u + lin cs U
    rw [Int.add_mul]
    exact Int.add_le_add_left ih _
/-- the code of two neighbouring lengths -/
noncomputable def nr (m : Nat) : List Nat := List.replicate (2 * (m - 2 ^ shortN m)) (shortN m + 1) ++ List.replicate (m - 2 * (m - 2 ^ shortN m)) (shortN m)
/-- one shorter for the greatest, two longer for the least -/
noncomputable def nr2 (m : Nat) : List Nat := [shortN m + 1, shortN m + 1] ++ List.replicate (m - 3) (shortN m) ++ [shortN m - 1]
theorem dot_rep (x : Nat) : ∀ (k j : Nat) (U : List Int), U.length = k + j → dot U (List.replicate k (x + 1) ++ List.replicate j x) = U.sum * (x : Int) + (U.take k).sum
  | 0, 0, [], _ => by simp [dot]
  | 0, j + 1, u :: U, h => by
    have ih := dot_rep x 0 j U (by simpa using h)
    simp only [List.replicate_zero, List.nil_append, List.take_zero, List.sum_nil, Int.add_zero] at ih
    show u * (x : Int) + dot U (List.replicate j x) = (u + U.sum) * (x : Int) + 0
    rw [ih, Int.add_mul, Int.add_zero]
  | k + 1, j, u :: U, h => by
    have ih := dot_rep x k j U (by simp at h; (first | lia | omega))
    show u * ((x + 1 : Nat) : Int) + dot U (List.replicate k (x + 1) ++ List.replicate j x) = (u + U.sum) * (x : Int) + (u + (U.take k).sum)
    rw [ih, Int.add_mul]
    push_cast
    rw [Int.mul_add]
    (first | lia | omega)
  | 0, j + 1, [], h => by simp at h
  | k + 1, j, [], h => by simp at h; (first | lia | omega)
noncomputable def coef (m : Nat) (l : List Nat) (k : Nat) : List Int := zk k (zk (-(k : Int)) (zk (-1) (li l) (li (nr m))) (e01 m)) (el m)
noncomputable def okC (m : Nat) (l : List Nat) : Bool := decide (l.length = m) && (List.range 9).any fun k => suf (coef m l k)
theorem okC_all : ∀ m ∈ [2, 3, 4, 5, 6, 7, 8, 9], (codes m).all (okC m) = true := by decide +kernel
theorem nr_ok : ∀ m, 2 ≤ m → m ≤ 9 → (nr m).length = m ∧ kr (nr m) ≤ 256 ∧ ∀ x ∈ nr m, x ≤ shortN m ∨ (x = shortN m + 1 ∧ 2 ^ shortN m < m) := by
  have : ∀ m ∈ [2, 3, 4, 5, 6, 7, 8, 9], (nr m).length = m ∧ kr (nr m) ≤ 256 ∧ ∀ x ∈ nr m, x ≤ shortN m ∨ (x = shortN m + 1 ∧ 2 ^ shortN m < m) := by decide +kernel
  intro m h2 h9
  exact this m (by simp; (first | lia | omega))
theorem near_dot {U : List Int} (hU : Asc U) (h2 : 2 ≤ U.length) (h9 : U.length ≤ 9) : nearV U = dot U (nr U.length) := by
  have e : isort U = U := (isort_eq (.refl _) hU).symm
  have hl := (nr_ok _ h2 h9).1
  unfold nr at hl ⊢
  rw [dot_rep _ _ _ _ (by rw [List.length_append, List.length_replicate, List.length_replicate] at hl; exact hl.symm)]
  unfold nearV
  rw [e]
theorem far_dot {U : List Int} (hU : Asc U) (h0 : ∀ v ∈ U, 0 ≤ v) (h2 : 2 ≤ U.length) (h9 : U.length ≤ 9) {a0 a1 al : Int} (u0 : U[0]? = some a0) (u1 : U[1]? = some a1) (ul : U[U.length - 1]? = some al) (h : al ≤ a0 + a1) {l : List Nat} (hl : l ∈ codes U.length) : dot U (nr U.length) ≤ dot U l := by
  have hk := List.all_eq_true.mp (okC_all U.length (by simp; (first | lia | omega))) l hl
  obtain ⟨hlen, hk⟩ := Bool.and_eq_true_iff.mp hk
  replace hlen := of_decide_eq_true hlen
  obtain ⟨k, _, hs⟩ := List.any_eq_true.mp hk
  have hn := (nr_ok _ h2 h9).1
  have l1 : (zk (-1) (li l) (li (nr U.length))).length = U.length := by simp [zk, li, hlen, hn]
  have l2 : (e01 U.length).length = U.length := by simp [e01]; (first | lia | omega)
  have l3 : (zk (-(k : Int)) (zk (-1) (li l) (li (nr U.length))) (e01 U.length)).length = U.length := by simp [zk, li, hlen, hn, l2]
  have l4 : (el U.length).length = U.length := by simp [el]; (first | lia | omega)
  have := lin_suf (coef U.length l k) U 0 (by simp only [coef]; rw [zk, List.length_zipWith, l3, l4, Nat.min_self]) hU h0 hs
  rw [Int.mul_zero, coef, lin_zk _ _ _ _ (l3.trans l4.symm), lin_zk _ _ _ _ (l1.trans l2.symm), lin_zk _ _ _ _ (by simp [li, hlen, hn]), lin_dot, lin_dot, lin_e01 u0 u1, el, lin_last _ _ _ ul] at this
  have hm : (k : Int) * al ≤ (k : Int) * (a0 + a1) := Int.mul_le_mul_of_nonneg_left h (Int.natCast_nonneg k)
  rw [Int.neg_mul] at this
  (first | lia | omega)
theorem nr2_ok : ∀ m, m = 4 ∨ m = 8 → ((nr2 m).length = m ∧ kr (nr2 m) ≤ 256 ∧ ∀ x ∈ nr2 m, x ≤ shortN m + 1) ∧ li (nr2 m) = zk (-1) (zk 1 (li (nr m)) (e01 m)) (el m) ∧ (li (nr m)).length = (e01 m).length ∧ (zk 1 (li (nr m)) (e01 m)).length = (el m).length := by
  intro m hm
  rcases hm with rfl | rfl <;> decide
theorem nr2_lt {U : List Int} (h48 : U.length = 4 ∨ U.length = 8) {a0 a1 al : Int} (u0 : U[0]? = some a0) (u1 : U[1]? = some a1) (ul : U[U.length - 1]? = some al) (h : ¬ al ≤ a0 + a1) : dot U (nr2 U.length) < dot U (nr U.length) := by
  obtain ⟨_, e, g1, g2⟩ := nr2_ok _ h48
  rw [← lin_dot, e, lin_zk _ _ _ _ g2, lin_zk _ _ _ _ g1, lin_dot, lin_e01 u0 u1, el, lin_last _ _ _ ul]
  (first | lia | omega)
end Mine
end

section
set_option autoImplicit false
namespace Mine
open PySem

theorem pow_lt_log {s m L : Nat} (h : 2 ^ s < m) (hm : m ≤ 2 ^ L) : s + 1 ≤ L := by
  by_cases c : s + 1 ≤ L
  · exact c
  · have : 2 ^ L ≤ 2 ^ s := Nat.pow_le_pow_right (by decide) (by (first | lia | omega))
    (first | lia | omega)
theorem pow_le_log {s m L : Nat} (h : 2 ^ s ≤ m) (hm : m ≤ 2 ^ L) : s ≤ L := by
  by_cases c : s ≤ L
  · exact c
  · have : 2 ^ (L + 1) ≤ 2 ^ s := Nat.pow_le_pow_right (by decide) (by (first | lia | omega))
    rw [Nat.pow_succ] at this
    have : 0 < 2 ^ L := Nat.pow_pos (by decide)
    (first | lia | omega)
theorem nr_va {m L : Nat} (h2 : 2 ≤ m) (h9 : m ≤ 9) (hm : m ≤ 2 ^ L) : Va L (nr m) := by
  obtain ⟨h1, hk, hx⟩ := nr_ok m h2 h9
  refine ⟨fun x hm' => ?_, hk⟩
  rcases hx x hm' with h | ⟨rfl, h⟩
  · have := pow_le_log (shortN_pow h2 h9).1 hm; (first | lia | omega)
  · exact pow_lt_log h hm

/-- all that is asked of a row's total, above -/
theorem near_facts {U : List Int} (hU : Asc U) (h1 : ∀ v ∈ U, 1 ≤ v) (h2 : 2 ≤ U.length) (h9 : U.length ≤ 9) {L : Nat} (hL : L ≤ 8) (hroom : U.length ≤ 2 ^ L) {D : List Nat} (hD : OptL L U D) {a0 a1 al : Int} (u0 : U[0]? = some a0) (u1 : U[1]? = some a1) (ul : U[U.length - 1]? = some al) :
    dot U D ≤ nearV U ∧ (al ≤ a0 + a1 → dot U D = nearV U) ∧ (¬ al ≤ a0 + a1 → (U.length = 4 ∨ U.length = 8) → shortN U.length < L → dot U D < nearV U) := by
  rw [near_dot hU h2 h9]
  have hle : dot U D ≤ dot U (nr U.length) := hD.opt _ (nr_ok _ h2 h9).1 (nr_va h2 h9 hroom)
  refine ⟨hle, fun h => ?_, fun h h48 hs => ?_⟩
  · obtain ⟨l', hc, _, _, _, hl⟩ := low_code hU (fun v hv => by have := h1 v hv; (first | lia | omega)) (by (first | lia | omega)) hD.len hL hD.va
    have := far_dot hU (fun v hv => Int.le_trans (by decide) (h1 v hv)) h2 h9 u0 u1 ul h hc
    (first | lia | omega)
  · have hlt := nr2_lt h48 u0 u1 ul h
    obtain ⟨⟨k1, k2, k3⟩, _⟩ := nr2_ok _ h48
    have hv : Va L (nr2 U.length) ∧ (nr2 U.length).length = U.length := ⟨⟨fun x hx => by have := k3 x hx; (first | lia | omega), k2⟩, k1⟩
    have := hD.opt _ hv.2 hv.1
    (first | lia | omega)
end Mine
end

section
set_option autoImplicit false
namespace Mine
open PySem

theorem fws_mem {n : Nat} {W L : Int} {b : Nat} (h1 : 1 ≤ b) (hm : maxI (rest b (n - 1 - b)) ≤ L) : ∀ k, b ≤ k → (W - n + 1) * (b : Int) + (rest b (n - 1 - b)).sum ∈ fws n W L k
  | 0, h => by (first | lia | omega)
  | k + 1, h => by
    simp only [fws, List.mem_append]
    by_cases c : b ≤ k
    · exact .inl (fws_mem h1 hm k c)
    · have e : b = k + 1 := by (first | lia | omega)
      subst e
      rw [if_pos hm]
      exact .inr List.mem_cons_self
theorem fws_inv {n : Nat} {W L : Int} {x : Int} : ∀ k, x ∈ fws n W L k → ∃ b, 1 ≤ b ∧ b ≤ k ∧ maxI (rest b (n - 1 - b)) ≤ L ∧ x = (W - n + 1) * (b : Int) + (rest b (n - 1 - b)).sum
  | 0, h => by cases h
  | k + 1, h => by
    simp only [fws, List.mem_append] at h
    rcases h with h | h
    · obtain ⟨b, h1, h2, h3⟩ := fws_inv k h
      exact ⟨b, h1, by (first | lia | omega), h3⟩
    · split at h
      · rename_i c
        exact ⟨k + 1, by (first | lia | omega), Nat.le_refl _, c, List.mem_singleton.mp h⟩
      · cases h
theorem dot_low {b : Nat} : ∀ (U : List Int) (l : List Nat), U.length = l.length → (∀ v ∈ U, 1 ≤ v) → (∀ x ∈ l, b ≤ x) → (U.sum - U.length) * (b : Int) + (l.sum : Nat) ≤ dot U l
  | [], [], _, _, _ => by simp [dot]
  | [], _ :: _, h, _, _ => by simp at h
  | _ :: _, [], h, _, _ => by simp at h
  | v :: U, x :: l, h, hU, hl => by
    have ih := dot_low (b := b) U l (by simpa using h) (fun w hw => hU w (List.mem_cons_of_mem _ hw)) fun y hy => hl y (List.mem_cons_of_mem _ hy)
    have hv := hU v List.mem_cons_self
    have hx := hl x List.mem_cons_self
    have h3 : (v - 1) * (b : Int) ≤ (v - 1) * (x : Int) := Int.mul_le_mul_of_nonneg_left (by (first | lia | omega)) (by (first | lia | omega))
    simp only [dot, List.sum_cons, List.length_cons]
    have e : (v + U.sum - ((U.length + 1 : Nat) : Int)) * (b : Int) = (v - 1) * (b : Int) + (U.sum - U.length) * (b : Int) := by
      rw [← Int.add_mul]; congr 1; (first | lia | omega)
    have e2 : (v - 1) * (x : Int) = v * (x : Int) - x := by rw [Int.sub_mul]; (first | lia | omega)
    rw [e]
    push_cast
    (first | lia | omega)
noncomputable def okA (m : Nat) (l : List Nat) : Bool :=
  decide (1 ≤ l.getLastD 0) && decide (l.getLastD 0 + 1 ≤ m) && decide (maxI (rest (l.getLastD 0) (m - 1 - l.getLastD 0)) ≤ ((l.headD 0 : Nat) : Int)) && decide ((rest (l.getLastD 0) (m - 1 - l.getLastD 0)).sum + ((l.getLastD 0 : Nat) : Int) ≤ ((l.sum : Nat) : Int)) && decide (∀ x ∈ l, l.getLastD 0 ≤ x ∧ x + 1 ≤ m) && decide (l.headD 0 ∈ l)
theorem okA_all : ∀ m ∈ [2, 3, 4, 5, 6, 7, 8, 9], (codes m).all (okA m) = true := by decide +kernel
theorem few_low {U : List Int} (hU : Asc U) (h1 : ∀ v ∈ U, 1 ≤ v) (h2 : 2 ≤ U.length) (h9 : U.length ≤ 9) {L : Nat} (hL : L ≤ 8) {Lim : Int} (hLim : ∀ x : Nat, x ≤ L → x + 1 ≤ U.length → (x : Int) ≤ Lim) {l : List Nat} (hl : l.length = U.length) (hv : Va L l) :
    fws U.length U.sum Lim (U.length - 1) ≠ [] ∧ minI (fws U.length U.sum Lim (U.length - 1)) ≤ dot U l := by
  obtain ⟨l', hc, hlen, _, hv', hd⟩ := low_code hU (fun v hv => by have := h1 v hv; (first | lia | omega)) (by (first | lia | omega)) hl hL hv
  have hk := List.all_eq_true.mp (okA_all U.length (by simp; (first | lia | omega))) l' hc
  simp only [okA, Bool.and_eq_true, decide_eq_true_eq] at hk
  obtain ⟨⟨⟨⟨⟨k1, k2⟩, k3⟩, k4⟩, k5⟩, k6⟩ := hk
  generalize l'.getLastD 0 = b at *
  have hm : maxI (rest b (U.length - 1 - b)) ≤ Lim := Int.le_trans k3 (hLim _ (hv'.le _ k6) (k5 _ k6).2)
  have hmem := fws_mem (n := U.length) (W := U.sum) k1 hm (U.length - 1) (by (first | lia | omega))
  have hne : fws U.length U.sum Lim (U.length - 1) ≠ [] := fun e => by rw [e] at hmem; cases hmem
  refine ⟨hne, ?_⟩
  have hlow := dot_low (b := b) U l' hlen.symm h1 fun x hx => (k5 x hx).1
  have := (minI_spec hne).2 _ hmem
  have e : (U.sum - (U.length : Int) + 1) * (b : Int) = (U.sum - U.length) * (b : Int) + b := by rw [Int.add_mul]; (first | lia | omega)
  rw [e] at this
  (first | lia | omega)

/-! the steepest row -/
noncomputable def okB (n b : Nat) : Bool :=
  decide (kr ((rest b (n - 1 - b)).map Int.toNat ++ [b]) ≤ 256) && ((rest b (n - 1 - b)).all fun x => decide (0 ≤ x) && decide (x ≤ maxI (rest b (n - 1 - b)))) && decide ((b : Int) ≤ maxI (rest b (n - 1 - b))) && decide ((rest b (n - 1 - b)).length = n - 1)
theorem okB_all : ∀ n ∈ [2, 3, 4, 5, 6, 7, 8, 9], ∀ b ∈ [1, 2, 3, 4, 5, 6, 7, 8], b < n → okB n b = true := by decide +kernel
theorem dot_ones {c : Int} {b : Nat} : ∀ (l : List Int), (∀ x ∈ l, 0 ≤ x) → dot (List.replicate l.length 1 ++ [c]) (l.map Int.toNat ++ [b]) = l.sum + c * (b : Int)
  | [], _ => by simp [dot]
  | x :: l, h => by
    have ih := dot_ones (c := c) (b := b) l fun y hy => h y (List.mem_cons_of_mem _ hy)
    have hx := h x List.mem_cons_self
    simp only [List.length_cons, List.replicate_succ, List.cons_append, List.map_cons, dot, ih, List.sum_cons]
    (first | lia | omega)
theorem steep_le {n : Nat} (h2 : 2 ≤ n) (h9 : n ≤ 9) {W : Int} {L : Nat} {Lim : Int} (hLim : ∀ x : Int, x ≤ Lim → x ≤ L) {D : List Nat} (hD : OptL L (List.replicate (n - 1) 1 ++ [W - n + 1]) D) (hne : fws n W Lim (n - 1) ≠ []) : dot (List.replicate (n - 1) 1 ++ [W - n + 1]) D ≤ minI (fws n W Lim (n - 1)) := by
  obtain ⟨b, h1, hb, hm, he⟩ := fws_inv (n - 1) (minI_spec hne).1
  rw [he]
  have hk := okB_all n (by simp; (first | lia | omega)) b (by simp; (first | lia | omega)) (by (first | lia | omega))
  simp only [okB, Bool.and_eq_true, decide_eq_true_eq, List.all_eq_true] at hk
  obtain ⟨⟨⟨k1, k2⟩, k3⟩, k4⟩ := hk
  have hmL := hLim _ hm
  have hd := dot_ones (c := W - n + 1) (b := b) (rest b (n - 1 - b)) fun x hx => (k2 x hx).1
  rw [k4] at hd
  have := hD.opt ((rest b (n - 1 - b)).map Int.toNat ++ [b]) (by simp [k4]) ⟨fun x hx => by
    rcases List.mem_append.mp hx with hx | hx
    · obtain ⟨y, hy, rfl⟩ := List.mem_map.mp hx
      have := k2 y hy
      (first | lia | omega)
    · have : x = b := by simpa using hx
      (first | lia | omega), k1⟩
  rw [hd] at this
  (first | lia | omega)
end Mine
end

section
set_option autoImplicit false
namespace Mine
open PySem

/-! ### codes by symbol -/
noncomputable def zs (f : Int → Nat → Int) : List Int → List Nat → Int
  | c :: r, x :: l => f c x + zs f r l
  | _, _ => 0
noncomputable def fd (c : Int) (x : Nat) : Int := c * (x : Int)
noncomputable def fk (c : Int) (x : Nat) : Int := if 0 < c then ((2 ^ (8 - x) : Nat) : Int) else 0
theorem zs_dot : ∀ (r : List Int) (l : List Nat), zs fd r l = dot r l
  | [], _ => by simp [zs, dot]
  | _ :: _, [] => by simp [zs, dot]
  | c :: r, x :: l => by simp only [zs, dot, zs_dot r l, fd]
theorem zs_setl {f : Int → Nat → Int} : ∀ (r : List Int) (l : List Nat) (i x : Nat), i < r.length → r.length = l.length → zs f r (l.set i x) = zs f r l + f (r.getD i 0) x - f (r.getD i 0) (l.getD i 0)
  | [], _, _, _, h, _ => by simp at h
  | _ :: _, [], _, _, _, h => by simp at h
  | c :: r, y :: l, 0, x, _, _ => by simp [zs]; (first | lia | omega)
  | c :: r, y :: l, i + 1, x, h, hl => by
    have := zs_setl (f := f) r l i x (by simpa using h) (by simpa using hl)
    simp only [List.set_cons_succ, zs, List.getD_cons_succ, this]
    (first | lia | omega)
theorem zs_setr {f : Int → Nat → Int} : ∀ (r : List Int) (l : List Nat) (i : Nat) (v : Int), i < r.length → r.length = l.length → zs f (r.set i v) l = zs f r l + f v (l.getD i 0) - f (r.getD i 0) (l.getD i 0)
  | [], _, _, _, h, _ => by simp at h
  | _ :: _, [], _, _, _, h => by simp at h
  | c :: r, y :: l, 0, x, _, _ => by simp [zs]; (first | lia | omega)
  | c :: r, y :: l, i + 1, x, h, hl => by
    have := zs_setr (f := f) r l i x (by simpa using h) (by simpa using hl)
    simp only [List.set_cons_succ, zs, List.getD_cons_succ, this]
    (first | lia | omega)
theorem getN_set_ne {l : List Nat} {i j x : Nat} (h : i ≠ j) : (l.set i x).getD j 0 = l.getD j 0 := by
  simp [List.getD_eq_getElem?_getD, List.getElem?_set_ne h]
theorem getN_set_eq {l : List Nat} {i x : Nat} (h : i < l.length) : (l.set i x).getD i 0 = x := by
  simp [List.getD_eq_getElem?_getD, h]
theorem kr_up (f : Nat → Nat) : ∀ (r : List Int) (k : Nat), ((kr ((up r k).map fun p => f p.2.toNat) : Nat) : Int) = zs fk r ((List.range' k r.length).map f)
  | [], k => rfl
  | c :: r, k => by
    have ih := kr_up f r (k + 1)
    simp only [up, List.length_cons, List.range'_succ, List.map_cons, zs, fk]
    split
    · simp only [List.map_cons, kr]
      rw [← ih]
      simp
    · rw [← ih]; simp
theorem kr_al {r : List Int} {l : List Nat} (hl : l.length = r.length) : ((kr (al r l) : Nat) : Int) = zs fk r l := by
  have := kr_up (fun i => l.getD i 0) r 0
  rw [← hl, range_getD] at this
  exact this
theorem up_in : ∀ (r : List Int) (k i : Nat), i < r.length → 0 < r.getD i 0 → (r.getD i 0, ((k + i : Nat) : Int)) ∈ up r k
  | [], _, _, h, _ => by simp at h
  | c :: r, k, 0, _, hp => by
    simp at hp
    simp [up, hp]
  | c :: r, k, i + 1, h, hp => by
    have ih := up_in r (k + 1) i (by simpa using h) (by simpa using hp)
    have e : k + (i + 1) = k + 1 + i := by (first | lia | omega)
    rw [e, List.getD_cons_succ]
    simp only [up]
    split
    · exact List.mem_cons_of_mem _ ih
    · exact ih
theorem al_le {r : List Int} {l : List Nat} {B : Nat} : (∀ x ∈ al r l, x ≤ B) ↔ ∀ i, i < r.length → 0 < r.getD i 0 → l.getD i 0 ≤ B := by
  constructor
  · intro h i hi hp
    have hm := up_in r 0 i hi hp
    have := h (l.getD i 0) (List.mem_map.mpr ⟨_, hm, by simp⟩)
    exact this
  · intro h x hx
    obtain ⟨p, hp, rfl⟩ := List.mem_map.mp hx
    obtain ⟨h1, h2, h3, h4⟩ := up_mem r 0 p hp
    simp only [Nat.sub_zero] at h4
    exact h _ (by (first | lia | omega)) (by (first | lia | omega))
/-- a row's best lengths, told by symbol -/
structure Bst (L : Nat) (r : List Int) (A : List Nat) : Prop where
  len : A.length = r.length
  le : ∀ i, i < r.length → 0 < r.getD i 0 → A.getD i 0 ≤ L
  kr : zs fk r A ≤ 256
  best : ∀ l : List Nat, l.length = r.length → (∀ i, i < r.length → 0 < r.getD i 0 → l.getD i 0 ≤ L) → zs fk r l ≤ 256 → dot r A ≤ dot r l
theorem Told.bst {L : Nat} {r : List Int} {A : List Nat} (t : Told L r A) (h0 : ∀ c ∈ r, 0 ≤ c) : Bst L r A where
  len := t.len
  le := al_le.mp t.va.le
  kr := by rw [← kr_al t.len]; have := t.va.k; (first | lia | omega)
  best := fun l hl hle hk => t.best h0 hl ⟨al_le.mpr hle, by rw [← kr_al hl] at hk; (first | lia | omega)⟩

/-- a code that no limit binds but its room is no better -/
theorem Told.wide {r : List Int} {A : List Nat} (hr : r.length ≤ 9) (h2 : 2 ≤ (up r 0).length) (t : Told ((up r 0).length - 1) r A) : Told 8 r A where
  len := t.len
  opt := by
    have hul := up_len r 0
    have hwl : (uw r).length = (up r 0).length := by simp [uw, us_len]
    refine ⟨t.opt.len, ⟨fun x hx => by have := t.opt.va.le x hx; (first | lia | omega), t.opt.va.k⟩, fun l hl hv => ?_⟩
    obtain ⟨l', hc, hlen, _, hv', hd⟩ := low_code (uw_asc (r := r) (by (first | assumption | exact Nat.le_trans (by assumption) (by decide) | exact Int.le_trans (by assumption) (by decide) | exact Nat.lt_of_lt_of_le (by assumption) (by assumption) | exact Nat.le_trans (by assumption) (by assumption) | exact Nat.lt_of_lt_of_le (by assumption) (by decide)))) (fun v hv => Int.le_of_lt (uw_pos v hv)) (by (first | lia | omega)) hl (Nat.le_refl 8) hv
    have hk := List.all_eq_true.mp (okA_all (uw r).length (by simp; (first | lia | omega))) l' hc
    simp only [okA, Bool.and_eq_true, decide_eq_true_eq] at hk
    have hm := hk.1.2
    exact Int.le_trans (t.opt.opt l' hlen ⟨fun x hx => by have := (hm x hx).2; (first | lia | omega), hv'.k⟩) hd
end Mine
end

section
set_option autoImplicit false
namespace Mine
open PySem

theorem kr_mem {x : Nat} : ∀ {l : List Nat}, x ∈ l → 2 ^ (8 - x) + (l.length - 1) ≤ kr l
  | [], h => by cases h
  | y :: l, h => by
    have hy : 0 < 2 ^ (8 - y) := Nat.pow_pos (by decide)
    have hg : ∀ l : List Nat, l.length ≤ kr l := by
      intro l
      induction l with
      | nil => simp [kr]
      | cons z l ih =>
        have : 0 < 2 ^ (8 - z) := Nat.pow_pos (by decide)
        simp only [kr, List.length_cons]; (first | lia | omega)
    simp only [kr, List.length_cons]
    rcases List.mem_cons.mp h with rfl | h
    · have := hg l; (first | lia | omega)
    · have := kr_mem h
      have : 1 ≤ l.length := List.length_pos_of_mem h
      (first | lia | omega)
structure Val (L : Nat) (r : List Int) (l : List Nat) : Prop where
  len : l.length = r.length
  le : ∀ i, i < r.length → 0 < r.getD i 0 → l.getD i 0 ≤ L
  kr : zs fk r l ≤ 256
theorem Val.pos {L : Nat} {r : List Int} {l : List Nat} (v : Val L r l) (h2 : 2 ≤ (up r 0).length) {i : Nat} (hi : i < r.length) (hp : 0 < r.getD i 0) : 1 ≤ l.getD i 0 := by
  have hk := kr_al v.len
  have hv := v.kr
  have hm : l.getD i 0 ∈ al r l := List.mem_map.mpr ⟨_, up_in r 0 i hi hp, by simp⟩
  have := kr_mem hm
  have hl : (al r l).length = (up r 0).length := by simp [al]
  by_cases c : l.getD i 0 = 0
  · rw [c] at this; (first | lia | omega)
  · (first | lia | omega)
theorem Bst.val {L : Nat} {r : List Int} {A : List Nat} (t : Bst L r A) : Val L r A := ⟨t.len, t.le, t.kr⟩
theorem dot_mv {r : List Int} {a b : Nat} (m : MvOK r a b) {l : List Nat} (hl : l.length = r.length) : dot (mv r a b) l = dot r l - (l.getD a 0 : Nat) + (l.getD b 0 : Nat) := by
  unfold mv
  rw [← zs_dot, zs_setr _ _ _ _ (by simpa using m.lb) (by simp [hl]), zs_setr _ _ _ _ m.la hl.symm, zs_dot, getD_set_ne m.ne]
  unfold fd
  rw [Int.sub_mul, Int.add_mul]
  (first | lia | omega)
theorem fk_mv {r : List Int} {a b : Nat} (m : MvOK r a b) {l : List Nat} (hl : l.length = r.length) : zs fk (mv r a b) l = zs fk r l + fk (r.getD a 0 - 1) (l.getD a 0) - fk (r.getD a 0) (l.getD a 0) := by
  unfold mv
  have hb := m.pb
  rw [zs_setr _ _ _ _ (by simpa using m.lb) (by simp [hl]), zs_setr _ _ _ _ m.la hl.symm, getD_set_ne m.ne]
  have e : fk (r.getD b 0 + 1) (l.getD b 0) = fk (r.getD b 0) (l.getD b 0) := by
    unfold fk
    rw [if_pos (by (first | lia | omega)), if_pos (by (first | assumption | exact Nat.le_trans (by assumption) (by decide) | exact Int.le_trans (by assumption) (by decide) | exact Nat.lt_of_lt_of_le (by assumption) (by assumption) | exact Nat.le_trans (by assumption) (by assumption) | exact Nat.lt_of_lt_of_le (by assumption) (by decide)))]
  rw [e]
  (first | lia | omega)
theorem mv_used {r : List Int} {a b : Nat} (m : MvOK r a b) {i : Nat} (hp : 0 < (mv r a b).getD i 0) : 0 < r.getD i 0 := by
  have h1 := m.pa
  have h2 := m.pb
  by_cases ca : a = i
  · subst ca; (first | lia | omega)
  · by_cases cb : b = i
    · subst cb; (first | assumption | exact Nat.le_trans (by assumption) (by decide) | exact Int.le_trans (by assumption) (by decide) | exact Nat.lt_of_lt_of_le (by assumption) (by assumption) | exact Nat.le_trans (by assumption) (by assumption) | exact Nat.lt_of_lt_of_le (by assumption) (by decide))
    · rwa [mv_ne ca cb] at hp
/-- one may take the first of the two to lie the deeper -/
theorem Bst.turn {L : Nat} {r : List Int} {A : List Nat} (t : Bst L r A) {a b : Nat} (m : MvOK r a b) {ap : Int} (hap : (if ((A.getD a 0 : Nat) : Int) - (A.getD b 0 : Nat) < 0 then -(((A.getD a 0 : Nat) : Int) - (A.getD b 0 : Nat)) else ((A.getD a 0 : Nat) : Int) - (A.getD b 0 : Nat)) = ap) :
    ∃ A2, Bst L r A2 ∧ dot r A2 = dot r A ∧ ((A2.getD a 0 : Nat) : Int) - (A2.getD b 0 : Nat) = ap ∧ 0 ≤ ap := by
  by_cases c : ((A.getD a 0 : Nat) : Int) - (A.getD b 0 : Nat) < 0
  · rw [if_pos c] at hap
    have hla : a < A.length := by rw [t.len]; exact m.la
    have hlb : b < A.length := by rw [t.len]; exact m.lb
    have hpa := m.pa
    have hpb := m.pb
    have hle := m.le
    have key : ∀ f : Int → Nat → Int, zs f r ((A.set a (A.getD b 0)).set b (A.getD a 0)) = zs f r A + f (r.getD a 0) (A.getD b 0) - f (r.getD a 0) (A.getD a 0) + f (r.getD b 0) (A.getD a 0) - f (r.getD b 0) (A.getD b 0) := fun f => by
      rw [zs_setl _ _ _ _ m.lb (by simp [t.len]), zs_setl _ _ _ _ m.la t.len.symm, getN_set_ne m.ne]
    have hlen : ((A.set a (A.getD b 0)).set b (A.getD a 0)).length = r.length := by simp [t.len]
    have g1 : ((A.set a (A.getD b 0)).set b (A.getD a 0)).getD a 0 = A.getD b 0 := by
      rw [getN_set_ne (Ne.symm m.ne), getN_set_eq hla]
    have g2 : ((A.set a (A.getD b 0)).set b (A.getD a 0)).getD b 0 = A.getD a 0 := by
      rw [getN_set_eq (by simpa using hlb)]
    have hvle : ∀ i, i < r.length → 0 < r.getD i 0 → ((A.set a (A.getD b 0)).set b (A.getD a 0)).getD i 0 ≤ L := fun i hi hp => by
      by_cases ca : a = i
      · subst ca; rw [g1]; exact t.le b m.lb (by (first | lia | omega))
      · by_cases cb : b = i
        · subst cb; rw [g2]; exact t.le a m.la (by (first | assumption | exact Nat.le_trans (by assumption) (by decide) | exact Int.le_trans (by assumption) (by decide) | exact Nat.lt_of_lt_of_le (by assumption) (by assumption) | exact Nat.le_trans (by assumption) (by assumption) | exact Nat.lt_of_lt_of_le (by assumption) (by decide)))
        · rw [getN_set_ne cb, getN_set_ne ca]; exact t.le i hi hp
    have hk : zs fk r ((A.set a (A.getD b 0)).set b (A.getD a 0)) ≤ 256 := by
      rw [key]
      have := t.kr
      unfold fk at this ⊢
      rw [if_pos (by (first | lia | omega)), if_pos (by (first | lia | omega)), if_pos (by (first | lia | omega)), if_pos (by (first | lia | omega))]
      (first | lia | omega)
    have hd : dot r ((A.set a (A.getD b 0)).set b (A.getD a 0)) = dot r A := by
      have hb := t.best _ hlen hvle hk
      have ed := zs_dot r ((A.set a (A.getD b 0)).set b (A.getD a 0))
      rw [key, zs_dot] at ed
      rw [← ed] at hb ⊢
      clear ed
      unfold fd at hb ⊢
      obtain ⟨k, hk⟩ : ∃ k : Nat, A.getD b 0 = A.getD a 0 + k := ⟨A.getD b 0 - A.getD a 0, by (first | lia | omega)⟩
      rw [hk] at hb ⊢
      push_cast at hb ⊢
      rw [Int.mul_add, Int.mul_add] at hb ⊢
      have : r.getD a 0 * (k : Int) ≤ r.getD b 0 * (k : Int) := Int.mul_le_mul_of_nonneg_right hle (by (first | lia | omega))
      (first | lia | omega)
    refine ⟨_, ⟨hlen, hvle, hk, fun l h1 h2 h3 => ?_⟩, hd, by rw [g1, g2]; (first | lia | omega), by (first | lia | omega)⟩
    rw [hd]; exact t.best l h1 h2 h3
  · rw [if_neg c] at hap
    exact ⟨A, t, rfl, hap, by (first | lia | omega)⟩
theorem move_some {L : Nat} {r : List Int} {a b : Nat} {A B : List Nat} (m : MvOK r a b) (h2 : r.getD a 0 ≠ 1) (hA : Bst L r A) (hB : Bst L (mv r a b) B) {ap : Int} (hap : (if ((A.getD a 0 : Nat) : Int) - (A.getD b 0 : Nat) < 0 then -(((A.getD a 0 : Nat) : Int) - (A.getD b 0 : Nat)) else ((A.getD a 0 : Nat) : Int) - (A.getD b 0 : Nat)) = ap) :
    ap ≤ dot r A - dot (mv r a b) B ∧ dot r A - dot (mv r a b) B ≤ ((B.getD a 0 : Nat) : Int) - (B.getD b 0 : Nat) := by
  have hpa := m.pa
  have hpb := m.pb
  have hfk : ∀ l : List Nat, l.length = r.length → zs fk (mv r a b) l = zs fk r l := fun l hl => by
    rw [fk_mv m hl]
    unfold fk
    rw [if_pos (by (first | lia | omega)), if_pos (by (first | assumption | exact Nat.le_trans (by assumption) (by decide) | exact Int.le_trans (by assumption) (by decide) | exact Nat.lt_of_lt_of_le (by assumption) (by assumption) | exact Nat.le_trans (by assumption) (by assumption) | exact Nat.lt_of_lt_of_le (by assumption) (by decide)))]; (first | lia | omega)
  have hus : ∀ i, 0 < r.getD i 0 → 0 < (mv r a b).getD i 0 := fun i hp => by
    by_cases ca : a = i
    · subst ca; rw [mv_a m]; (first | lia | omega)
    · by_cases cb : b = i
      · subst cb; rw [mv_b m]; (first | lia | omega)
      · rwa [mv_ne ca cb]
  constructor
  · obtain ⟨A2, t2, hd, he, _⟩ := hA.turn m hap
    have := hB.best A2 (by rw [mv_len]; exact t2.len) (fun i hi hp => t2.le i (by rwa [mv_len] at hi) (mv_used m hp)) (by rw [hfk _ t2.len]; exact t2.kr)
    rw [dot_mv m t2.len] at this
    (first | lia | omega)
  · have hBl : B.length = r.length := by rw [hB.len, mv_len]
    have := hA.best B hBl (fun i hi hp => hB.le i (by rw [mv_len]; exact hi) (hus i hp)) (by rw [← hfk _ hBl]; exact hB.kr)
    have e := dot_mv m hBl
    (first | lia | omega)
theorem move_none {L : Nat} (hL : L ≤ 8) {r : List Int} {a b : Nat} {A B : List Nat} (m : MvOK r a b) (ht : 2 ≤ (up r 0).length) (h1 : r.getD a 0 = 1) (hA : Bst L r A) (hB : Bst L (mv r a b) B) {ap : Int} (hap : (if ((A.getD a 0 : Nat) : Int) - (A.getD b 0 : Nat) < 0 then -(((A.getD a 0 : Nat) : Int) - (A.getD b 0 : Nat)) else ((A.getD a 0 : Nat) : Int) - (A.getD b 0 : Nat)) = ap) :
    ap + minI ((mv r a b).filter (0 < ·)) ≤ dot r A - dot (mv r a b) B := by
  have hpb := m.pb
  obtain ⟨A2, t2, hd, he, h0⟩ := hA.turn m hap
  have hA2a : A2.getD a 0 ≤ L := t2.le a m.la (by (first | lia | omega))
  by_cases hc : ∃ c, c ≠ a ∧ c < r.length ∧ 0 < r.getD c 0 ∧ A2.getD a 0 ≤ A2.getD c 0
  · obtain ⟨c, c1, c2, c3, c4⟩ := hc
    have hpos := t2.val.pos ht c2 c3
    have hcL := t2.le c c2 c3
    have hlen : (A2.set c (A2.getD c 0 - 1)).length = r.length := by simp [t2.len]
    have hcl : c < A2.length := by rw [t2.len]; exact c2
    have hk : zs fk (mv r a b) (A2.set c (A2.getD c 0 - 1)) ≤ 256 := by
      rw [fk_mv m hlen, zs_setl _ _ _ _ c2 t2.len.symm, getN_set_ne c1]
      have hkr := t2.kr
      have e1 : fk (r.getD a 0 - 1) (A2.getD a 0) = 0 := by unfold fk; rw [if_neg (by (first | lia | omega))]
      have e2 : fk (r.getD a 0) (A2.getD a 0) = ((2 ^ (8 - A2.getD a 0) : Nat) : Int) := by unfold fk; rw [if_pos (by (first | lia | omega))]
      have e3 : ∀ x, fk (r.getD c 0) x = ((2 ^ (8 - x) : Nat) : Int) := fun x => by unfold fk; rw [if_pos (by (first | assumption | exact Nat.le_trans (by assumption) (by decide) | exact Int.le_trans (by assumption) (by decide) | exact Nat.lt_of_lt_of_le (by assumption) (by assumption) | exact Nat.le_trans (by assumption) (by assumption) | exact Nat.lt_of_lt_of_le (by assumption) (by decide)))]
      rw [e1, e2, e3, e3]
      have e4 : 2 ^ (8 - (A2.getD c 0 - 1)) = 2 * 2 ^ (8 - A2.getD c 0) := by
        rw [Nat.mul_comm 2, ← Nat.pow_succ]; congr 1; (first | lia | omega)
      have e5 : 2 ^ (8 - A2.getD c 0) ≤ 2 ^ (8 - A2.getD a 0) := Nat.pow_le_pow_right (by decide) (by (first | lia | omega))
      rw [e4]
      (first | lia | omega)
    have hle : ∀ i, i < (mv r a b).length → 0 < (mv r a b).getD i 0 → (A2.set c (A2.getD c 0 - 1)).getD i 0 ≤ L := fun i hi hp => by
      rw [mv_len] at hi
      by_cases ci : c = i
      · subst ci; rw [getN_set_eq hcl]; (first | lia | omega)
      · rw [getN_set_ne ci]; exact t2.le i hi (mv_used m hp)
    have hbest := hB.best _ (by rw [mv_len]; exact hlen) hle hk
    have hdl : dot (mv r a b) (A2.set c (A2.getD c 0 - 1)) = dot (mv r a b) A2 - (mv r a b).getD c 0 := by
      rw [← zs_dot, zs_setl _ _ _ _ (by rw [mv_len]; exact c2) (by rw [mv_len]; exact t2.len.symm), zs_dot]
      unfold fd
      obtain ⟨k, hk⟩ : ∃ k : Nat, A2.getD c 0 = k + 1 := ⟨A2.getD c 0 - 1, by (first | lia | omega)⟩
      rw [hk]
      simp only [Nat.add_sub_cancel]
      push_cast
      rw [Int.mul_add]
      (first | lia | omega)
    rw [hdl, dot_mv m t2.len] at hbest
    have hpc : 0 < (mv r a b).getD c 0 := by
      by_cases cb : b = c
      · subst cb; rw [mv_b m]; (first | lia | omega)
      · rwa [mv_ne (Ne.symm c1) cb]
    have hmem : (mv r a b).getD c 0 ∈ (mv r a b).filter (0 < ·) := List.mem_filter.mpr ⟨getD_mem (by rw [mv_len]; exact c2), by simpa using hpc⟩
    have := (minI_spec (List.ne_nil_of_mem hmem)).2 _ hmem
    (first | lia | omega)
  · exfalso
    have hall : ∀ c, c ≠ a → c < r.length → 0 < r.getD c 0 → A2.getD c 0 < A2.getD a 0 := fun c c1 c2 c3 => by
      by_cases h : A2.getD c 0 < A2.getD a 0
      · exact h
      · exact absurd ⟨c, c1, c2, c3, by (first | lia | omega)⟩ hc
    have hb := hall b (Ne.symm m.ne) m.lb (by (first | assumption | exact Nat.le_trans (by assumption) (by decide) | exact Int.le_trans (by assumption) (by decide) | exact Nat.lt_of_lt_of_le (by assumption) (by assumption) | exact Nat.le_trans (by assumption) (by assumption) | exact Nat.lt_of_lt_of_le (by assumption) (by decide)))
    have hal : a < A2.length := by rw [t2.len]; exact m.la
    have hset : ((kr (al (r.set a 0) A2) : Nat) : Int) = zs fk r A2 - ((2 ^ (8 - A2.getD a 0) : Nat) : Int) := by
      rw [kr_al (by simp [t2.len]), zs_setr _ _ _ _ m.la t2.len.symm]
      unfold fk
      rw [if_neg (by (first | lia | omega)), if_pos (by (first | lia | omega))]
      (first | lia | omega)
    have hkr := t2.kr
    have hlt : ∀ x ∈ al (r.set a 0) A2, x ≤ A2.getD a 0 - 1 := al_le.mpr fun i hi hp => by
      by_cases ci : a = i
      · subst ci
        rw [getD_set_eq m.la] at hp; (first | lia | omega)
      · rw [getD_set_ne ci] at hp
        have := hall i (Ne.symm ci) (by simpa using hi) hp
        (first | lia | omega)
    have htd := top_down (m := A2.getD a 0) (l := al (r.set a 0) A2) (by (first | assumption | exact Nat.le_trans (by assumption) (by decide) | exact Int.le_trans (by assumption) (by decide) | exact Nat.lt_of_lt_of_le (by assumption) (by assumption) | exact Nat.le_trans (by assumption) (by assumption) | exact Nat.lt_of_lt_of_le (by assumption) (by decide))) (by (first | lia | omega)) (fun x hx => by have := hlt x hx; (first | lia | omega)) (by simp only [kr]; (first | lia | omega))
    simp only [kr] at htd
    have hk : zs fk r (A2.set a (A2.getD a 0 - 1)) ≤ 256 := by
      rw [zs_setl _ _ _ _ m.la t2.len.symm]
      unfold fk
      rw [if_pos (by (first | lia | omega)), if_pos (by (first | lia | omega))]
      have : zs (fun c x => if 0 < c then ((2 ^ (8 - x) : Nat) : Int) else 0) r A2 = zs fk r A2 := rfl
      rw [this]
      (first | lia | omega)
    have hbest := t2.best (A2.set a (A2.getD a 0 - 1)) (by simp [t2.len]) (fun i hi hp => by
      by_cases ci : a = i
      · subst ci; rw [getN_set_eq hal]; (first | lia | omega)
      · rw [getN_set_ne ci]; exact t2.le i hi hp) hk
    rw [← zs_dot r (A2.set _ _), zs_setl _ _ _ _ m.la t2.len.symm, zs_dot] at hbest
    unfold fd at hbest
    rw [h1] at hbest
    (first | lia | omega)
end Mine
end

section
set_option autoImplicit false
namespace Mine
open PySem

/-! ### sums of the least ones -/
theorem pre_dot : ∀ (U V : List Int) (l : List Nat) (c : Int) (x : Nat), U.length = V.length → U.length = l.length → Dsc l → (∀ y ∈ l, y ≤ x) → 0 ≤ c → (∀ k, k ≤ U.length → 0 ≤ c + (V.take k).sum - (U.take k).sum) → dot U l ≤ c * (x : Int) + dot V l
  | [], [], l, c, x, _, _, _, _, hc, _ => by
    have := Int.mul_nonneg hc (Int.natCast_nonneg x)
    simp only [dot]; (first | lia | omega)
  | [], _ :: _, _, _, _, h, _, _, _, _, _ => by simp at h
  | _ :: _, [], _, _, _, h, _, _, _, _, _ => by simp at h
  | _ :: _, _ :: _, [], _, _, _, h, _, _, _, _ => by simp at h
  | u :: U, v :: V, y :: l, c, x, h1, h2, hd, hx, hc, hp => by
    obtain ⟨d1, d2⟩ := List.pairwise_cons.mp hd
    have hy := hx y List.mem_cons_self
    have hc1 := hp 1 (by simp)
    simp at hc1
    have ih := pre_dot U V l (c + v - u) y (by simpa using h1) (by simpa using h2) d2 d1 (by (first | lia | omega)) (fun k hk => by
      have := hp (k + 1) (by simpa using hk)
      simp only [List.take_succ_cons, List.sum_cons] at this
      (first | lia | omega))
    have h3 : c * (y : Int) ≤ c * (x : Int) := Int.mul_le_mul_of_nonneg_left (by (first | lia | omega)) hc
    simp only [dot]
    rw [Int.sub_mul, Int.add_mul] at ih
    (first | lia | omega)
theorem mono {U V : List Int} {L : Nat} {D E : List Nat} (hV : Asc V) (hl : U.length = V.length) (hD : OptL L U D) (hE : OptL L V E) (hp : ∀ k, k ≤ U.length → (U.take k).sum ≤ (V.take k).sum) : dot U D ≤ dot V E := by
  obtain ⟨l', s⟩ := sort_code V hV E hE.len
  have h1 := hD.opt l' (by rw [s.len, hl]) ⟨s.bd L hE.va.le, by rw [s.kr]; exact hE.va.k⟩
  have h2 := pre_dot U V l' 0 L hl (by rw [s.len, hl]) s.dsc (s.bd L hE.va.le) (Int.le_refl _) (fun k hk => by have := hp k hk; (first | lia | omega))
  have := s.dot
  (first | lia | omega)

/-! the evener row -/
theorem mx_spec (a b : Int) : mx a b = a ∧ b ≤ a ∨ mx a b = b ∧ a ≤ b := by
  unfold mx
  split
  · exact .inr ⟨rfl, by (first | lia | omega)⟩
  · exact .inl ⟨rfl, by (first | lia | omega)⟩
theorem mx_v {f s x y x1 y1 : Int} (hx : x ≤ x1) (hy : y ≤ y1) : mx (f + x) (s + y) - mx f s ≤ mx (f + x + x1) (s + y + y1) - mx (f + x) (s + y) := by
  have h1 := mx_spec f s
  have h2 := mx_spec (f + x) (s + y)
  have h3 := mx_spec (f + x + x1) (s + y + y1)
  omega
theorem evn_lb : ∀ (a b : List Int) (f s x y z : Int), Asc (x :: a) → Asc (y :: b) → z ≤ mx (f + x) (s + y) - mx f s → ∀ v ∈ evn (f + x) (s + y) (mx (f + x) (s + y)) a b, z ≤ v
  | [], b, f, s, x, y, z, _, _, _, v, hv => by simp [evn] at hv
  | _ :: _, [], f, s, x, y, z, _, _, _, v, hv => by simp [evn] at hv
  | x1 :: a, y1 :: b, f, s, x, y, z, ha, hb, hz, v, hv => by
    obtain ⟨a1, a2⟩ := List.pairwise_cons.mp ha
    obtain ⟨b1, b2⟩ := List.pairwise_cons.mp hb
    have hv1 := mx_v (f := f) (s := s) (a1 x1 List.mem_cons_self) (b1 y1 List.mem_cons_self)
    simp only [evn] at hv
    rcases List.mem_cons.mp hv with rfl | hv
    · (first | lia | omega)
    · exact evn_lb a b (f + x) (s + y) x1 y1 z a2 b2 (by (first | lia | omega)) v hv
theorem evn_asc : ∀ (a b : List Int) (f s : Int), Asc a → Asc b → Asc (evn f s (mx f s) a b)
  | [], b, f, s, _, _ => by simp [evn]
  | _ :: _, [], f, s, _, _ => by simp [evn]
  | x :: a, y :: b, f, s, ha, hb => by
    simp only [evn]
    exact List.pairwise_cons.mpr ⟨evn_lb a b f s x y _ ha hb (Int.le_refl _), evn_asc a b _ _ (List.pairwise_cons.mp ha).2 (List.pairwise_cons.mp hb).2⟩
theorem evn_pos : ∀ (a b : List Int) (f s : Int), (∀ x ∈ a, 1 ≤ x) → (∀ y ∈ b, 1 ≤ y) → ∀ v ∈ evn f s (mx f s) a b, 1 ≤ v
  | [], b, f, s, _, _, v, hv => by simp [evn] at hv
  | _ :: _, [], f, s, _, _, v, hv => by simp [evn] at hv
  | x :: a, y :: b, f, s, ha, hb, v, hv => by
    have h1 := ha x List.mem_cons_self
    have h2 := hb y List.mem_cons_self
    simp only [evn] at hv
    rcases List.mem_cons.mp hv with rfl | hv
    · have h1 := mx_spec f s
      have h2 := mx_spec (f + x) (s + y)
      (first | lia | omega)
    · exact evn_pos a b _ _ (fun z hz => ha z (List.mem_cons_of_mem _ hz)) (fun z hz => hb z (List.mem_cons_of_mem _ hz)) v hv
theorem evn_len : ∀ (a b : List Int) (f s d : Int), a.length = b.length → (evn f s d a b).length = a.length
  | [], b, f, s, d, _ => by simp [evn]
  | _ :: _, [], f, s, d, h => by simp at h
  | x :: a, y :: b, f, s, d, h => by
    simp only [evn, List.length_cons]
    rw [evn_len a b _ _ _ (by simpa using h)]
theorem evn_pre : ∀ (a b : List Int) (f s : Int) (k : Nat), a.length = b.length → k ≤ a.length → ((evn f s (mx f s) a b).take k).sum = mx (f + (a.take k).sum) (s + (b.take k).sum) - mx f s
  | a, b, f, s, 0, _, _ => by simp
  | [], b, f, s, k + 1, _, h => by simp at h
  | _ :: _, [], f, s, k + 1, h, _ => by simp at h
  | x :: a, y :: b, f, s, k + 1, h, hk => by
    have ih := evn_pre a b (f + x) (s + y) k (by simpa using h) (by simpa using hk)
    simp only [evn, List.take_succ_cons, List.sum_cons, ih, ← Int.add_assoc]
    (first | lia | omega)
theorem evn_ge {a b : List Int} (h : a.length = b.length) {k : Nat} (hk : k ≤ a.length) : (a.take k).sum ≤ ((evn 0 0 0 a b).take k).sum ∧ (b.take k).sum ≤ ((evn 0 0 0 a b).take k).sum := by
  have e := evn_pre a b 0 0 k h hk
  have e0 : mx 0 0 = 0 := rfl
  rw [e0] at e
  rw [e]
  have := mx_spec (0 + (a.take k).sum) (0 + (b.take k).sum)
  (first | lia | omega)

/-! the evenest row -/
noncomputable def evs (n rem : Nat) (q : Int) : List Int := List.replicate (n - rem) q ++ List.replicate rem (q + 1)
theorem sum_rep (q : Int) : ∀ k : Nat, (List.replicate k q).sum = (k : Int) * q
  | 0 => by simp
  | k + 1 => by
    rw [List.replicate_succ, List.sum_cons, sum_rep q k]
    push_cast
    rw [Int.add_mul]; (first | lia | omega)
theorem evs_asc (n rem : Nat) (q : Int) : Asc (evs n rem q) := by
  unfold evs Asc
  rw [List.pairwise_append]
  refine ⟨List.pairwise_replicate.mpr (.inr (Int.le_refl _)), List.pairwise_replicate.mpr (.inr (Int.le_refl _)), fun a ha b hb => ?_⟩
  rw [(List.mem_replicate.mp ha).2, (List.mem_replicate.mp hb).2]; (first | lia | omega)
theorem evs_pre {n rem : Nat} {q : Int} (hr : rem ≤ n) {k : Nat} (hk : k ≤ n) : ((evs n rem q).take k).sum = (k : Int) * q + ((k - (n - rem) : Nat) : Int) := by
  unfold evs
  rw [List.take_append, List.length_replicate, List.take_replicate, List.take_replicate, List.sum_append, sum_rep, sum_rep]
  by_cases c : k ≤ n - rem
  · have e1 : min k (n - rem) = k := by (first | lia | omega)
    have e2 : k - (n - rem) = 0 := by (first | lia | omega)
    rw [e1, e2]; simp
  · have e1 : min k (n - rem) = n - rem := by (first | lia | omega)
    have e2 : min (k - (n - rem)) rem = k - (n - rem) := by (first | lia | omega)
    rw [e1, e2]
    obtain ⟨j, rfl⟩ : ∃ j, k = (n - rem) + j := ⟨k - (n - rem), by (first | lia | omega)⟩
    have e3 : n - rem + j - (n - rem) = j := by (first | lia | omega)
    rw [e3]
    push_cast
    rw [Int.add_mul, Int.mul_add]
    (first | lia | omega)
theorem low_sum {q : Int} : ∀ (l : List Int), (∀ x ∈ l, x ≤ q) → l.sum ≤ (l.length : Int) * q
  | [], _ => by simp
  | x :: l, h => by
    have ih := low_sum l fun y hy => h y (List.mem_cons_of_mem _ hy)
    have hx := h x List.mem_cons_self
    simp only [List.sum_cons, List.length_cons]
    push_cast
    rw [Int.add_mul]; (first | lia | omega)
theorem high_sum {q : Int} : ∀ (l : List Int), (∀ x ∈ l, q ≤ x) → (l.length : Int) * q ≤ l.sum
  | [], _ => by simp
  | x :: l, h => by
    have ih := high_sum l fun y hy => h y (List.mem_cons_of_mem _ hy)
    have hx := h x List.mem_cons_self
    simp only [List.sum_cons, List.length_cons]
    push_cast
    rw [Int.add_mul]; (first | lia | omega)
theorem even_pre {U : List Int} (hU : Asc U) {q : Int} {rem : Nat} (hr : rem ≤ U.length) (hs : U.sum = (U.length : Int) * q + rem) {k : Nat} (hk : k ≤ U.length) : (U.take k).sum ≤ ((evs U.length rem q).take k).sum := by
  rw [evs_pre hr hk]
  by_cases c : ∀ x ∈ U.take k, x ≤ q
  · have := low_sum _ c
    rw [List.length_take, Nat.min_eq_left hk] at this
    (first | lia | omega)
  · have : ∃ x ∈ U.take k, q + 1 ≤ x := by
      by_cases c2 : ∃ x ∈ U.take k, q + 1 ≤ x
      · exact c2
      · exact absurd (fun x hx => by
          by_cases h : x ≤ q
          · exact h
          · exact absurd ⟨x, hx, by (first | lia | omega)⟩ c2) c
    obtain ⟨x, hx, hqx⟩ := this
    have hsp : Asc (U.take k ++ U.drop k) := by rw [List.take_append_drop]; exact hU
    have hall := (List.pairwise_append.mp hsp).2.2
    have := high_sum (q := q + 1) (U.drop k) fun y hy => by have := hall x hx y hy; (first | lia | omega)
    have hsum : (U.take k).sum + (U.drop k).sum = U.sum := by rw [← List.sum_append, List.take_append_drop]
    rw [List.length_drop] at this
    obtain ⟨j, hj⟩ : ∃ j, U.length = k + j := ⟨U.length - k, by (first | lia | omega)⟩
    have e3 : k + j - k = j := by (first | lia | omega)
    rw [hj] at this hs ⊢
    rw [e3] at this
    push_cast at this hs
    rw [Int.mul_add] at this
    rw [Int.add_mul] at hs
    (first | lia | omega)
end Mine
end

section
set_option autoImplicit false
namespace Mine
open PySem

/-- the limit, where none is set: eight bits, which bind no code of nine symbols -/
noncomputable def ll (L : Nat) : Nat := if L = 0 then 8 else L
theorem ll_le {L : Nat} (hL : L ≤ 8) : ll L ≤ 8 := by unfold ll; split <;> (first | lia | omega)
theorem told_all {r : List Int} (h0 : ∀ c ∈ r, 0 ≤ c) (hn : r.length ≤ 9) (h2 : 2 ≤ (up r 0).length) {L : Nat} (hL : L ≤ 8) (hroom : L = 0 ∨ (up r 0).length ≤ 2 ^ L) : ∃ lens, g_law_told [.list (di r), .int L] = some (.list (din lens)) ∧ Told (ll L) r lens := by
  obtain ⟨lens, e, t⟩ := told_spec h0 hn h2 hL hroom
  refine ⟨lens, e, ?_⟩
  unfold lim at t
  unfold ll
  by_cases c : L = 0
  · rw [if_pos c] at t ⊢
    exact t.wide hn h2
  · rw [if_neg c] at t ⊢
    exact t
theorem lim_ok {L m : Nat} : ∀ x : Nat, x ≤ ll L → x + 1 ≤ m → (x : Int) ≤ limV L m := by
  intro x h1 h2
  unfold ll at h1
  unfold limV
  split
  · rw [if_neg (by (first | lia | omega))] at h1; (first | lia | omega)
  · (first | lia | omega)
structure RowAll (L : Nat) (r : List Int) (lens : List Nat) : Prop where
  e1 : g_law_told [.list (di r), .int L] = some (.list (din lens))
  told : Told (ll L) r lens
  e2 : g_total_bits [.list (di r), .list (din lens)] = some (.int (dot r lens))
  e3 : g_law_row_right [.list (di r), .int (dot r lens), .int L] = some (.bool true)
theorem row_all {r : List Int} (h0 : ∀ c ∈ r, 0 ≤ c) (hn : r.length ≤ 9) (h2 : 2 ≤ (up r 0).length) {L : Nat} (hL : L ≤ 8) (hroom : L = 0 ∨ (up r 0).length ≤ 2 ^ L) : ∃ lens, RowAll L r lens := by
  obtain ⟨lens, e, t⟩ := told_all h0 hn h2 hL hroom
  have hl8 := ll_le hL
  have b := t.bst h0
  have hul := up_len r 0
  have hwl : (uw r).length = (up r 0).length := by simp [uw, us_len]
  have hasc := uw_asc (r := r) (by (first | assumption | exact Nat.le_trans (by assumption) (by decide) | exact Int.le_trans (by assumption) (by decide) | exact Nat.lt_of_lt_of_le (by assumption) (by assumption) | exact Nat.le_trans (by assumption) (by assumption) | exact Nat.lt_of_lt_of_le (by assumption) (by decide)))
  have hpos : ∀ v ∈ uw r, 1 ≤ v := fun v hv => by have := uw_pos v hv; (first | assumption | exact Nat.le_trans (by assumption) (by decide) | exact Int.le_trans (by assumption) (by decide) | exact Nat.lt_of_lt_of_le (by assumption) (by assumption) | exact Nat.le_trans (by assumption) (by assumption) | exact Nat.lt_of_lt_of_le (by assumption) (by decide))
  have hcost := t.cost h0
  have hfew := few_low hasc hpos (by (first | lia | omega)) (by (first | lia | omega)) hl8 (lim_ok (L := L)) t.opt.len t.opt.va
  rw [hcost] at hfew
  have hroom2 : (uw r).length ≤ 2 ^ ll L := by
    rw [hwl]
    unfold ll
    rcases hroom with rfl | h
    · rw [if_pos rfl]; (first | lia | omega)
    · split
      · (first | lia | omega)
      · exact h
  obtain ⟨a0, u0⟩ : ∃ a, (uw r)[0]? = some a := ⟨_, List.getElem?_eq_getElem (by (first | lia | omega) : 0 < (uw r).length)⟩
  obtain ⟨a1, u1⟩ : ∃ a, (uw r)[1]? = some a := ⟨_, List.getElem?_eq_getElem (by (first | lia | omega) : 1 < (uw r).length)⟩
  obtain ⟨al, ul⟩ : ∃ a, (uw r)[(uw r).length - 1]? = some a := ⟨_, List.getElem?_eq_getElem (by (first | lia | omega) : (uw r).length - 1 < (uw r).length)⟩
  have hnear := near_facts hasc hpos (by (first | lia | omega)) (by (first | lia | omega)) hl8 hroom2 t.opt u0 u1 ul
  rw [hcost] at hnear
  obtain ⟨n1, n2, n3⟩ := hnear
  refine ⟨lens, e, t, total_spec h0 hn t.len (fun i hi hp => ⟨b.val.pos h2 hi hp, by have := b.le i hi hp; (first | lia | omega)⟩), row_right_spec hn (by (first | lia | omega)) u0 u1 ul hfew.1 hfew.2 n1 n2 fun h => ?_⟩
  by_cases c : (uw r).length ≠ 4 ∧ (uw r).length ≠ 8
  · exact .inr (.inl c)
  · have h48 : (uw r).length = 4 ∨ (uw r).length = 8 := by (first | lia | omega)
    by_cases cs : shortN (uw r).length < ll L
    · exact .inl (n3 h h48 cs)
    · refine .inr (.inr ?_)
      unfold ll at cs
      unfold limV
      rcases h48 with h | h
      · rw [h] at cs ⊢
        have e1 : shortN 4 = 2 := rfl
        have e2 : sameN ((4 : Nat) : Int) = 2 := rfl
        rw [e1] at cs
        rw [e2]
        split at cs <;> (first | lia | omega)
      · rw [h] at cs ⊢
        have e1 : shortN 8 = 3 := rfl
        have e2 : sameN ((8 : Nat) : Int) = 3 := rfl
        rw [e1] at cs
        rw [e2]
        split at cs <;> (first | lia | omega)
end Mine
end

section
set_option autoImplicit false
namespace Mine
open PySem

theorem comp_map {α : Type} (enc : α → List D) (g : α → D) {tgi : List Nat} {Fe : Ev} (J : St → Prop) : ∀ (l : List α), (∀ a ∈ l, ∀ σ, J σ → ∃ τ σ2, bindE (tgi.zip ((enc a).map .sh)) σ = some τ ∧ Fe τ = some (g a, σ2) ∧ J σ2) → ∀ σ, J σ → compGo tgi xTrue Fe (l.map enc) σ = some (l.map g)
  | [], _, σ, _ => rfl
  | a :: l, h, σ, hJ => by
    obtain ⟨τ, σ2, e1, e2, hJ2⟩ := h a List.mem_cons_self σ hJ
    have ih := comp_map enc g J l (fun b hb => h b (List.mem_cons_of_mem _ hb)) σ2 hJ2
    simp only [List.map_cons, compGo, e1, Option.bind_some, xTrue, e2]
    rw [ih]
    rfl
theorem comp_none {α : Type} (enc : α → List D) {tgi : List Nat} {T Fe : Ev} (J : St → Prop) : ∀ (l : List α), (∀ a ∈ l, ∀ σ, J σ → ∃ τ σ1, bindE (tgi.zip ((enc a).map .sh)) σ = some τ ∧ T τ = some (.bool false, σ1) ∧ J σ1) → ∀ σ, J σ → compGo tgi T Fe (l.map enc) σ = some []
  | [], _, σ, _ => rfl
  | a :: l, h, σ, hJ => by
    obtain ⟨τ, σ1, e1, e2, hJ2⟩ := h a List.mem_cons_self σ hJ
    have ih := comp_none enc (Fe := Fe) J l (fun b hb => h b (List.mem_cons_of_mem _ hb)) σ1 hJ2
    simp only [List.map_cons, compGo, e1, Option.bind_some, e2]
    exact ih
theorem xcomp_eq {S : EvI} {fm : List (Nat × Nat)} {tgi : List Nat} {T Fe : Ev} {σ : St} {rows : List (List D)} {l : List D} (hS : S σ = some (rows, σ)) (hl : rows.length ≤ 1048576) (hc : compGo tgi T Fe rows (inner fm σ) = some l) : xComp S fm tgi T Fe σ = some (.list l, σ) := by
  unfold xComp
  rw [hS]
  simp only [Option.bind_some]
  rw [if_pos hl, hc]
  rfl
noncomputable def lensD (Ls : List (List Nat)) : List D := Ls.map fun l => .list (din l)
theorem one_rows (E : List (List Int)) : one (rowsD E) = E.map fun r => [.list (di r)] := by simp [one, rowsD, Function.comp_def]
theorem zip_rows_lens (E : List (List Int)) (f : List Int → List Nat) : zipD (rowsD E) (lensD (E.map f)) = E.map fun r => [.list (di r), .list (din (f r))] := by
  induction E with
  | nil => rfl
  | cons r E ih =>
    simp only [zipD, rowsD, lensD, List.map_cons, List.zip_cons_cons] at ih ⊢
    rw [ih]
theorem zip_rows_ints (E : List (List Int)) (t : List Int → Int) : zipD (rowsD E) (di (E.map t)) = E.map fun r => [.list (di r), .int (t r)] := by
  induction E with
  | nil => rfl
  | cons r E ih =>
    simp only [zipD, rowsD, di, List.map_cons, List.zip_cons_cons] at ih ⊢
    rw [ih]
theorem one_rng (n : Nat) : one (di (rngI 0 n 1)) = (List.range n).map fun i : Nat => [D.int i] := by
  have hl : (rngI 0 n 1).length = n := by rw [rng1_len (by (first | lia | omega))]; (first | lia | omega)
  apply List.ext_getElem?
  intro k
  by_cases c : k < n
  · obtain ⟨x, hx⟩ : ∃ x, (rngI 0 n 1)[k]? = some x := ⟨_, List.getElem?_eq_getElem (by (first | lia | omega))⟩
    obtain ⟨rfl, _⟩ := rng1_get hx
    simp [one, di, hx, c]
  · rw [List.getElem?_eq_none (by rw [one_len, di_len]; (first | lia | omega)), List.getElem?_eq_none (by simp; (first | lia | omega))]
theorem rows_nth {R : List (List Int)} {k : Nat} {r : List Int} (h : R[k]? = some r) (hl : R.length ≤ 1048576) : nthD (.list (rowsD R)) (.int k) = some (.list (di r)) := by
  simp only [nthD, rowsD_len]
  rw [if_pos hl, if_pos (by (first | lia | omega))]
  simp [rowsD, h]
theorem ints_nth {l : List Int} {k : Nat} {x : Int} (h : l[k]? = some x) (hl : l.length ≤ 1048576) : nthD (.list (di l)) (.int k) = some (.int x) := by
  have := nth_pos (List.getElem?_eq_some_iff.mp h).1 hl
  rw [List.getD_eq_getElem?_getD, h] at this
  exact this
theorem enum_get {l : List D} {k : Nat} {row : List D} (h : (enumD l)[k]? = some row) : ∃ d, l[k]? = some d ∧ row = [.int k, d] := by
  unfold enumD at h
  simp only [List.getElem?_map, Option.map_eq_some_iff] at h
  obtain ⟨⟨a, b⟩, h1, rfl⟩ := h
  obtain ⟨h2, h3⟩ := List.getElem?_zip_eq_some.mp h1
  obtain ⟨_, rfl⟩ := List.getElem?_eq_some_iff.mp h2
  exact ⟨b, h3, by (first | rfl | simp)⟩
theorem moves_get {M : List (Nat × Nat)} {k : Nat} {d : D} (h : (movesD M)[k]? = some d) : ∃ a b, M[k]? = some (a, b) ∧ d = .list [.int (a : Nat), .int (b : Nat)] := by
  simp only [movesD, List.getElem?_map, Option.map_eq_some_iff] at h
  obtain ⟨⟨a, b⟩, h1, rfl⟩ := h
  exact ⟨a, b, h1, rfl⟩
theorem take_two {α : Type} {l : List α} {k : Nat} {x y : α} (h1 : l[k]? = some x) (h2 : l[k + 1]? = some y) : (l.drop k).take 2 = [x, y] := by
  obtain ⟨g1, e1⟩ := List.getElem?_eq_some_iff.mp h1
  obtain ⟨g2, e2⟩ := List.getElem?_eq_some_iff.mp h2
  rw [List.drop_eq_getElem_cons g1, List.drop_eq_getElem_cons g2, e1, e2]
  rfl
theorem lens_run {Ls : List (List Nat)} {k : Nat} {A B : List Nat} (h1 : Ls[k]? = some A) (h2 : Ls[k + 1]? = some B) (hl : Ls.length ≤ 1000) : runD (.list (lensD Ls)) (.int k) (.int ((k : Int) + 2)) = some (.list [.list (din A), .list (din B)]) := by
  have hlen : (lensD Ls).length = Ls.length := by simp [lensD]
  have g2 := (List.getElem?_eq_some_iff.mp h2).1
  simp only [runD, hlen]
  rw [if_pos ⟨by (first | lia | omega), by (first | lia | omega), by (first | lia | omega), by (first | assumption | exact Nat.le_trans (by assumption) (by decide) | exact Int.le_trans (by assumption) (by decide) | exact Nat.lt_of_lt_of_le (by assumption) (by assumption) | exact Nat.le_trans (by assumption) (by assumption) | exact Nat.lt_of_lt_of_le (by assumption) (by decide))⟩]
  have e1 : ((k : Int) + 2).toNat - ((k : Int)).toNat = 2 := by (first | lia | omega)
  have e2 : ((k : Int)).toNat = k := by (first | lia | omega)
  rw [e1, e2]
  have := take_two (l := lensD Ls) (k := k) (x := .list (din A)) (y := .list (din B)) (by simp [lensD, h1]) (by simp [lensD, h2])
  rw [this]
end Mine
end

section
set_option autoImplicit false
namespace Mine
open PySem

noncomputable def r1 : Ex := yTup [4, 5] (eSh (xB1 bLen (bGen (xVar 2))) (eSh (xB1 bSum (bGen (xSub (bGen (xVar 0)) (xInt 0)))) eNil))
noncomputable def r2 : Ex := ySet 6 (xComp (iRng (xB1 bRng1 (bGen (xVar 4)))) [(1, 5), (2, 4)] [0] xTrue (xBin oAdd (xBin oDiv (xVar 1) (xVar 2)) (xB1 bInt (bGen (xBin cLt (xVar 0) (xBin oMod (xVar 1) (xVar 2)))))))
noncomputable def r3 : Ex := ySet 7 (xBin oAdd (xBin oMul (xList (xCons (xInt 1) xNil)) (xBin oSub (xVar 4) (xInt 1))) (xList (xCons (xBin oAdd (xBin oSub (xVar 5) (xVar 4)) (xInt 1)) xNil)))
noncomputable def r4 : Ex := ySet 8 (xBin oAdd (xVar 0) (xList (xCons (xCall g_law_evener (xCons (xSub (bGen (xVar 0)) (xInt 0)) (xCons (xVar 2) xNil))) (xCons (xVar 2) (xCons (xVar 6) (xCons (xVar 7) xNil))))))
noncomputable def r5 : Ex := ySet 9 (xComp (iList (xVar 8)) [(1, 3)] [0] xTrue (xCall g_law_told (xCons (xVar 0) (xCons (xVar 1) xNil))))
noncomputable def r6 : Ex := ySet 10 (xComp (iZip (xCons (xVar 8) (xCons (xVar 9) xNil))) [] [0, 1] xTrue (xCall g_total_bits (xCons (xVar 0) (xCons (xVar 1) xNil))))
noncomputable def r7 : Ev := xBin cNe (xComp (iZip (xCons (xVar 8) (xCons (xVar 10) xNil))) [(2, 3)] [0, 1] (xNot (xCall g_law_row_right (xCons (xVar 0) (xCons (xVar 1) (xCons (xVar 2) xNil))))) (xVar 0)) (xList xNil)
noncomputable def r8 : Ex := ySeq (yIf (xNot (xCall g_law_move_right (xCons (xSub (bGen (xVar 0)) (xBin oAdd (xVar 11) (xInt 1))) (xCons (xVar 12) (xCons (xRun (bGen (xVar 9)) (xVar 11) (xBin oAdd (xVar 11) (xInt 2))) (xCons (xBin oSub (xSub (bGen (xVar 10)) (xVar 11)) (xSub (bGen (xVar 10)) (xBin oAdd (xVar 11) (xInt 1)))) xNil)))))) (ySeq (yRet (xBool false)) yNil) yNil) yNil
noncomputable def r9 : Ex := yUnp [13, 14, 15, 16] (xFrom (bGen (xVar 10)) (xB1 bLen (bGen (xVar 0))))
noncomputable def r10 : Ev := xBin cNe (xVar 16) (xCall g_law_fewest (xCons (xVar 4) (xCons (xVar 5) (xCons (xIf (xBin cGt (xVar 3) (xInt 0)) (xVar 3) (xBin oSub (xVar 4) (xInt 1))) xNil))))
noncomputable def r11 : Ev := xAnd (xChn cLe cLe (xVar 16) (xSub (bGen (xVar 10)) (xInt 0)) (xVar 15)) (xBin cGe (xVar 13) (xB2 bMax2 (xCons (xSub (bGen (xVar 10)) (xInt 0)) (xCons (xVar 14) xNil))))
theorem f_right_eq : f_law_right = ySeq r1 (ySeq r2 (ySeq r3 (ySeq r4 (ySeq r5 (ySeq r6 (ySeq (yIf r7 (ySeq (yRet (xBool false)) yNil) yNil) (ySeq (yFor (iEnum (xVar 1)) [11, 12] r8) (ySeq r9 (ySeq (yIf r10 (ySeq (yRet (xBool false)) yNil) yNil) (ySeq (yRet r11) yNil)))))))))) := rfl

/-- the evenest row -/
noncomputable def evr (n : Nat) (W : Int) : List Int := (List.range n).map fun i : Nat => W.fdiv n + (if decide ((i : Int) < W.fmod n) = true then 1 else 0)
noncomputable def str (n : Nat) (W : Int) : List Int := List.replicate (n - 1) 1 ++ [W - n + 1]

theorem r2_eq {n : Nat} {W : Int} (h1 : 1 ≤ n) (h9 : n ≤ 9) {σ : St} (s4 : σ 4 = .sh (.int n)) (s5 : σ 5 = .sh (.int W)) : r2 σ = some (.nxt, upd σ 6 (.sh (.list (di (evr n W))))) := by
  have near0 : near 0 := by decide
  have nearn : near (n : Int) := ⟨by (first | lia | omega), by (first | lia | omega)⟩
  have smn : small (n : Int) := ⟨by (first | lia | omega), by (first | lia | omega)⟩
  have n0 : (n : Int) ≠ 0 := by (first | lia | omega)
  have hS : iRng (xB1 bRng1 (bGen (xVar 4))) σ = some ((List.range n).map fun i : Nat => [D.int i], σ) := by
    unfold iRng
    simp [s4, bRng1, near0, nearn, one_rng]
  have hJ : (fun τ : St => τ 1 = .sh (.int W) ∧ τ 2 = .sh (.int n)) (inner [(1, 5), (2, 4)] σ) := ⟨by simp [inner, List.lookup, s5, shc], by simp [inner, List.lookup, s4, shc]⟩
  have hc := comp_map (tgi := [0]) (Fe := xBin oAdd (xBin oDiv (xVar 1) (xVar 2)) (xB1 bInt (bGen (xBin cLt (xVar 0) (xBin oMod (xVar 1) (xVar 2)))))) (fun i : Nat => [D.int i]) (fun i : Nat => D.int (W.fdiv n + (if decide ((i : Int) < W.fmod n) = true then 1 else 0))) (fun τ : St => τ 1 = .sh (.int W) ∧ τ 2 = .sh (.int n)) (List.range n) (fun i _ τ ⟨t1, t2⟩ => by
    have hd : oDiv (.int W) (.int n) = some (.int (W.fdiv n)) := by simp only [oDiv]; rw [if_pos ⟨n0, smn⟩]
    have hm : oMod (.int W) (.int n) = some (.int (W.fmod n)) := by simp only [oMod]; rw [if_pos n0]
    have hlt : cLt (.int (i : Int)) (.int (W.fmod n)) = some (.bool (decide ((i : Int) < W.fmod n))) := rfl
    have hi : ∀ c : Bool, bInt (.bool c) = some (.int (if c = true then 1 else 0)) := fun c => by cases c <;> rfl
    refine ⟨upd τ 0 (.sh (.int i)), upd τ 0 (.sh (.int i)), rfl, ?_, by (first | exact t1 | simp [t1]), by (first | exact t2 | simp [t2])⟩
    generalize decide ((i : Int) < W.fmod n) = c at *
    simp [t1, t2, hd, hm, hlt, hi, oAdd]) _ hJ
  unfold r2
  rw [y_set, xcomp_eq hS (by simp; (first | assumption | exact Nat.le_trans (by assumption) (by decide) | exact Int.le_trans (by assumption) (by decide) | exact Nat.lt_of_lt_of_le (by assumption) (by assumption) | exact Nat.le_trans (by assumption) (by assumption) | exact Nat.lt_of_lt_of_le (by assumption) (by decide))) hc]
  simp [evr, di, Function.comp_def]

theorem r3_eq {n : Nat} {W : Int} (h1 : 1 ≤ n) (h9 : n ≤ 9) {σ : St} (s4 : σ 4 = .sh (.int n)) (s5 : σ 5 = .sh (.int W)) : r3 σ = some (.nxt, upd σ 7 (.sh (.list (di (str n W))))) := by
  obtain ⟨k, rfl⟩ : ∃ k, n = k + 1 := ⟨n - 1, by (first | lia | omega)⟩
  have e : ((k + 1 : Nat) : Int) - 1 = (k : Nat) := by (first | lia | omega)
  have smk : small (k : Int) := ⟨by (first | lia | omega), by (first | lia | omega)⟩
  have hm : oMul (.list [.int 1]) (.int (k : Nat)) = some (.list (di (List.replicate k 1))) := by
    have ek : ((k : Nat) : Int).toNat = k := by (first | lia | omega)
    simp only [oMul, ek]
    rw [if_pos ⟨by simp; (first | lia | omega), smk⟩]
    congr 2
    clear e smk ek h1 h9 s4
    induction k with
    | zero => rfl
    | succ k ih => rw [List.replicate_succ, List.flatten_cons, ih, List.replicate_succ]; rfl
  have ha : ∀ x : Int, oAdd (.list (di (List.replicate k 1))) (.list [.int x]) = some (.list (di (List.replicate k 1 ++ [x]))) := fun x => by
    simp only [oAdd]
    rw [if_pos (by rw [di_len]; simp; (first | lia | omega))]
    simp [di]
  have hs : oSub (.int ((k + 1 : Nat) : Int)) (.int 1) = some (.int (k : Nat)) := by simp only [oSub, e]
  have hstr : str (k + 1) W = List.replicate k 1 ++ [W - ((k + 1 : Nat) : Int) + 1] := rfl
  rw [hstr]
  unfold r3
  generalize ((k + 1 : Nat) : Int) = z at *
  have hs2 : oSub (.int W) (.int z) = some (.int (W - z)) := rfl
  have ha2 : oAdd (.int (W - z)) (.int 1) = some (.int (W - z + 1)) := rfl
  simp [s4, s5, hs, hm, ha, hs2, ha2]

theorem r4_eq {R : List (List Int)} {cs ev other even steep : List Int} (hR : R.length ≤ 50) (h0 : R[0]? = some cs) (hev : g_law_evener [.list (di cs), .list (di other)] = some (.list (di ev))) {σ : St} (s0 : σ 0 = .sh (.list (rowsD R))) (s2 : σ 2 = .sh (.list (di other))) (s6 : σ 6 = .sh (.list (di even))) (s7 : σ 7 = .sh (.list (di steep))) :
    r4 σ = some (.nxt, upd σ 8 (.sh (.list (rowsD (R ++ [ev, other, even, steep]))))) := by
  have hn := rows_nth h0 (by (first | assumption | exact Nat.le_trans (by assumption) (by decide) | exact Int.le_trans (by assumption) (by decide) | exact Nat.lt_of_lt_of_le (by assumption) (by assumption) | exact Nat.le_trans (by assumption) (by assumption) | exact Nat.lt_of_lt_of_le (by assumption) (by decide)))
  simp only [Int.natCast_zero] at hn
  have ha : oAdd (.list (rowsD R)) (.list [.list (di ev), .list (di other), .list (di even), .list (di steep)]) = some (.list (rowsD (R ++ [ev, other, even, steep]))) := by
    simp only [oAdd]
    rw [if_pos (by rw [rowsD_len]; simp; (first | assumption | exact Nat.le_trans (by assumption) (by decide) | exact Int.le_trans (by assumption) (by decide) | exact Nat.lt_of_lt_of_le (by assumption) (by assumption) | exact Nat.le_trans (by assumption) (by assumption) | exact Nat.lt_of_lt_of_le (by assumption) (by decide)))]
    simp [rowsD]
  unfold r4
  simp [s0, s2, s6, s7, hn, hev, ha]

theorem r5_eq {E : List (List Int)} {L : Nat} {f : List Int → List Nat} (hE : E.length ≤ 100) (h : ∀ r ∈ E, RowAll L r (f r)) {σ : St} (s8 : σ 8 = .sh (.list (rowsD E))) (s3 : σ 3 = .sh (.int L)) : r5 σ = some (.nxt, upd σ 9 (.sh (.list (lensD (E.map f))))) := by
  have hS : iList (xVar 8) σ = some (E.map fun r => [.list (di r)], σ) := by
    unfold iList
    simp [s8, list?, one_rows]
  have hJ : (fun τ : St => τ 1 = .sh (.int L)) (inner [(1, 3)] σ) := by simp [inner, List.lookup, s3, shc]
  have hc := comp_map (tgi := [0]) (Fe := xCall g_law_told (xCons (xVar 0) (xCons (xVar 1) xNil))) (fun r => [D.list (di r)]) (fun r => D.list (din (f r))) (fun τ : St => τ 1 = .sh (.int L)) E (fun r hr τ t1 => by
    have e := (h r hr).e1
    exact ⟨upd τ 0 (.sh (.list (di r))), upd τ 0 (.sh (.list (di r))), rfl, by simp [t1, e], by (first | exact t1 | simp [t1])⟩) _ hJ
  unfold r5
  rw [y_set, xcomp_eq hS (by simp; (first | lia | omega)) hc]
  simp [lensD, Function.comp_def]
theorem r6_eq {E : List (List Int)} {L : Nat} {f : List Int → List Nat} (hE : E.length ≤ 100) (h : ∀ r ∈ E, RowAll L r (f r)) {σ : St} (s8 : σ 8 = .sh (.list (rowsD E))) (s9 : σ 9 = .sh (.list (lensD (E.map f)))) : r6 σ = some (.nxt, upd σ 10 (.sh (.list (di (E.map fun r => dot r (f r)))))) := by
  have hS : iZip (xCons (xVar 8) (xCons (xVar 9) xNil)) σ = some (E.map fun r => [.list (di r), .list (din (f r))], σ) := by
    unfold iZip
    simp [s8, s9, zip_rows_lens]
  have hc := comp_map (tgi := [0, 1]) (Fe := xCall g_total_bits (xCons (xVar 0) (xCons (xVar 1) xNil))) (fun r => [D.list (di r), D.list (din (f r))]) (fun r => D.int (dot r (f r))) (fun _ => True) E (fun r hr τ _ => by
    have e := (h r hr).e2
    exact ⟨upd (upd τ 0 (.sh (.list (di r)))) 1 (.sh (.list (din (f r)))), upd (upd τ 0 (.sh (.list (di r)))) 1 (.sh (.list (din (f r)))), rfl, by (first | exact e | simp [e]), trivial⟩) (inner [] σ) trivial
  unfold r6
  rw [y_set, xcomp_eq hS (by simp; (first | lia | omega)) hc]
  simp [di, Function.comp_def]
theorem r7_eq {E : List (List Int)} {L : Nat} {f : List Int → List Nat} (hE : E.length ≤ 100) (h : ∀ r ∈ E, RowAll L r (f r)) {σ : St} (s8 : σ 8 = .sh (.list (rowsD E))) (s10 : σ 10 = .sh (.list (di (E.map fun r => dot r (f r))))) (s3 : σ 3 = .sh (.int L)) : r7 σ = some (.bool false, σ) := by
  have hS : iZip (xCons (xVar 8) (xCons (xVar 10) xNil)) σ = some (E.map fun r => [.list (di r), .int (dot r (f r))], σ) := by
    unfold iZip
    simp [s8, s10, zip_rows_ints]
  have hJ : (fun τ : St => τ 2 = .sh (.int L)) (inner [(2, 3)] σ) := by simp [inner, List.lookup, s3, shc]
  have hc := comp_none (tgi := [0, 1]) (T := xNot (xCall g_law_row_right (xCons (xVar 0) (xCons (xVar 1) (xCons (xVar 2) xNil))))) (Fe := xVar 0) (fun r => [D.list (di r), D.int (dot r (f r))]) (fun τ : St => τ 2 = .sh (.int L)) E (fun r hr τ t1 => by
    have e := (h r hr).e3
    exact ⟨upd (upd τ 0 (.sh (.list (di r)))) 1 (.sh (.int (dot r (f r)))), upd (upd τ 0 (.sh (.list (di r)))) 1 (.sh (.int (dot r (f r)))), rfl, by simp [t1, e], by (first | exact t1 | simp [t1])⟩) _ hJ
  unfold r7
  rw [e_bin, xcomp_eq hS (by simp; (first | lia | omega)) hc]
  simp [cNe]
end Mine
end

section
set_option autoImplicit false
namespace Mine
open PySem

theorem r8_step {R : List (List Int)} {Ls : List (List Nat)} {Ts : List Int} {k a b : Nat} {r' : List Int} {A B : List Nat} {x y : Int} (hR : R.length ≤ 50) (hL : Ls.length ≤ 50) (hT : Ts.length ≤ 50) (e2 : R[k + 1]? = some r') (l1 : Ls[k]? = some A) (l2 : Ls[k + 1]? = some B) (t1 : Ts[k]? = some x) (t2 : Ts[k + 1]? = some y)
    (hm : g_law_move_right [.list (di r'), .list [.int (a : Nat), .int (b : Nat)], .list [.list (din A), .list (din B)], .int (x - y)] = some (.bool true)) {σ : St} (s0 : σ 0 = .sh (.list (rowsD R))) (s9 : σ 9 = .sh (.list (lensD Ls))) (s10 : σ 10 = .sh (.list (di Ts))) (s11 : σ 11 = .sh (.int k)) (s12 : σ 12 = .sh (.list [.int (a : Nat), .int (b : Nat)])) : r8 σ = some (.nxt, σ) := by
  have n1 := rows_nth e2 (by (first | lia | omega))
  have n2 := lens_run l1 l2 (by (first | assumption | exact Nat.le_trans (by assumption) (by decide) | exact Int.le_trans (by assumption) (by decide) | exact Nat.lt_of_lt_of_le (by assumption) (by assumption) | exact Nat.le_trans (by assumption) (by assumption) | exact Nat.lt_of_lt_of_le (by assumption) (by decide)))
  have n3 := ints_nth t1 (by (first | lia | omega))
  have n4 := ints_nth t2 (by (first | lia | omega))
  have ha : oAdd (.int (k : Int)) (.int 1) = some (.int ((k + 1 : Nat) : Int)) := by simp [oAdd]
  have hb : oAdd (.int (k : Int)) (.int 2) = some (.int ((k : Int) + 2)) := rfl
  have hs : oSub (.int x) (.int y) = some (.int (x - y)) := rfl
  unfold r8
  have hrun : xRun (bGen (xVar 9)) (xVar 11) (xBin oAdd (xVar 11) (xInt 2)) σ = some (.list [.list (din A), .list (din B)], σ) := by
    unfold xRun
    simp [s9, s11, hb, n2]
  generalize ((k + 1 : Nat) : Int) = z at *
  simp [s0, s10, s11, s12, n1, n3, n4, ha, hs, hrun, hm]
theorem r8_loop {R : List (List Int)} {Ls : List (List Nat)} {Ts : List Int} {M : List (Nat × Nat)} (hR : R.length ≤ 50) (hL : Ls.length ≤ 50) (hT : Ts.length ≤ 50)
    (h : ∀ k a b, M[k]? = some (a, b) → ∃ r' A B x y, R[k + 1]? = some r' ∧ Ls[k]? = some A ∧ Ls[k + 1]? = some B ∧ Ts[k]? = some x ∧ Ts[k + 1]? = some y ∧ g_law_move_right [.list (di r'), .list [.int (a : Nat), .int (b : Nat)], .list [.list (din A), .list (din B)], .int (x - y)] = some (.bool true))
    {σ : St} (s0 : σ 0 = .sh (.list (rowsD R))) (s1 : σ 1 = .sh (.list (movesD M))) (s9 : σ 9 = .sh (.list (lensD Ls))) (s10 : σ 10 = .sh (.list (di Ts))) :
    ∃ σ', yFor (iEnum (xVar 1)) [11, 12] r8 σ = some (.nxt, σ') ∧ ∀ j, j ≠ 11 → j ≠ 12 → σ' j = σ j := by
  obtain ⟨σ', e, hj⟩ := for_loop (tgi := [11, 12]) (rows := enumD (movesD M)) (Bd := r8) (fun _ τ => ∀ j, j ≠ 11 → j ≠ 12 → τ j = σ j) (fun k row τ hr hI => by
    obtain ⟨d, hd, rfl⟩ := enum_get hr
    obtain ⟨a, b, hab, rfl⟩ := moves_get hd
    obtain ⟨r', A, B, x, y, g1, g2, g3, g4, g5, g6⟩ := h k a b hab
    refine ⟨upd (upd τ 11 (.sh (.int k))) 12 (.sh (.list [.int (a : Nat), .int (b : Nat)])), _, rfl, r8_step hR hL hT g1 g2 g3 g4 g5 g6 ?_ ?_ ?_ ?_ ?_, fun j h1 h2 => ?_⟩
    · simp [hI 0, s0]
    · simp [hI 9, s9]
    · simp [hI 10, s10]
    · simp
    · simp
    · simp [h1, h2, hI j h1 h2]) (σ := σ) (fun j _ _ => rfl)
  refine ⟨σ', ?_, hj⟩
  rw [f_for]
  have : iEnum (xVar 1) σ = some (enumD (movesD M), σ) := by
    unfold iEnum
    simp [s1, list?]
  rw [this]
  simp only [Option.bind_some]
  exact e

theorem r9_eq {R : List (List Int)} {T0 : List Int} {w x y z : Int} (hR : R.length ≤ 50) (hT : T0.length = R.length) {σ : St} (s0 : σ 0 = .sh (.list (rowsD R))) (s10 : σ 10 = .sh (.list (di (T0 ++ [w, x, y, z])))) :
    r9 σ = some (.nxt, upd (upd (upd (upd σ 13 (.sh (.int w))) 14 (.sh (.int x))) 15 (.sh (.int y))) 16 (.sh (.int z))) := by
  have hl : bLen (.list (rowsD R)) = some (.int R.length) := by
    simp only [bLen, rowsD_len]; rw [if_pos (by (first | lia | omega))]
  have hf : fromD (.list (di (T0 ++ [w, x, y, z]))) (.int R.length) = some (.list (di [w, x, y, z])) := by
    simp only [fromD]
    rw [if_pos ⟨by (first | lia | omega), by rw [di_len]; simp; (first | lia | omega)⟩, di_drop]
    have e : ((R.length : Nat) : Int).toNat = T0.length := by (first | lia | omega)
    rw [e]
    simp
  unfold r9
  simp [s0, s10, hl, hf]
  exact ⟨rfl, rfl⟩
theorem r10_eq {n L : Nat} {W F : Int} (hF : g_law_fewest [.int n, .int W, .int (limV L n)] = some (.int F)) {σ : St} (s3 : σ 3 = .sh (.int L)) (s4 : σ 4 = .sh (.int n)) (s5 : σ 5 = .sh (.int W)) (s16 : σ 16 = .sh (.int F)) : r10 σ = some (.bool false, σ) := by
  have hlim : (xIf (xBin cGt (xVar 3) (xInt 0)) (xVar 3) (xBin oSub (xVar 4) (xInt 1))) σ = some (.int (limV L n), σ) := by
    unfold limV
    by_cases c : 0 < L
    · have g : cGt (.int (L : Int)) (.int 0) = some (.bool true) := by
        simp only [cGt]; rw [decide_eq_true (by (first | lia | omega))]
      simp [s3, g, c]
    · have g : cGt (.int (L : Int)) (.int 0) = some (.bool false) := by
        simp only [cGt]; rw [decide_eq_false (by (first | lia | omega))]
      simp [s3, s4, g, c, oSub]
  have hc : cNe (.int F) (.int F) = some (.bool false) := by simp [cNe]
  unfold r10
  rw [e_bin]
  simp only [e_var, s16, Option.bind_some, e_call, e_cons, s4, s5, hlim, e_nil, Option.map_some, hF, hc]
theorem r11_eq {Ts : List Int} {t0 w x y z : Int} (h0 : Ts[0]? = some t0) (hT : Ts.length ≤ 50) (h1 : z ≤ t0) (h2 : t0 ≤ y) (h3 : t0 ≤ w) (h4 : x ≤ w) {σ : St} (s10 : σ 10 = .sh (.list (di Ts))) (s13 : σ 13 = .sh (.int w)) (s14 : σ 14 = .sh (.int x)) (s15 : σ 15 = .sh (.int y)) (s16 : σ 16 = .sh (.int z)) : r11 σ = some (.bool true, σ) := by
  have n0 := ints_nth h0 (by (first | assumption | exact Nat.le_trans (by assumption) (by decide) | exact Int.le_trans (by assumption) (by decide) | exact Nat.lt_of_lt_of_le (by assumption) (by assumption) | exact Nat.le_trans (by assumption) (by assumption) | exact Nat.lt_of_lt_of_le (by assumption) (by decide)))
  simp only [Int.natCast_zero] at n0
  have c1 : cLe (.int z) (.int t0) = some (.bool true) := by simp only [cLe]; rw [decide_eq_true h1]
  have c2 : cLe (.int t0) (.int y) = some (.bool true) := by simp only [cLe]; rw [decide_eq_true h2]
  have hm : bMax2 (.int t0) (.int x) = some (.int (mx t0 x)) := rfl
  have hmx : mx t0 x ≤ w := by
    have := mx_spec t0 x
    (first | lia | omega)
  have c3 : cGe (.int w) (.int (mx t0 x)) = some (.bool true) := by simp only [cGe]; rw [decide_eq_true hmx]
  unfold r11 xChn
  simp [s10, s13, s14, s15, s16, n0, c1, c2, hm, c3]

theorem right_eval {R : List (List Int)} {M : List (Nat × Nat)} {cs ev other : List Int} {L : Nat} {f : List Int → List Nat} (h3 : 1 ≤ other.length) (h9 : other.length ≤ 9) (hR : R.length ≤ 20) (h0 : R[0]? = some cs)
    (hev : g_law_evener [.list (di cs), .list (di other)] = some (.list (di ev)))
    (hE : ∀ r ∈ R ++ [ev, other, evr other.length cs.sum, str other.length cs.sum], RowAll L r (f r))
    (hmv : ∀ k a b, M[k]? = some (a, b) → ∃ r r', R[k]? = some r ∧ R[k + 1]? = some r' ∧ g_law_move_right [.list (di r'), .list [.int (a : Nat), .int (b : Nat)], .list [.list (din (f r)), .list (din (f r'))], .int (dot r (f r) - dot r' (f r'))] = some (.bool true))
    (hfew : g_law_fewest [.int other.length, .int cs.sum, .int (limV L other.length)] = some (.int (dot (str other.length cs.sum) (f (str other.length cs.sum)))))
    (g1 : dot (str other.length cs.sum) (f (str other.length cs.sum)) ≤ dot cs (f cs)) (g2 : dot cs (f cs) ≤ dot (evr other.length cs.sum) (f (evr other.length cs.sum))) (g3 : dot cs (f cs) ≤ dot ev (f ev)) (g4 : dot other (f other) ≤ dot ev (f ev)) :
    g_law_right [.list (rowsD R), .list (movesD M), .list (di other), .int L] = some (.bool true) := by
  generalize hW : cs.sum = W at *
  generalize hn : other.length = n at *
  generalize hev2 : evr n W = even at *
  generalize hst2 : str n W = steep at *
  have hn0 := rows_nth h0 (by (first | assumption | exact Nat.le_trans (by assumption) (by decide) | exact Int.le_trans (by assumption) (by decide) | exact Nat.lt_of_lt_of_le (by assumption) (by assumption) | exact Nat.le_trans (by assumption) (by assumption) | exact Nat.lt_of_lt_of_le (by assumption) (by decide)))
  simp only [Int.natCast_zero] at hn0
  have hlo := len_spec (l := other) (by (first | lia | omega))
  rw [hn] at hlo
  have hsum : bSum (.list (di cs)) = some (.int W) := by simp only [bSum, ints?_of_di, Option.map_some, hW]
  generalize hσ0 : initS [.list (rowsD R), .list (movesD M), .list (di other), .int L] = σ0
  have a0 : σ0 0 = .sh (.list (rowsD R)) := by first | exact (congrFun hσ0.symm _).trans rfl | (rw [← hσ0]; simp)
  have a1 : σ0 1 = .sh (.list (movesD M)) := by first | exact (congrFun hσ0.symm _).trans rfl | (rw [← hσ0]; simp)
  have a2 : σ0 2 = .sh (.list (di other)) := by first | exact (congrFun hσ0.symm _).trans rfl | (rw [← hσ0]; simp)
  have a3 : σ0 3 = .sh (.int L) := by first | exact (congrFun hσ0.symm _).trans rfl | (rw [← hσ0]; simp)
  have e1 : r1 σ0 = some (.nxt, upd (upd σ0 4 (.sh (.int n))) 5 (.sh (.int W))) := by
    unfold r1
    simp [a0, a2, hn0, hlo, hsum]
  have e2 := r2_eq (n := n) (W := W) (σ := upd (upd σ0 4 (.sh (.int n))) 5 (.sh (.int W))) h3 h9 (by (first | rfl | simp)) (by (first | rfl | simp))
  have e3 := r3_eq (n := n) (W := W) (σ := upd (upd (upd σ0 4 (.sh (.int n))) 5 (.sh (.int W))) 6 (.sh (.list (di (evr n W))))) h3 h9 (by (first | rfl | simp)) (by (first | rfl | simp))
  rw [hev2] at e2 e3
  rw [hst2] at e3
  generalize hσ1 : upd (upd (upd (upd σ0 4 (.sh (.int n))) 5 (.sh (.int W))) 6 (.sh (.list (di even)))) 7 (.sh (.list (di steep))) = σ1 at e3
  have b0 : σ1 0 = .sh (.list (rowsD R)) := by first | exact (congrFun hσ1.symm _).trans a0 | (rw [← hσ1]; simp [a0])
  have b1 : σ1 1 = .sh (.list (movesD M)) := by first | exact (congrFun hσ1.symm _).trans a1 | (rw [← hσ1]; simp [a1])
  have b2 : σ1 2 = .sh (.list (di other)) := by first | exact (congrFun hσ1.symm _).trans a2 | (rw [← hσ1]; simp [a2])
  have b3 : σ1 3 = .sh (.int L) := by first | exact (congrFun hσ1.symm _).trans a3 | (rw [← hσ1]; simp [a3])
  have b4 : σ1 4 = .sh (.int n) := by first | exact (congrFun hσ1.symm _).trans rfl | (rw [← hσ1]; simp)
  have b5 : σ1 5 = .sh (.int W) := by first | exact (congrFun hσ1.symm _).trans rfl | (rw [← hσ1]; simp)
  have e4 := r4_eq (R := R) (by (first | lia | omega)) h0 hev b0 b2 (show σ1 6 = .sh (.list (di even)) by first | exact (congrFun hσ1.symm _).trans rfl | (rw [← hσ1]; simp)) (show σ1 7 = .sh (.list (di steep)) by first | exact (congrFun hσ1.symm _).trans rfl | (rw [← hσ1]; simp))
  have hEl : (R ++ [ev, other, even, steep]).length ≤ 50 := by simp; (first | lia | omega)
  have hmap : (R ++ [ev, other, even, steep]).map (fun r => dot r (f r)) = R.map (fun r => dot r (f r)) ++ [dot ev (f ev), dot other (f other), dot even (f even), dot steep (f steep)] := by simp
  have hE0 : ∀ k r, R[k]? = some r → (R ++ [ev, other, even, steep])[k]? = some r := fun k r h => by
    rw [List.getElem?_append_left (List.getElem?_eq_some_iff.mp h).1]; exact h
  have e5 := r5_eq (E := R ++ [ev, other, even, steep]) (σ := upd σ1 8 (.sh (.list (rowsD (R ++ [ev, other, even, steep]))))) (by (first | lia | omega)) hE (by (first | rfl | simp)) (by (first | exact b3 | simp [b3]))
  have e6 := r6_eq (E := R ++ [ev, other, even, steep]) (f := f) (σ := upd (upd σ1 8 (.sh (.list (rowsD (R ++ [ev, other, even, steep]))))) 9 (.sh (.list (lensD ((R ++ [ev, other, even, steep]).map f))))) (by (first | lia | omega)) hE (by (first | rfl | simp)) (by (first | rfl | simp))
  generalize hEE : R ++ [ev, other, even, steep] = E at *
  generalize hσ2 : upd (upd (upd σ1 8 (.sh (.list (rowsD E)))) 9 (.sh (.list (lensD (E.map f))))) 10 (.sh (.list (di (E.map fun r => dot r (f r))))) = σ2 at e6
  have c0 : σ2 0 = .sh (.list (rowsD R)) := by first | exact (congrFun hσ2.symm _).trans b0 | (rw [← hσ2]; simp [b0])
  have c1 : σ2 1 = .sh (.list (movesD M)) := by first | exact (congrFun hσ2.symm _).trans b1 | (rw [← hσ2]; simp [b1])
  have c3 : σ2 3 = .sh (.int L) := by first | exact (congrFun hσ2.symm _).trans b3 | (rw [← hσ2]; simp [b3])
  have c4 : σ2 4 = .sh (.int n) := by first | exact (congrFun hσ2.symm _).trans b4 | (rw [← hσ2]; simp [b4])
  have c5 : σ2 5 = .sh (.int W) := by first | exact (congrFun hσ2.symm _).trans b5 | (rw [← hσ2]; simp [b5])
  have c8 : σ2 8 = .sh (.list (rowsD E)) := by first | exact (congrFun hσ2.symm _).trans rfl | (rw [← hσ2]; simp)
  have c9 : σ2 9 = .sh (.list (lensD (E.map f))) := by first | exact (congrFun hσ2.symm _).trans rfl | (rw [← hσ2]; simp)
  have c10 : σ2 10 = .sh (.list (di (E.map fun r => dot r (f r)))) := by first | exact (congrFun hσ2.symm _).trans rfl | (rw [← hσ2]; simp)
  have e7 := r7_eq (E := E) (by (first | assumption | exact Nat.le_trans (by assumption) (by decide) | exact Int.le_trans (by assumption) (by decide) | exact Nat.lt_of_lt_of_le (by assumption) (by assumption) | exact Nat.le_trans (by assumption) (by assumption) | exact Nat.lt_of_lt_of_le (by assumption) (by decide))) hE c8 c10 c3
  obtain ⟨σ3, e8, hj⟩ := r8_loop (R := R) (Ls := E.map f) (Ts := E.map fun r => dot r (f r)) (M := M) (by (first | lia | omega)) (by simpa using hEl) (by simpa using hEl) (fun k a b hab => by
    obtain ⟨r, r', k1, k2, k3⟩ := hmv k a b hab
    exact ⟨r', f r, f r', dot r (f r), dot r' (f r'), k2, by simp [hE0 _ _ k1], by simp [hE0 _ _ k2], by simp [hE0 _ _ k1], by simp [hE0 _ _ k2], k3⟩) c0 c1 c9 c10
  have d0 := hj 0 (by decide) (by decide)
  have d3 := hj 3 (by decide) (by decide)
  have d4 := hj 4 (by decide) (by decide)
  have d5 := hj 5 (by decide) (by decide)
  have d10 := hj 10 (by decide) (by decide)
  rw [c0] at d0
  rw [c3] at d3
  rw [c4] at d4
  rw [c5] at d5
  rw [c10, hmap] at d10
  have e9 := r9_eq (R := R) (by (first | lia | omega)) (by (first | rfl | simp)) d0 d10
  generalize hσ4 : upd (upd (upd (upd σ3 13 (.sh (.int (dot ev (f ev))))) 14 (.sh (.int (dot other (f other))))) 15 (.sh (.int (dot even (f even))))) 16 (.sh (.int (dot steep (f steep)))) = σ4 at e9
  have e10 := r10_eq hfew (σ := σ4) (by first | exact (congrFun hσ4.symm _).trans d3 | (rw [← hσ4]; simp [d3])) (by first | exact (congrFun hσ4.symm _).trans d4 | (rw [← hσ4]; simp [d4])) (by first | exact (congrFun hσ4.symm _).trans d5 | (rw [← hσ4]; simp [d5])) (by first | exact (congrFun hσ4.symm _).trans rfl | (rw [← hσ4]; simp))
  have e11 := r11_eq (Ts := R.map (fun r => dot r (f r)) ++ [dot ev (f ev), dot other (f other), dot even (f even), dot steep (f steep)]) (t0 := dot cs (f cs)) (by
    rw [List.getElem?_append_left (by simpa using (List.getElem?_eq_some_iff.mp h0).1)]; simp [h0]) (by simp; (first | lia | omega)) g1 g2 g3 g4 (σ := σ4) (by first | exact (congrFun hσ4.symm _).trans d10 | (rw [← hσ4]; simp [d10])) (by first | exact (congrFun hσ4.symm _).trans rfl | (rw [← hσ4]; simp)) (by first | exact (congrFun hσ4.symm _).trans rfl | (rw [← hσ4]; simp)) (by first | exact (congrFun hσ4.symm _).trans rfl | (rw [← hσ4]; simp)) (by first | exact (congrFun hσ4.symm _).trans rfl | (rw [← hσ4]; simp))
  simp only [g_law_right, gOf, List.length_cons, List.length_nil, if_true, f_right_eq]
  rw [hσ0]
  rw [seq_eq e1]
  rw [seq_eq e2]
  rw [seq_eq e3]
  rw [seq_eq e4]
  rw [seq_eq e5]
  rw [seq_eq e6]
  rw [seq_if_f e7]
  rw [seq_eq e8]
  rw [seq_eq e9]
  rw [seq_if_f e10]
  rw [y_seq, y_ret, e11]
  simp [resD]
end Mine
end

section
set_option autoImplicit false
namespace Mine
open PySem

theorem pos_up {r : List Int} (h : ∀ c ∈ r, 1 ≤ c) : (up r 0).length = r.length := by
  rw [up_count]
  exact List.countP_eq_length.mpr fun c hc => by simpa using (by have := h c hc; (first | assumption | exact Nat.le_trans (by assumption) (by decide) | exact Int.le_trans (by assumption) (by decide) | exact Nat.lt_of_lt_of_le (by assumption) (by assumption) | exact Nat.le_trans (by assumption) (by assumption) | exact Nat.lt_of_lt_of_le (by assumption) (by decide)) : 0 < c)
theorem pos_uw {r : List Int} (hn : r.length ≤ 64) (h : ∀ c ∈ r, 1 ≤ c) : uw r = isort r := by
  rw [uw_eq hn, List.filter_eq_self.mpr fun c hc => by simpa using (by have := h c hc; (first | assumption | exact Nat.le_trans (by assumption) (by decide) | exact Int.le_trans (by assumption) (by decide) | exact Nat.lt_of_lt_of_le (by assumption) (by assumption) | exact Nat.le_trans (by assumption) (by assumption) | exact Nat.lt_of_lt_of_le (by assumption) (by decide)) : 0 < c)]
theorem perm_sum {a b : List Int} (h : a.Perm b) : a.sum = b.sum := by
  induction h with
  | nil => rfl
  | cons x _ ih => simp only [List.sum_cons, ih]
  | swap x y l => simp only [List.sum_cons]; (first | lia | omega)
  | trans _ _ h1 h2 => exact h1.trans h2
theorem evr_eq {n rem : Nat} {W : Int} (hr : W.fmod n = rem) (hrn : rem ≤ n) : evr n W = List.replicate rem (W.fdiv n + 1) ++ List.replicate (n - rem) (W.fdiv n) := by
  apply List.ext_getElem (by simp [evr]; (first | lia | omega))
  intro i h1 h2
  simp only [evr, List.getElem_map, List.getElem_range, hr]
  by_cases c : i < rem
  · rw [List.getElem_append_left (by simpa using c)]
    simp [c]
  · rw [List.getElem_append_right (by simpa using c)]
    simp [c]
structure EvF (n : Nat) (W : Int) (rem : Nat) (q : Int) : Prop where
  le : rem ≤ n
  sum : W = (n : Int) * q + rem
  pos : ∀ c ∈ evr n W, 1 ≤ c
  len : (evr n W).length = n
  uw : uw (evr n W) = evs n rem q
theorem evr_facts {n : Nat} (h1 : 1 ≤ n) (h9 : n ≤ 9) {W : Int} (hW : (n : Int) ≤ W) : ∃ rem q, EvF n W rem q := by
  obtain ⟨b1, b2⟩ := fmod_bd W (show (0 : Int) < n by (first | lia | omega))
  obtain ⟨rem, hrem⟩ : ∃ k : Nat, W.fmod n = k := ⟨(W.fmod n).toNat, by (first | lia | omega)⟩
  have hs : W = (n : Int) * W.fdiv n + W.fmod n := (Int.mul_fdiv_add_fmod W n).symm
  have hq : 1 ≤ W.fdiv n := by
    by_cases c : 1 ≤ W.fdiv n
    · exact c
    · have : (n : Int) * W.fdiv n ≤ (n : Int) * 0 := Int.mul_le_mul_of_nonneg_left (by (first | lia | omega)) (by (first | lia | omega))
      omega
  have he := evr_eq (n := n) (W := W) hrem (by (first | lia | omega))
  have hpos : ∀ c ∈ evr n W, 1 ≤ c := fun c hc => by
    rw [he] at hc
    rcases List.mem_append.mp hc with h | h
    · rw [(List.mem_replicate.mp h).2]; (first | lia | omega)
    · rw [(List.mem_replicate.mp h).2]; exact hq
  have hlen : (evr n W).length = n := by simp [evr]
  refine ⟨rem, W.fdiv n, by (first | lia | omega), by rw [← hrem]; exact hs, hpos, hlen, ?_⟩
  rw [pos_uw (by (first | lia | omega)) hpos]
  refine (isort_eq ?_ (evs_asc _ _ _)).symm
  rw [he]
  exact List.perm_append_comm
theorem str_facts {n : Nat} (h1 : 1 ≤ n) (h9 : n ≤ 9) {W : Int} (hW : (n : Int) ≤ W) : (∀ c ∈ str n W, 1 ≤ c) ∧ (str n W).length = n ∧ uw (str n W) = str n W ∧ (str n W).sum = W := by
  have hpos : ∀ c ∈ str n W, 1 ≤ c := fun c hc => by
    rcases List.mem_append.mp hc with h | h
    · rw [(List.mem_replicate.mp h).2]; (first | lia | omega)
    · have : c = W - n + 1 := by simpa using h
      (first | lia | omega)
  have hlen : (str n W).length = n := by simp [str]; (first | lia | omega)
  refine ⟨hpos, hlen, ?_, ?_⟩
  · rw [pos_uw (by (first | lia | omega)) hpos]
    refine (isort_eq (.refl _) ?_).symm
    unfold str
    rw [List.pairwise_append]
    refine ⟨List.pairwise_replicate.mpr (.inr (Int.le_refl _)), List.pairwise_singleton _ _, fun a ha b hb => ?_⟩
    rw [(List.mem_replicate.mp ha).2]
    have : b = W - n + 1 := by simpa using hb
    (first | lia | omega)
  · unfold str
    rw [List.sum_append, sum_rep]
    simp
    (first | lia | omega)
theorem lim_ll {L n : Nat} (h9 : n ≤ 9) : ∀ x : Int, x ≤ limV L n → x ≤ ll L := by
  intro x h
  unfold limV at h
  unfold ll
  split at h
  · rw [if_neg (by (first | lia | omega))]; exact h
  · rw [if_pos (by (first | lia | omega))]; (first | lia | omega)

theorem move_ok {L : Nat} (hL : L ≤ 8) {r : List Int} {a b : Nat} {A B : List Nat} {n : Nat} {W : Int} (h9 : n ≤ 9) (hr : RowOK n W r) (m : MvOK r a b) (hA : RowAll L r A) (hB : RowAll L (mv r a b) B) :
    g_law_move_right [.list (di (mv r a b)), .list [.int (a : Nat), .int (b : Nat)], .list [.list (din A), .list (din B)], .int (dot r A - dot (mv r a b) B)] = some (.bool true) := by
  have hr2 := mv_ok hr m
  have bA := hA.told.bst hr.nn
  have bB := hB.told.bst hr2.nn
  have lA := bA.len
  have lB := bB.len
  have lr := hr.len
  rw [mv_len] at lB
  have la := m.la
  have lb := m.lb
  have gN : ∀ (l : List Nat) (i : Nat), i < l.length → l[i]? = some (l.getD i 0) := fun l i h => by
    rw [List.getD_eq_getElem?_getD, List.getElem?_eq_getElem h]; rfl
  have gI : ∀ (l : List Int) (i : Nat), i < l.length → l[i]? = some (l.getD i 0) := fun l i h => by
    rw [List.getD_eq_getElem?_getD, List.getElem?_eq_getElem h]; rfl
  have hma := mv_a m
  have hpa := m.pa
  refine move_right_spec (mv := 0) (by rw [mv_len]; (first | lia | omega)) (by (first | lia | omega)) (by (first | lia | omega)) (gI _ a (by rw [mv_len]; (first | assumption | exact Nat.le_trans (by assumption) (by decide) | exact Int.le_trans (by assumption) (by decide) | exact Nat.lt_of_lt_of_le (by assumption) (by assumption) | exact Nat.le_trans (by assumption) (by assumption) | exact Nat.lt_of_lt_of_le (by assumption) (by decide)))) (gN A a (by (first | lia | omega))) (gN A b (by (first | lia | omega))) (gN B a (by (first | lia | omega))) (gN B b (by (first | lia | omega))) (fun h0 => ⟨?_, ?_⟩) (fun h0 => ?_)
  · intro e
    have h2 := hr2.two
    have : (uw (mv r a b)).length = (up (mv r a b) 0).length := by simp [uw, us_len]
    rw [e] at this
    simp at this
    (first | lia | omega)
  · exact move_none (ll_le hL) m hr.two (by (first | lia | omega)) bA bB rfl
  · exact move_some m (by (first | lia | omega)) bA bB rfl

theorem right_spec {cs other : List Int} {R : List (List Int)} {M : List (Nat × Nat)} {k : Nat} (hc : Ch cs R M k) (hk : k ≤ 2) (h3 : 3 ≤ cs.length) (h9 : cs.length ≤ 9) (h1 : ∀ c ∈ cs, 1 ≤ c) (ho : other.length = cs.length) (ho1 : ∀ c ∈ other, 1 ≤ c) {L : Nat} (hL : L ≤ 8) (hroom : L = 0 ∨ cs.length ≤ 2 ^ L) :
    g_law_right [.list (rowsD R), .list (movesD M), .list (di other), .int L] = some (.bool true) := by
  generalize hn : cs.length = n at *
  generalize hW : cs.sum = W at *
  have hWn : (n : Int) ≤ W := by
    have := high_sum (q := 1) cs h1
    rw [hn, hW] at this; (first | lia | omega)
  have hlen := hc.len
  have hle := hc.le
  -- the evener row
  have hev := evener_spec (a := cs) (b := other) (by (first | lia | omega)) (by (first | lia | omega))
  have hia : (isort cs).length = n := by rw [(isort_perm cs).length_eq, hn]
  have hib : (isort other).length = n := by rw [(isort_perm other).length_eq, ho]
  have p1 : ∀ x ∈ isort cs, 1 ≤ x := fun x hx => h1 x ((isort_perm cs).mem_iff.mp hx)
  have p2 : ∀ x ∈ isort other, 1 ≤ x := fun x hx => ho1 x ((isort_perm other).mem_iff.mp hx)
  have e0 : mx 0 0 = 0 := rfl
  have vpos := evn_pos (isort cs) (isort other) 0 0 p1 p2
  have vasc := evn_asc (isort cs) (isort other) 0 0 (isort_sorted _) (isort_sorted _)
  have vlen := evn_len (isort cs) (isort other) 0 0 (mx 0 0) (by (first | lia | omega))
  rw [e0] at vpos vasc vlen
  rw [hia] at vlen
  have vge := fun (k : Nat) (hk : k ≤ (isort cs).length) => evn_ge (a := isort cs) (b := isort other) (by (first | lia | omega)) hk
  generalize hV : evn 0 0 0 (isort cs) (isort other) = ev at *
  -- the other rows
  obtain ⟨rem, q, hE⟩ := evr_facts (n := n) (by (first | lia | omega)) h9 hWn
  obtain ⟨s1, s2, s3, s4⟩ := str_facts (n := n) (by (first | lia | omega)) h9 hWn
  have hpos : ∀ r, (∀ c ∈ r, (1 : Int) ≤ c) → r.length = n → (∀ c ∈ r, 0 ≤ c) ∧ r.length ≤ 9 ∧ 2 ≤ (up r 0).length ∧ (L = 0 ∨ (up r 0).length ≤ 2 ^ L) := fun r h hl => by
    rw [pos_up h, hl]
    exact ⟨fun c hc => by have := h c hc; (first | lia | omega), by (first | assumption | exact Nat.le_trans (by assumption) (by decide) | exact Int.le_trans (by assumption) (by decide) | exact Nat.lt_of_lt_of_le (by assumption) (by assumption) | exact Nat.le_trans (by assumption) (by assumption) | exact Nat.lt_of_lt_of_le (by assumption) (by decide)), by (first | lia | omega), hroom⟩
  have hall : ∀ r ∈ R ++ [ev, other, evr n W, str n W], (∀ c ∈ r, 0 ≤ c) ∧ r.length ≤ 9 ∧ 2 ≤ (up r 0).length ∧ (L = 0 ∨ (up r 0).length ≤ 2 ^ L) := fun r hr => by
    rcases List.mem_append.mp hr with hr | hr
    · have ok := hc.ok r hr
      have h2 := up_len r 0
      have hl := ok.len
      exact ⟨ok.nn, by (first | lia | omega), ok.two, hroom.imp id fun h => by (first | lia | omega)⟩
    · simp only [List.mem_cons, List.not_mem_nil, or_false] at hr
      rcases hr with e | e | e | e
      · rw [e]; exact hpos _ vpos vlen
      · rw [e]; exact hpos _ ho1 ho
      · rw [e]; exact hpos _ hE.pos hE.len
      · rw [e]; exact hpos _ s1 s2
  obtain ⟨f, hf⟩ : ∃ f : List Int → List Nat, ∀ r ∈ R ++ [ev, other, evr n W, str n W], RowAll L r (f r) := by
    classical
    refine ⟨fun r => if h : ∃ l, RowAll L r l then h.choose else [], fun r hr => ?_⟩
    have h := row_all (hall r hr).1 (hall r hr).2.1 (hall r hr).2.2.1 hL (hall r hr).2.2.2
    simp only [dif_pos h]
    exact h.choose_spec
  have hR0 : cs ∈ R := List.mem_of_getElem? hc.hd
  have mR : ∀ r ∈ R, r ∈ R ++ [ev, other, evr n W, str n W] := fun r hr => List.mem_append.mpr (.inl hr)
  have mE : ∀ r ∈ [ev, other, evr n W, str n W], r ∈ R ++ [ev, other, evr n W, str n W] := fun r hr => List.mem_append.mpr (.inr hr)
  have fcs := hf cs (mR _ hR0)
  have fev := hf ev (mE _ (by (first | rfl | simp)))
  have fo := hf other (mE _ (by (first | rfl | simp)))
  have fe := hf (evr n W) (mE _ (by (first | rfl | simp)))
  have fs := hf (str n W) (mE _ (by (first | rfl | simp)))
  have ocs := fcs.told.opt
  have oev := fev.told.opt
  have oo := fo.told.opt
  have oe := fe.told.opt
  have os := fs.told.opt
  have kcs := fcs.told.cost fun c hc => by have := h1 c hc; (first | lia | omega)
  have kev := fev.told.cost fun c hc => by have := vpos c hc; (first | lia | omega)
  have ko := fo.told.cost fun c hc => by have := ho1 c hc; (first | lia | omega)
  have ke := fe.told.cost fun c hc => by have := hE.pos c hc; (first | lia | omega)
  have ks := fs.told.cost fun c hc => by have := s1 c hc; (first | lia | omega)
  have ucs := pos_uw (r := cs) (by (first | lia | omega)) h1
  have uo := pos_uw (r := other) (by (first | lia | omega)) ho1
  have uev : uw ev = ev := by
    rw [pos_uw (by (first | lia | omega)) vpos]
    exact (isort_eq (.refl _) vasc).symm
  have hl8 := ll_le hL
  -- fewest
  have few1 := few_low (U := uw cs) (by rw [ucs]; exact isort_sorted _) (by rw [ucs]; exact p1) (by rw [ucs]; (first | lia | omega)) (by rw [ucs]; (first | lia | omega)) hl8 (lim_ok (L := L)) ocs.len ocs.va
  have few2 := few_low (U := uw (str n W)) (uw_asc (by (first | lia | omega))) (by rw [s3]; exact s1) (by rw [s3]; (first | lia | omega)) (by rw [s3]; (first | lia | omega)) hl8 (lim_ok (L := L)) os.len os.va
  rw [kcs] at few1
  rw [ks] at few2
  have uls : (uw cs).length = n := by rw [ucs]; exact hia
  have uss : (uw cs).sum = W := by rw [ucs, perm_sum (isort_perm cs), hW]
  have usl : (uw (str n W)).length = n := by rw [s3]; exact s2
  have usm : (uw (str n W)).sum = W := by rw [s3]; exact s4
  rw [uls, uss] at few1
  rw [usl, usm] at few2
  have hst := steep_le (n := n) (by (first | lia | omega)) h9 (W := W) (L := ll L) (lim_ll (L := L) h9) (D := (us (str n W)).map fun p => (f (str n W)).getD p.2.toNat 0) (by rw [s3] at os; exact os) few2.1
  have hst2 : dot (str n W) (f (str n W)) ≤ minI (fws n W (limV L n) (n - 1)) := by
    rw [← ks, s3]; exact hst
  have heq : dot (str n W) (f (str n W)) = minI (fws n W (limV L n) (n - 1)) := by have := few2.2; (first | lia | omega)
  have hfw := fewest_spec (n := n) (by (first | lia | omega)) h9 (W := W) (L := limV L n) few2.1
  rw [← heq] at hfw
  have g2 : dot cs (f cs) ≤ dot (evr n W) (f (evr n W)) := by
    rw [← kcs, ← ke]
    refine mono (uw_asc (by have := hE.len; (first | lia | omega))) (by rw [uls, hE.uw]; simp [evs]; have := hE.le; (first | lia | omega)) ocs oe fun k hk => ?_
    rw [hE.uw]
    have := even_pre (U := uw cs) (q := q) (rem := rem) (by rw [ucs]; exact isort_sorted _) (by rw [uls]; exact hE.le) (by rw [uls, uss]; exact hE.sum) hk
    rwa [uls] at this
  have g3 : dot cs (f cs) ≤ dot ev (f ev) := by
    rw [← kcs, ← kev]
    refine mono (uw_asc (by (first | lia | omega))) (by rw [uls, uev, vlen]) ocs oev fun k hk => ?_
    rw [uev, ucs]
    exact (vge k (by (first | lia | omega))).1
  have g4 : dot other (f other) ≤ dot ev (f ev) := by
    rw [← ko, ← kev]
    refine mono (uw_asc (by (first | lia | omega))) (by rw [uo, uev, vlen, hib]) oo oev fun k hk => ?_
    rw [uev, uo]
    exact (vge k (by rw [uo] at hk; (first | lia | omega))).2
  have hfin := right_eval (R := R) (M := M) (cs := cs) (ev := ev) (other := other) (L := L) (f := f) (by (first | lia | omega)) (by (first | lia | omega)) (by (first | lia | omega)) hc.hd hev (by rw [ho, hW]; exact hf) (fun t a b hab => by
    obtain ⟨r, k1, k2, k3⟩ := hc.mvs t a b hab
    have m1 := List.mem_of_getElem? k1
    have m2 := List.mem_of_getElem? k2
    exact ⟨r, mv r a b, k1, k2, move_ok hL (n := cs.length) (by (first | lia | omega)) (hc.ok r m1) k3 (hf _ (mR _ m1)) (hf _ (mR _ m2))⟩)
  rw [ho, hW] at hfin
  exact hfin hfw (by rw [heq]; exact few1.2) g2 g3 g4
end Mine
end

section
set_option autoImplicit false
namespace Mine
open PySem

noncomputable def w1 : Ex := ySetO 1 100 (fCallN g_law_box (xCons (xVar 0) xNil))
noncomputable def w2t : Ev := xIf (xAnd (xBin cLt (xB1 bLen (bGen (xVar 0))) (xInt 2)) (xBin cEq (xSub (bOwn 1) (xInt 0)) (xInt 0))) (xInt 2) (xInt 7)
noncomputable def w2 : Ex := ySet 2 (xBin oAdd (xInt 3) (xCallB 1 g_law_take (xCons w2t xNil)))
noncomputable def w3 : Ex := ySwp [4, 3] (eSh (xCallB 1 g_law_counts (xCons (xVar 2) xNil)) (eSh (xCallB 1 g_law_counts (xCons (xVar 2) xNil)) eNil))
noncomputable def w4 : Ex := yUnp [5, 6] (xCallB 1 g_law_moves (xCons (xVar 3) xNil))
noncomputable def w5 : Ex := ySet 7 (xBin oAdd (xCall g_law_same (xCons (xVar 2) xNil)) (xCallB 1 g_law_take (xCons (xBin oSub (xVar 2) (xCall g_law_same (xCons (xVar 2) xNil))) xNil)))
noncomputable def w6 : Ev := xAnd (xCall g_law_right (xCons (xVar 5) (xCons (xVar 6) (xCons (xVar 4) (xCons (xVar 7) xNil))))) (xCall g_law_right (xCons (xVar 5) (xCons (xVar 6) (xCons (xVar 4) (xCons (xInt 0) xNil)))))
theorem f_law_eq : f_law = ySeq w1 (ySeq w2 (ySeq w3 (ySeq w4 (ySeq w5 (ySeq (yRet w6) yNil))))) := rfl

theorem w2_eq {ns b : List Int} (hn : ns.length ≤ 63) (hb : Bx b) {σ : St} (s0 : σ 0 = .sh (.list (di ns))) (s1 : σ 1 = .ow (di b)) :
    ∃ (n : Nat) (b' : List Int), 3 ≤ n ∧ n ≤ 9 ∧ Bx b' ∧ w2 σ = some (.nxt, upd (upd σ 1 (.ow (di b'))) 2 (.sh (.int n))) := by
  obtain ⟨d, s, hbe, hd, _, _⟩ := hb.e
  have hln := len_spec (l := ns) (by (first | assumption | exact Nat.le_trans (by assumption) (by decide) | exact Int.le_trans (by assumption) (by decide) | exact Nat.lt_of_lt_of_le (by assumption) (by assumption) | exact Nat.le_trans (by assumption) (by assumption) | exact Nat.lt_of_lt_of_le (by assumption) (by decide)))
  have hnb : nthD (.list (di b)) (.int 0) = some (.int d) := by rw [hbe]; exact nth0 _ _
  have ht : ∃ m : Int, (m = 2 ∨ m = 7) ∧ w2t σ = some (.int m, σ) := by
    unfold w2t
    by_cases c : (ns.length : Int) < 2
    · have g1 : cLt (.int ns.length) (.int 2) = some (.bool true) := by simp only [cLt]; rw [decide_eq_true c]
      by_cases c2 : d = 0
      · have g2 : cEq (.int d) (.int 0) = some (.bool true) := by simp [cEq, c2]
        exact ⟨2, .inl rfl, by simp [s0, s1, hln, hnb, g1, g2]⟩
      · have g2 : cEq (.int d) (.int 0) = some (.bool false) := by simp [cEq, c2]
        exact ⟨7, .inr rfl, by simp [s0, s1, hln, hnb, g1, g2]⟩
    · have g1 : cLt (.int ns.length) (.int 2) = some (.bool false) := by simp only [cLt]; rw [decide_eq_false c]
      exact ⟨7, .inr rfl, by simp [s0, s1, hln, g1]⟩
  obtain ⟨m, hm, et⟩ := ht
  obtain ⟨r, b', e, hb', r0, r1⟩ := take_spec hb (m := m) (by (first | lia | omega)) (by (first | lia | omega))
  obtain ⟨n, hnn⟩ : ∃ n : Nat, (3 : Int) + r = n := ⟨(3 + r).toNat, by (first | lia | omega)⟩
  refine ⟨n, b', by (first | lia | omega), by (first | lia | omega), hb', ?_⟩
  have ha : oAdd (.int 3) (.int r) = some (.int n) := by simp only [oAdd, hnn]
  unfold w2
  simp [et, s1, e, ha]

theorem lawPure (ns : List Int) (h : ns.length ≤ 63) : ∃ σ', f_law (initS [.list (di ns)]) = some (.ret (.bool true), σ') := by
  obtain ⟨b0, e0, hb0⟩ := box_spec ns h
  have e1 : w1 (initS [.list (di ns)]) = some (.nxt, upd (upd (upd (initS [.list (di ns)]) 100 (.ow (di b0))) 100 .no) 1 (.ow (di b0))) := by
    unfold w1 fCallN
    simp [e0]
  generalize hσ1 : upd (upd (upd (initS [.list (di ns)]) 100 (.ow (di b0))) 100 .no) 1 (.ow (di b0)) = σ1 at e1
  have a0 : σ1 0 = .sh (.list (di ns)) := by first | exact (congrFun hσ1.symm _).trans rfl | (rw [← hσ1]; simp)
  have a1 : σ1 1 = .ow (di b0) := by first | exact (congrFun hσ1.symm _).trans rfl | (rw [← hσ1]; simp)
  obtain ⟨n, b1, h3, h9, hb1, e2⟩ := w2_eq h hb0 a0 a1
  obtain ⟨cs, b2, e3, hb2, l3, p3⟩ := counts_spec hb1 (n := n) (by (first | lia | omega)) (by (first | lia | omega))
  obtain ⟨ot, b3, e4, hb3, l4, p4⟩ := counts_spec hb2 (n := n) (by (first | lia | omega)) (by (first | lia | omega))
  obtain ⟨R, M, b4, e5, hb4, hc⟩ := moves_spec hb3 (cs := cs) (by (first | lia | omega)) (by (first | lia | omega)) p3
  have hsame := same_spec n (by (first | lia | omega)) (by (first | lia | omega))
  have hsN : 2 ≤ sameN n ∧ sameN n + 1 ≤ n ∧ (n : Int) ≤ 2 ^ (sameN n).toNat := by
    have : n = 3 ∨ n = 4 ∨ n = 5 ∨ n = 6 ∨ n = 7 ∨ n = 8 ∨ n = 9 := by (first | lia | omega)
    rcases this with rfl | rfl | rfl | rfl | rfl | rfl | rfl <;> decide
  obtain ⟨t, b5, e6, hb5, t0, t1⟩ := take_spec hb4 (m := n - sameN n) (by (first | lia | omega)) (by (first | lia | omega))
  obtain ⟨L, hL⟩ : ∃ L : Nat, sameN n + t = L := ⟨(sameN n + t).toNat, by (first | lia | omega)⟩
  generalize hσ2 : upd (upd σ1 1 (.ow (di b1))) 2 (.sh (.int n)) = σ2 at e2
  have c1 : σ2 1 = .ow (di b1) := by first | exact (congrFun hσ2.symm _).trans rfl | (rw [← hσ2]; simp)
  have c2 : σ2 2 = .sh (.int n) := by first | exact (congrFun hσ2.symm _).trans rfl | (rw [← hσ2]; simp)
  have f3 : w3 σ2 = some (.nxt, upd (upd (upd (upd σ2 1 (.ow (di b2))) 1 (.ow (di b3))) 4 (.sh (.list (di ot)))) 3 (.sh (.list (di cs)))) := by
    unfold w3
    simp [c1, c2, e3, e4]
  generalize hσ3 : upd (upd (upd (upd σ2 1 (.ow (di b2))) 1 (.ow (di b3))) 4 (.sh (.list (di ot)))) 3 (.sh (.list (di cs))) = σ3 at f3
  have d1 : σ3 1 = .ow (di b3) := by first | exact (congrFun hσ3.symm _).trans rfl | (rw [← hσ3]; simp)
  have d2 : σ3 2 = .sh (.int n) := by first | exact (congrFun hσ3.symm _).trans c2 | (rw [← hσ3]; simp [c2])
  have d3 : σ3 3 = .sh (.list (di cs)) := by first | exact (congrFun hσ3.symm _).trans rfl | (rw [← hσ3]; simp)
  have d4 : σ3 4 = .sh (.list (di ot)) := by first | exact (congrFun hσ3.symm _).trans rfl | (rw [← hσ3]; simp)
  have f4 : w4 σ3 = some (.nxt, upd (upd (upd σ3 1 (.ow (di b4))) 5 (.sh (.list (rowsD R)))) 6 (.sh (.list (movesD M)))) := by
    unfold w4
    simp [d1, d3, e5]
  generalize hσ4 : upd (upd (upd σ3 1 (.ow (di b4))) 5 (.sh (.list (rowsD R)))) 6 (.sh (.list (movesD M))) = σ4 at f4
  have g1 : σ4 1 = .ow (di b4) := by first | exact (congrFun hσ4.symm _).trans rfl | (rw [← hσ4]; simp)
  have g2 : σ4 2 = .sh (.int n) := by first | exact (congrFun hσ4.symm _).trans d2 | (rw [← hσ4]; simp [d2])
  have g4 : σ4 4 = .sh (.list (di ot)) := by first | exact (congrFun hσ4.symm _).trans d4 | (rw [← hσ4]; simp [d4])
  have g5 : σ4 5 = .sh (.list (rowsD R)) := by first | exact (congrFun hσ4.symm _).trans rfl | (rw [← hσ4]; simp)
  have g6 : σ4 6 = .sh (.list (movesD M)) := by first | exact (congrFun hσ4.symm _).trans rfl | (rw [← hσ4]; simp)
  have hs : oSub (.int (n : Int)) (.int (sameN n)) = some (.int (n - sameN n)) := rfl
  have ha : oAdd (.int (sameN n)) (.int t) = some (.int L) := by simp only [oAdd, hL]
  have f5 : w5 σ4 = some (.nxt, upd (upd σ4 1 (.ow (di b5))) 7 (.sh (.int L))) := by
    unfold w5
    simp [g1, g2, hsame, hs, e6, ha]
  generalize hσ5 : upd (upd σ4 1 (.ow (di b5))) 7 (.sh (.int L)) = σ5 at f5
  have i4 : σ5 4 = .sh (.list (di ot)) := by first | exact (congrFun hσ5.symm _).trans g4 | (rw [← hσ5]; simp [g4])
  have i5 : σ5 5 = .sh (.list (rowsD R)) := by first | exact (congrFun hσ5.symm _).trans g5 | (rw [← hσ5]; simp [g5])
  have i6 : σ5 6 = .sh (.list (movesD M)) := by first | exact (congrFun hσ5.symm _).trans g6 | (rw [← hσ5]; simp [g6])
  have i7 : σ5 7 = .sh (.int L) := by first | exact (congrFun hσ5.symm _).trans rfl | (rw [← hσ5]; simp)
  have hroom : cs.length ≤ 2 ^ L := by
    have h1 : 2 ^ (sameN n).toNat ≤ 2 ^ L := Nat.pow_le_pow_right (by decide) (by (first | lia | omega))
    have h2 := hsN.2.2
    have h3 : (2 : Int) ^ (sameN n).toNat = ((2 ^ (sameN n).toNat : Nat) : Int) := by push_cast; rfl
    rw [h3] at h2
    (first | lia | omega)
  have q1 := right_spec hc (Nat.le_refl 2) (by (first | lia | omega)) (by (first | lia | omega)) p3 (other := ot) (by (first | lia | omega)) p4 (L := L) (by (first | lia | omega)) (.inr hroom)
  have q2 := right_spec hc (Nat.le_refl 2) (by (first | lia | omega)) (by (first | lia | omega)) p3 (other := ot) (by (first | lia | omega)) p4 (L := 0) (by (first | lia | omega)) (.inl rfl)
  simp only [Int.natCast_zero] at q2
  have f6 : w6 σ5 = some (.bool true, σ5) := by
    unfold w6
    simp [i4, i5, i6, i7, q1, q2]
  refine ⟨σ5, ?_⟩
  rw [f_law_eq]
  rw [seq_eq e1]
  rw [seq_eq e2]
  rw [seq_eq f3]
  rw [seq_eq f4]
  rw [seq_eq f5]
  rw [y_seq, y_ret, f6]
  rfl
end Mine
end

open PySem PySem.W PyProof.Rows
set_option maxRecDepth 100000 in
set_option maxHeartbeats 8000000 in
theorem PySem.Challenge.cw_xm0988_01_holds : PySem.Challenge.rw_xm0988_01.Holds := by
  w_on; refine holds_law Mine.said fun said => ?_
  refine holds_open (q := Mine.view) (loose := [Str.ofString "PressError"]) (Xt := fun s => xlAt Mine.view [] s && recOk (RowW.records (OpenRow.toRowW PySem.Challenge.rw_xm0988_01.row)) s) (XP := XL Mine.view []) (Yf := fun _ => ()) (Ya := fun _ => ()) (YP := fun _ _ => True) (N := 2392) ?hl (fun _ _ _ => trivial) (fun _ _ _ _ _ => trivial) (fun s e => xl_of s (Bool.and_eq_true_iff.mp e).1) XL.keeps (by rfl) (by rfl) (by rfl) (fun s e => recFacts_of (Bool.and_eq_true_iff.mp e).2) (by rfl) (by assumption) (by decide +kernel) ⟨rfl, rfl, rfl, rfl, rfl, by decide +kernel⟩ ?hw ?hc
  case hw => w_witness2
  case hl => exact Mine.left
  case hc =>
    w_strict (intro w s₀ s₁ mg mb G Y fa o pm cd doc dV kV ho hd hcd hD hmg hg args vals as hpre hlay hrd hwl hlo; refine Ground.open G ?_; intro T B D TE TW; (try (refine guard_noD D (by decide +kernel) ?_; clear D)); (obtain ⟨_, _, M⟩ := bmod_of_top T); (have TA := at_of_top T); (try (obtain ⟨_, _, he, B0⟩ := based_of_top T rfl hmg ho hd; have he' : cd = _ := he; subst he'; clear he)); clear hmg; (wrow_args hpre hlay hrd hwl hlo); refine enter_call ?_; w_top on; (try refine codeAny_mono ?_ (fun _ _ g => GoodW.toG g)); (have K0 := below_caller (Top.heap T)); (w_call any ho hd hcd hD T F))
    refine Mine.joinLaw (by assumption) ?hrec ?fb (Mine.well_exact (by assumption) (by assumption)) (by assumption) (Mine.caller_rm _) (by assumption) rfl ?hpure ?kk
    case hpure => exact Mine.lawPure _ (by omega)
    case hrec => kernel_rfl
    case fb => exact Mine.free_of (by assumption) (by decide +kernel)
    case kk => exact fun h' tk' kp => ⟨.inl ⟨_, _, [], rfl, fun _ => rfl, .bool true, Mine.post_true _, fun h => ⟨List.nodup_nil, fun _ hm => (nomatch hm)⟩⟩, kp, rfl, by assumption⟩
