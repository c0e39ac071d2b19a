import PyProof.Rows.All
import Wide.All
import OpenK.AllK
import Wide.FinOn
import Lean
import PySem.Challenge.RW_tk0117_01
open PySem PySem.W PyProof.Rows
set_option Elab.async false
set_option compiler.extract_closed false
namespace Mine
open PySem.Calls
set_option linter.unusedVariables false
abbrev Stab := Addr → Option Obj
noncomputable def Sb (S S' : Stab) : Prop := ∀ b o, S b = some o → S' b = some o
theorem Sb.refl (S : Stab) : Sb S S := fun _ _ e => e
theorem Sb.trans {S S' S'' : Stab} (a : Sb S S') (b : Sb S' S'') : Sb S S'' := fun x o e => b x o (a x o e)
noncomputable def SubH (S : Stab) (h : Heap) : Prop := ∀ b o, S b = some o → h.get? b = some o
noncomputable def Kp (h h' : Heap) : Prop := ∀ b o, h.get? b = some o → h'.get? b = some o
theorem Kp.refl (h : Heap) : Kp h h := fun _ _ e => e
theorem Kp.trans {h h' h'' : Heap} (a : Kp h h') (b : Kp h' h'') : Kp h h'' := fun x o e => b x o (a x o e)

mutual
noncomputable def Rep (S : Stab) : PyData → Value → Prop
  | .int i, v => ∃ t, v = .int i t
  | .bool b, v => v = .bool b
  | .none, v => v = .none
  | .tuple l, v => ∃ a o vs n, v = .ref a ∧ S a = some o ∧ o.cls = .type "tuple" ∧ o.data = .seq vs n ∧ RepL S l vs.toList
  | .list l, v => ∃ a o vs n, v = .ref a ∧ S a = some o ∧ o.cls = .type "list" ∧ o.data = .seq vs n ∧ RepL S l vs.toList
  | .str _, _ => False
  | .dict _, _ => False
noncomputable def RepL (S : Stab) : List PyData → List Value → Prop
  | [], vs => vs = []
  | d :: l, vs => ∃ v r, vs = v :: r ∧ Rep S d v ∧ RepL S l r
end

mutual
theorem Rep.mono {S S' : Stab} (h : Sb S S') : ∀ {d : PyData} {v : Value}, Rep S d v → Rep S' d v
  | .int _, _, x => by unfold Rep at x ⊢; exact x
  | .bool _, _, x => by unfold Rep at x ⊢; exact x
  | .none, _, x => by unfold Rep at x ⊢; exact x
  | .tuple _, _, x => by unfold Rep at x ⊢; obtain ⟨a, o, vs, n, e, h1, h2, h3, r⟩ := x; exact ⟨a, o, vs, n, e, h _ _ h1, h2, h3, RepL.mono h r⟩
  | .list _, _, x => by unfold Rep at x ⊢; obtain ⟨a, o, vs, n, e, h1, h2, h3, r⟩ := x; exact ⟨a, o, vs, n, e, h _ _ h1, h2, h3, RepL.mono h r⟩
  | .str _, _, x => by unfold Rep at x; exact x.elim
  | .dict _, _, x => by unfold Rep at x; exact x.elim
theorem RepL.mono {S S' : Stab} (h : Sb S S') : ∀ {l : List PyData} {vs : List Value}, RepL S l vs → RepL S' l vs
  | [], _, x => by unfold RepL at x ⊢; exact x
  | _ :: _, _, x => by unfold RepL at x ⊢; obtain ⟨v, r, e, a, b⟩ := x; exact ⟨v, r, e, Rep.mono h a, RepL.mono h b⟩
end

theorem rep_int {S : Stab} {i : Int} {v : Value} : Rep S (.int i) v ↔ ∃ t, v = .int i t := by unfold Rep; exact Iff.rfl
theorem rep_bool {S : Stab} {b : Bool} {v : Value} : Rep S (.bool b) v ↔ v = .bool b := by unfold Rep; exact Iff.rfl
theorem rep_list {S : Stab} {l : List PyData} {v : Value} : Rep S (.list l) v ↔ ∃ a o vs n, v = .ref a ∧ S a = some o ∧ o.cls = .type "list" ∧ o.data = .seq vs n ∧ RepL S l vs.toList := by
  rw [Rep]
theorem rep_tuple {S : Stab} {l : List PyData} {v : Value} : Rep S (.tuple l) v ↔ ∃ a o vs n, v = .ref a ∧ S a = some o ∧ o.cls = .type "tuple" ∧ o.data = .seq vs n ∧ RepL S l vs.toList := by
  rw [Rep]
theorem repI (S : Stab) (i : Int) (t : Tok) : Rep S (.int i) (.int i t) := rep_int.mpr ⟨t, rfl⟩
theorem repB (S : Stab) (b : Bool) : Rep S (.bool b) (.bool b) := rep_bool.mpr rfl

theorem repL_nil {S : Stab} {vs : List Value} : RepL S [] vs ↔ vs = [] := by rw [RepL]
theorem repL_cons {S : Stab} {d : PyData} {l : List PyData} {vs : List Value} : RepL S (d :: l) vs ↔ ∃ v r, vs = v :: r ∧ Rep S d v ∧ RepL S l r := by rw [RepL]
theorem RepL.nil (S : Stab) : RepL S [] [] := repL_nil.mpr rfl
theorem RepL.cons {S : Stab} {d : PyData} {l : List PyData} {v : Value} {r : List Value} (a : Rep S d v) (b : RepL S l r) : RepL S (d :: l) (v :: r) := repL_cons.mpr ⟨v, r, rfl, a, b⟩
theorem RepL.length {S : Stab} : ∀ {l : List PyData} {vs : List Value}, RepL S l vs → vs.length = l.length
  | [], _, x => by rw [repL_nil.mp x]; rfl
  | _ :: _, _, x => by obtain ⟨v, r, e, _, b⟩ := repL_cons.mp x; rw [e, List.length_cons, List.length_cons, RepL.length b]
theorem RepL.get {S : Stab} : ∀ {l : List PyData} {vs : List Value}, RepL S l vs → ∀ {i : Nat} {d : PyData}, l[i]? = some d → ∃ v, vs[i]? = some v ∧ Rep S d v
  | [], _, _, i, d, h => by simp at h
  | c :: l, _, x, i, d, h => by
    obtain ⟨v, r, e, a, b⟩ := repL_cons.mp x
    subst e
    cases i with
    | zero => simp at h; subst h; exact ⟨v, by simp, a⟩
    | succ i => simp at h; obtain ⟨w, h1, h2⟩ := RepL.get b h; exact ⟨w, by simpa using h1, h2⟩
theorem RepL.append {S : Stab} : ∀ {l l' : List PyData} {vs vs' : List Value}, RepL S l vs → RepL S l' vs' → RepL S (l ++ l') (vs ++ vs')
  | [], _, _, _, x, y => by rw [repL_nil.mp x]; simpa using y
  | _ :: _, _, _, _, x, y => by obtain ⟨v, r, e, a, b⟩ := repL_cons.mp x; subst e; exact RepL.cons a (RepL.append b y)
theorem RepL.snoc {S : Stab} {l : List PyData} {vs : List Value} {d : PyData} {v : Value} (x : RepL S l vs) (y : Rep S d v) : RepL S (l ++ [d]) (vs ++ [v]) := x.append (RepL.cons y (RepL.nil S))
theorem RepL.drop {S : Stab} : ∀ {l : List PyData} {vs : List Value} (k : Nat), RepL S l vs → RepL S (l.drop k) (vs.drop k)
  | l, vs, 0, x => by simpa using x
  | [], _, k + 1, x => by rw [repL_nil.mp x]; simpa using RepL.nil S
  | _ :: _, _, k + 1, x => by obtain ⟨v, r, e, a, b⟩ := repL_cons.mp x; subst e; simpa using RepL.drop k b
theorem RepL.take {S : Stab} : ∀ {l : List PyData} {vs : List Value} (k : Nat), RepL S l vs → RepL S (l.take k) (vs.take k)
  | l, vs, 0, x => by simpa using RepL.nil S
  | [], _, k + 1, x => by rw [repL_nil.mp x]; simpa using RepL.nil S
  | _ :: _, _, k + 1, x => by obtain ⟨v, r, e, a, b⟩ := repL_cons.mp x; subst e; simpa using RepL.cons a (RepL.take k b)
theorem RepL.reverse {S : Stab} : ∀ {l : List PyData} {vs : List Value}, RepL S l vs → RepL S l.reverse vs.reverse
  | [], _, x => by rw [repL_nil.mp x]; simpa using RepL.nil S
  | _ :: _, _, x => by
    obtain ⟨v, r, e, a, b⟩ := repL_cons.mp x
    subst e
    rw [List.reverse_cons, List.reverse_cons]
    exact (RepL.reverse b).snoc a
theorem RepL.ints {S : Stab} : ∀ {ns : List Int} {vs : List Value}, RepL S (ns.map .int) vs ↔ IntsAre vs ns
  | [], vs => by
    rw [List.map_nil, repL_nil]
    constructor
    · rintro rfl; exact .nil
    · intro h; cases h; rfl
  | n :: ns, vs => by
    rw [List.map_cons, repL_cons]
    constructor
    · rintro ⟨v, r, rfl, a, b⟩
      obtain ⟨t, rfl⟩ := rep_int.mp a
      exact .cons _ _ (RepL.ints.mp b)
    · intro h; cases h with
      | cons _ _ h => exact ⟨_, _, rfl, repI _ _ _, RepL.ints.mpr h⟩

mutual
theorem Rep.reads {S : Stab} {h : Heap} (k : SubH S h) : ∀ {d : PyData} {v : Value}, Rep S d v → ∃ as, Reads h v d as
  | .int _, _, x => by obtain ⟨t, rfl⟩ := rep_int.mp x; exact ⟨_, .int _ _⟩
  | .bool _, _, x => by rw [rep_bool.mp x]; exact ⟨_, .bool _⟩
  | .none, _, x => by unfold Rep at x; rw [x]; exact ⟨_, .none⟩
  | .tuple _, _, x => by
    obtain ⟨a, o, vs, n, e, h1, h2, h3, r⟩ := rep_tuple.mp x
    obtain ⟨as, q⟩ := RepL.reads k r
    exact ⟨_, e ▸ Reads.tuple (k _ _ h1) h2 h3 q⟩
  | .list _, _, x => by
    obtain ⟨a, o, vs, n, e, h1, h2, h3, r⟩ := rep_list.mp x
    obtain ⟨as, q⟩ := RepL.reads k r
    exact ⟨_, e ▸ Reads.list (k _ _ h1) h2 h3 q⟩
  | .str _, _, x => by unfold Rep at x; exact x.elim
  | .dict _, _, x => by unfold Rep at x; exact x.elim
theorem RepL.reads {S : Stab} {h : Heap} (k : SubH S h) : ∀ {l : List PyData} {vs : List Value}, RepL S l vs → ∃ as, ReadsAll h vs l as
  | [], _, x => by rw [repL_nil.mp x]; exact ⟨_, .nil⟩
  | _ :: _, _, x => by
    obtain ⟨v, r, e, a, b⟩ := repL_cons.mp x
    subst e
    obtain ⟨as, q⟩ := Rep.reads k a
    obtain ⟨bs, q'⟩ := RepL.reads k b
    exact ⟨_, .cons q q'⟩
end

/-- what a name of a frame holds -/
inductive Ent where
  | dat (d : PyData)
  | val (v : Value)
noncomputable def Ent.ok (S : Stab) : Ent → Value → Prop
  | .dat d, v => Rep S d v
  | .val w, v => v = w
theorem Ent.mono {S S' : Stab} (h : Sb S S') {e : Ent} {v : Value} (x : e.ok S v) : e.ok S' v := by
  cases e with
  | dat d => exact Rep.mono h x
  | val w => exact x

/-- name x of the block env holds v -/
noncomputable def Holds (S : Stab) (env : Env) (m : Str → Option Value) (x : Str) (v : Value) : Prop :=
  (env.kindOf x = some .local ∧ m x = some v) ∨
  ((env.kindOf x = some .cell ∨ (env.kindOf x = some .free ∧ (x == ("__classdict__" : Str)) = false)) ∧ ∃ c o, env.cells.lookup x = some c ∧ S c = some o ∧ o.data = .cell (some v))
theorem Holds.mono {S S' : Stab} (h : Sb S S') {env : Env} {m : Str → Option Value} {x : Str} {v : Value} : Holds S env m x v → Holds S' env m x v
  | .inl a => .inl a
  | .inr ⟨a, c, o, h1, h2, h3⟩ => .inr ⟨a, c, o, h1, h _ _ h2, h3⟩

abbrev Vars := List (Str × Ent)
abbrev Muts := List (Addr × (Obj → Prop))

structure Frm (B : Heap) (S₀ S : Stab) (env : Env) (G : Vars) (mu : Muts) (h : Heap) : Prop where
  fk : env.scope.kind = .function
  gl : env.globals = mainGlobals
  bl : env.builtins = builtinsNs
  base : Kp B h
  sb : Sb S₀ S
  sub : SubH S h
  new : ∀ b o, S b = some o → S₀ b = some o ∨ B.get? b = none
  nLB : B.get? env.locals = none
  nLS : S env.locals = none
  mus : ∀ p ∈ mu, (∃ o, h.get? p.1 = some o ∧ p.2 o) ∧ p.1 ≠ env.locals ∧ S p.1 = none ∧ B.get? p.1 = none
  nd : (mu.map (·.1)).Nodup
  vars : ∃ m, h.Ns env.locals m ∧ ∀ x e, G.lookup x = some e → ∃ v, Holds S env m x v ∧ e.ok S v

section
variable {B : Heap} {S₀ S : Stab} {env : Env} {G G' : Vars} {mu : Muts} {h h' : Heap}

theorem Frm.keep (F : Frm B S₀ S env G mu h) (k : Kp h h') : Frm B S₀ S env G mu h' where
  fk := F.fk
  gl := F.gl
  bl := F.bl
  base := F.base.trans k
  sb := F.sb
  sub := fun b o e => k b o (F.sub b o e)
  new := F.new
  nLB := F.nLB
  nLS := F.nLS
  mus := fun p hp => let ⟨⟨o, a, b⟩, r⟩ := F.mus p hp; ⟨⟨o, k _ _ a, b⟩, r⟩
  nd := F.nd
  vars := let ⟨m, a, b⟩ := F.vars; ⟨m, a.keeps k, b⟩

theorem Frm.lget (F : Frm B S₀ S env G mu h) : ∃ o, h.get? env.locals = some o := let ⟨_, ⟨o, _, _, a, _⟩, _⟩ := F.vars; ⟨o, a⟩

/-- S grows by what is new -/
theorem Frm.grow {S' : Stab} (F : Frm B S₀ S env G mu h) (k : Kp h h') (sb : Sb S S') (sub : SubH S' h') (nw : ∀ b o, S' b = some o → S b = some o ∨ h.get? b = none) : Frm B S₀ S' env G mu h' where
  fk := F.fk
  gl := F.gl
  bl := F.bl
  base := F.base.trans k
  sb := F.sb.trans sb
  sub := sub
  new := fun b o e => by
    rcases nw b o e with q | q
    · exact F.new b o q
    · refine .inr ?_
      cases z : B.get? b with
      | none => rfl
      | some o' => rw [F.base b o' z] at q; cases q
  nLB := F.nLB
  nLS := by
    obtain ⟨o, ho⟩ := F.lget
    cases z : S' env.locals with
    | none => rfl
    | some o' =>
      rcases nw _ _ z with q | q
      · rw [F.nLS] at q; cases q
      · rw [ho] at q; cases q
  mus := fun p hp => by
    obtain ⟨⟨o, a, b⟩, c, d, e⟩ := F.mus p hp
    refine ⟨⟨o, k _ _ a, b⟩, c, ?_, e⟩
    cases z : S' p.1 with
    | none => rfl
    | some o' =>
      rcases nw _ _ z with q | q
      · rw [d] at q; cases q
      · rw [a] at q; cases q
  nd := F.nd
  vars := let ⟨m, a, b⟩ := F.vars; ⟨m, a.keeps k, fun x e q => let ⟨v, c, d⟩ := b x e q; ⟨v, c.mono sb, Ent.mono sb d⟩⟩

noncomputable def Stab.add (S : Stab) (a : Addr) (o : Obj) : Stab := fun b => if b = a then some o else S b
theorem Frm.newS {a : Addr} {o : Obj} (F : Frm B S₀ S env G mu h) (k : Kp h h') (ha : h.get? a = none) (ho : h'.get? a = some o) :
    Sb S (S.add a o) ∧ S.add a o a = some o ∧ Frm B S₀ (S.add a o) env G mu h' := by
  have sb : Sb S (S.add a o) := fun b o' e => by
    unfold Stab.add
    by_cases q : b = a
    · subst q; rw [F.sub _ _ e] at ha; cases ha
    · rw [if_neg q]; exact e
  refine ⟨sb, by simp [Stab.add], F.grow k sb (fun b o' e => ?_) fun b o' e => ?_⟩
  · unfold Stab.add at e
    by_cases q : b = a
    · subst q; rw [if_pos rfl] at e; cases e; exact ho
    · rw [if_neg q] at e; exact k _ _ (F.sub _ _ e)
  · unfold Stab.add at e
    by_cases q : b = a
    · subst q; exact .inr ha
    · rw [if_neg q] at e; exact .inl e
theorem Frm.newM {a : Addr} {o : Obj} {P : Obj → Prop} (F : Frm B S₀ S env G mu h) (k : Kp h h') (ha : h.get? a = none) (ho : h'.get? a = some o) (hp : P o) :
    Frm B S₀ S env G ((a, P) :: mu) h' :=
  { F.keep k with
    mus := fun p hm => by
      rcases List.mem_cons.mp hm with rfl | hm
      · refine ⟨⟨o, ho, hp⟩, ?_, ?_, ?_⟩
        · intro e
          obtain ⟨q, hq⟩ := F.lget
          rw [show (env.locals : Addr) = a from e.symm, ha] at hq; cases hq
        · cases z : S a with
          | none => rfl
          | some o' => rw [F.sub _ _ z] at ha; cases ha
        · cases z : B.get? a with
          | none => rfl
          | some o' => rw [F.base _ _ z] at ha; cases ha
      · exact (F.keep k).mus p hm
    nd := by
      rw [List.map_cons, List.nodup_cons]
      refine ⟨fun hm => ?_, F.nd⟩
      obtain ⟨p, hp1, hp2⟩ := List.mem_map.mp hm
      obtain ⟨⟨q, hq, _⟩, _⟩ := F.mus p hp1
      rw [hp2, ha] at hq; cases hq }
theorem Frm.upd {a : Addr} {o : Obj} {P P' : Obj → Prop} (F : Frm B S₀ S env G ((a, P) :: mu) h) (k : Heap.ExtBut a h h') (ho : h'.get? a = some o) (hp : P' o) :
    Frm B S₀ S env G ((a, P') :: mu) h' := by
  obtain ⟨_, hL, hS, hB⟩ := F.mus (a, P) (.head _)
  have ne : ∀ p ∈ mu, p.1 ≠ a := fun p hp e => by
    have := F.nd
    rw [List.map_cons, List.nodup_cons] at this
    exact this.1 (List.mem_map.mpr ⟨p, hp, e⟩)
  exact
  { fk := F.fk, gl := F.gl, bl := F.bl
    base := fun b o' e => k b o' (fun q => by subst q; rw [hB] at e; cases e) (F.base b o' e)
    sb := F.sb
    sub := fun b o' e => k b o' (fun q => by subst q; rw [hS] at e; cases e) (F.sub b o' e)
    new := F.new, nLB := F.nLB, nLS := F.nLS
    mus := fun p hm => by
      rcases List.mem_cons.mp hm with rfl | hm
      · exact ⟨⟨o, ho, hp⟩, hL, hS, hB⟩
      · obtain ⟨⟨q, h1, h2⟩, r⟩ := F.mus p (.tail _ hm)
        exact ⟨⟨q, k _ _ (ne p hm) h1, h2⟩, r⟩
    nd := F.nd
    vars := by
      obtain ⟨m, hn, hv⟩ := F.vars
      exact ⟨m, hn.extBut k (Ne.symm hL), hv⟩ }
theorem Frm.freeze {a : Addr} {P : Obj → Prop} (F : Frm B S₀ S env G ((a, P) :: mu) h) : ∃ o, P o ∧ h.get? a = some o ∧ Sb S (S.add a o) ∧ (S.add a o) a = some o ∧ Frm B S₀ (S.add a o) env G mu h := by
  obtain ⟨⟨o, ho, hp⟩, hL, hS, hB⟩ := F.mus (a, P) (.head _)
  have ne : ∀ p ∈ mu, p.1 ≠ a := fun p hp e => by
    have := F.nd
    rw [List.map_cons, List.nodup_cons] at this
    exact this.1 (List.mem_map.mpr ⟨p, hp, e⟩)
  have sb : Sb S (S.add a o) := fun b o' e => by
    unfold Stab.add
    by_cases q : b = a
    · subst q; rw [hS] at e; cases e
    · rw [if_neg q]; exact e
  refine ⟨o, hp, ho, sb, by simp [Stab.add], ?_⟩
  exact
  { fk := F.fk, gl := F.gl, bl := F.bl, base := F.base, sb := F.sb.trans sb
    sub := fun b o' e => by
      unfold Stab.add at e
      by_cases q : b = a
      · subst q; rw [if_pos rfl] at e; cases e; exact ho
      · rw [if_neg q] at e; exact F.sub _ _ e
    new := fun b o' e => by
      unfold Stab.add at e
      by_cases q : b = a
      · subst q; exact .inr hB
      · rw [if_neg q] at e; exact F.new _ _ e
    nLB := F.nLB
    nLS := by unfold Stab.add; rw [if_neg (Ne.symm hL)]; exact F.nLS
    mus := fun p hm => by
      obtain ⟨x, y, z, w⟩ := F.mus p (.tail _ hm)
      refine ⟨x, y, ?_, w⟩
      unfold Stab.add; rw [if_neg (ne p hm)]; exact z
    nd := by have := F.nd; rw [List.map_cons, List.nodup_cons] at this; exact this.2
    vars := let ⟨m, a, b⟩ := F.vars; ⟨m, a, fun x e q => let ⟨v, c, d⟩ := b x e q; ⟨v, c.mono sb, Ent.mono sb d⟩⟩ }
theorem Frm.drop {p : Addr × (Obj → Prop)} (F : Frm B S₀ S env G (p :: mu) h) : Frm B S₀ S env G mu h :=
  { F with mus := fun q hq => F.mus q (.tail _ hq), nd := by have := F.nd; rw [List.map_cons, List.nodup_cons] at this; exact this.2 }
theorem Frm.perm {mu' : Muts} (F : Frm B S₀ S env G mu h) (p : mu.Perm mu') : Frm B S₀ S env G mu' h :=
  { F with mus := fun q hq => F.mus q (p.mem_iff.mpr hq), nd := (p.map (·.1)).nodup_iff.mp F.nd }
theorem Frm.swap {p q : Addr × (Obj → Prop)} (F : Frm B S₀ S env G (p :: q :: mu) h) : Frm B S₀ S env G (q :: p :: mu) h := F.perm (List.Perm.swap q p mu)
theorem Frm.weak (F : Frm B S₀ S env G mu h) (w : ∀ x e, G'.lookup x = some e → G.lookup x = some e) : Frm B S₀ S env G' mu h :=
  { F with vars := let ⟨m, a, b⟩ := F.vars; ⟨m, a, fun x e q => b x e (w x e q)⟩ }
theorem Frm.is {a : Addr} {P : Obj → Prop} (F : Frm B S₀ S env G ((a, P) :: mu) h) : ∃ o, h.get? a = some o ∧ P o := (F.mus _ (.head _)).1
theorem Frm.weakP {a : Addr} {P P' : Obj → Prop} (F : Frm B S₀ S env G ((a, P) :: mu) h) (w : ∀ o, P o → P' o) : Frm B S₀ S env G ((a, P') :: mu) h :=
  let ⟨_, h1, h2⟩ := F.is; F.upd (fun _ _ _ e => e) h1 (w _ h2)

theorem weak_nil : ∀ x e, ([] : Vars).lookup x = some e → G.lookup x = some e := fun x e h => by simp at h
theorem weak_cons {y : Str} {d : Ent} (h : G.lookup y = some d) (r : ∀ x e, G'.lookup x = some e → G.lookup x = some e) : ∀ x e, ((y, d) :: G' : Vars).lookup x = some e → G.lookup x = some e := fun x e q => by
  rw [List.lookup_cons] at q
  by_cases z : (x == y) = true
  · rw [z] at q; cases q; rw [eq_of_beq z]; exact h
  · simp only [z] at q; exact r x e q

theorem vars_nil {m : Str → Option Value} : ∀ x e, ([] : Vars).lookup x = some e → ∃ v, Holds S env m x v ∧ e.ok S v := fun x e h => by simp at h
theorem vars_cons {m : Str → Option Value} {y : Str} {d : Ent} {v : Value} (h : Holds S env m y v) (k : d.ok S v) (r : ∀ x e, G.lookup x = some e → ∃ v, Holds S env m x v ∧ e.ok S v) :
    ∀ x e, ((y, d) :: G : Vars).lookup x = some e → ∃ v, Holds S env m x v ∧ e.ok S v := fun x e q => by
  rw [List.lookup_cons] at q
  by_cases z : (x == y) = true
  · rw [z] at q; cases q; rw [eq_of_beq z]; exact ⟨v, h, k⟩
  · simp only [z] at q; exact r x e q

/-- a local name is stored -/
theorem Frm.store {m : Str → Option Value} {x : Str} {e : Ent} {v : Value} (F : Frm B S₀ S env G mu h) (hm : h.Ns env.locals m) (hv : ∀ x e, G.lookup x = some e → ∃ v, Holds S env m x v ∧ e.ok S v)
    (hx : env.kindOf x = some .local) (he : e.ok S v) (hn : h'.Ns env.locals (fun y => if y = x then some v else m y)) (hs : Heap.SameBut env.locals h h') : Frm B S₀ S env ((x, e) :: G) mu h' where
  fk := F.fk
  gl := F.gl
  bl := F.bl
  base := fun b o q => hs.extBut b o (fun z => by rw [z, F.nLB] at q; cases q) (F.base b o q)
  sb := F.sb
  sub := fun b o q => hs.extBut b o (fun z => by rw [z, F.nLS] at q; cases q) (F.sub b o q)
  new := F.new
  nLB := F.nLB
  nLS := F.nLS
  mus := fun p hp => let ⟨⟨o, a, b⟩, c, r⟩ := F.mus p hp; ⟨⟨o, hs.extBut _ _ c a, b⟩, c, r⟩
  nd := F.nd
  vars := ⟨_, hn, by
    intro y d q
    rw [List.lookup_cons] at q
    by_cases z : (y == x) = true
    · rw [z] at q
      cases q
      have z' := eq_of_beq z
      subst z'
      exact ⟨v, .inl ⟨hx, by simp⟩, he⟩
    · simp only [z] at q
      obtain ⟨u, a, b⟩ := hv y d q
      refine ⟨u, ?_, b⟩
      rcases a with ⟨a1, a2⟩ | a
      · refine .inl ⟨a1, ?_⟩
        have z' : ¬ y = x := fun e => z (by rw [e]; exact beq_self_eq_true x)
        show (if y = x then some v else m y) = some u
        rw [if_neg z']; exact a2
      · exact .inr a⟩
end

/-- the post of a pure call: S' is S and what is new -/
structure Ret (S : Stab) (h h' : Heap) (S' : Stab) : Prop where
  keep : Kp h h'
  sb : Sb S S'
  sub : SubH S' h'
  new : ∀ b o, S' b = some o → S b = some o ∨ h.get? b = none
section
variable {B : Heap} {S₀ S S' : Stab} {env : Env} {G : Vars} {mu : Muts} {h h' : Heap}
theorem Frm.toRet (F : Frm B S₀ S env G mu h) : Ret S₀ B h S := ⟨F.base, F.sb, F.sub, F.new⟩
theorem Frm.ret (F : Frm B S₀ S env G mu h) (R : Ret S h h' S') : Frm B S₀ S' env G mu h' := F.grow R.keep R.sb R.sub R.new
theorem Ret.refl (k : SubH S h) : Ret S h h S := ⟨Kp.refl _, Sb.refl _, k, fun _ _ e => .inl e⟩
end
/-- room for n calls more -/
structure Rm (A : Around) (n : Nat) : Prop where
  hh : A.handled = none
  dp : A.depth + n < recursionLimit
  un : A.units + 16 * n + 80 < cLine
theorem Rm.deeper {A : Around} {n : Nat} (r : Rm A (n + 1)) (env : Env) : Rm (A.deeper env) n :=
  ⟨r.hh, by have := r.dp; show A.depth + 1 + n < recursionLimit; omega, by have := r.un; show A.units + 3 + 16 * n + 80 < cLine; omega⟩
theorem Rm.less {A : Around} {n m : Nat} (r : Rm A n) (h : m ≤ n) : Rm A m := ⟨r.hh, by have := r.dp; omega, by have := r.un; omega⟩

structure FD where
  name : Str
  params : Arguments
  body : List Stmt
  scope : Scope
noncomputable def fdef (i : Nat) : FD :=
  match (PySem.Challenge.pw_tk0117_01.main.body)[i]? with
  | some (.FunctionDef n args body _ _ _ scope _ _ _) => ⟨n, args, body, scope⟩
  | _ => ⟨Str.empty, default, [], ⟨.function, [], false, false, []⟩⟩

noncomputable def FnOK (h : Heap) (v : Value) (f : FD) (dV : Value) : Prop :=
  ∃ a o doc pm an cdv ct, v = .ref a ∧ h.get? a = some o ∧ o.data = .func (fnOf f.name f.name f.params f.body f.scope dV .none doc pm an cdv ct) ∧ h.CodeRec cdv f.name
theorem FnOK.keeps {h h' : Heap} {v : Value} {f : FD} {dV : Value} (x : FnOK h v f dV) (k : Kp h h') : FnOK h' v f dV := by
  obtain ⟨a, o, doc, pm, an, cdv, ct, e, h1, h2, h3⟩ := x
  exact ⟨a, o, doc, pm, an, cdv, ct, e, k _ _ h1, h2, h3.keeps k⟩

noncomputable def RetQ (Q : Value → Shared → Prop) : Flow → Shared → Prop := fun f s' => Q (match f with | .ret v => v | _ => .none) s'

section
variable {prog : Program} {w : World} {A : Around} {s : Shared} {E : Value → Shared → Prop} {Q : Value → Shared → Prop}

theorem enter {f : FD} {v dV : Value} {n : Nat} {S : Stab} {vs : List Value} {binds : List (Str × Value)} {G : Vars} (hl : s.heap.NoLimit) (fo : FnOK s.heap v f dV) (rm : Rm A (n + 1)) (hS : SubH S s.heap)
    (hbind : ∀ doc pm an cdv ct, BindsTo s (fnOf f.name f.name f.params f.body f.scope dV .none doc pm an cdv ct) ⟨vs, []⟩ binds)
    (hvars : ∀ L a cd, ∀ x e, G.lookup x = some e → ∃ u, Holds S (envOf f.name f.scope L a cd) (fun y => binds.reverse.lookup y) x u ∧ e.ok S u)
    (h : ∀ L a cd h₁ tk A' E', Rm A' n → Frm s.heap S S (envOf f.name f.scope L a cd) G [] h₁ →
      wpAny (model prog w) A' (execs f.body (envOf f.name f.scope L a cd)) (RetQ Q) E' { s with heap := h₁, toks := tk })
    (hcell : ∀ x ∈ f.scope.names, x.2 ≠ .cell := by decide) (hloc : ∀ x ∈ binds, f.scope.names.lookup x.1 = some .local := by exact locs rfl)
    (hco : f.scope.isCoroutine = false := by rfl) (hgen : f.scope.isGenerator = false := by rfl) (hk : f.scope.kind = .function := by rfl) :
    wpAny (model prog w) A (call v vs) Q E s := by
  obtain ⟨a, o, doc, pm, an, cdv, ct, rfl, ho, hd, hc⟩ := fo
  refine wpAny_call (codeAny_call_def (fd := fnOf f.name f.name f.params f.body f.scope dV .none doc pm an cdv ct) (body := f.body) (binds := binds) (by have := rm.dp; omega) ho hd hl hc rfl (hbind doc pm an cdv ct) hcell hloc (fun h₁ hns hk₁ => ?_) hco hgen hk)
  refine wpAny_mono (h s.heap.objs.size a cdv h₁ _ _ _ (rm.deeper _) ?_) (fun f s' q => q) (fun _ _ e => e)
  exact
  { fk := hk, gl := rfl, bl := rfl, base := hk₁, sb := Sb.refl S
    sub := fun b o e => hk₁ b o (hS b o e)
    new := fun b o e => .inl e
    nLB := by
      cases z : s.heap.get? s.heap.objs.size with
      | none => exact z
      | some o => exact absurd (Heap.lt_size z) (Nat.lt_irrefl _)
    nLS := by
      cases z : S s.heap.objs.size with
      | none => exact z
      | some o => exact absurd (Heap.lt_size (hS _ _ z)) (Nat.lt_irrefl _)
    mus := fun p hp => nomatch hp
    nd := List.nodup_nil
    vars := ⟨_, hns, hvars _ _ _⟩ }

noncomputable def plainArgs : List Expr → Env → List (Bool × Sem Value)
  | [], _ => []
  | e :: r, env => (false, eval e env) :: plainArgs r env
theorem splitArgs {Q : List Value → Shared → Prop} {e : Expr} {r : List Expr} {env : Env} (h : wpAny (model prog w) A (eval e env) (fun v s₁ => wpAny (model prog w) A (spliced (plainArgs r env)) (fun vs s₂ => Q (v :: vs) s₂) E s₁) E s) :
    wpAny (model prog w) A (spliced (plainArgs (e :: r) env)) Q E s := spliced_cons h
theorem endArgs {Q : List Value → Shared → Prop} {env : Env} (h : Q [] s) : wpAny (model prog w) A (spliced (plainArgs [] env)) Q E s := spliced_nil h
theorem tupleE {elts : List Expr} {k : Nat} {pos : Pos} {env : Env} (h : wpAny (model prog w) A (spliced (plainArgs elts env)) (fun vs s₁ => wpAny (model prog w) A (newTuple vs) Q E s₁) E s) (ht : backTo pos (starEach elts env) = plainArgs elts env := by rfl) :
    wpAny (model prog w) A (eval (.Tuple elts k pos) env) Q E s := Tuple_ (by rw [ht]; exact h)
theorem listDispE {elts : List Expr} {pos : Pos} {env : Env} (h : wpAny (model prog w) A (spliced (plainArgs elts env)) (fun vs s₁ => wpAny (model prog w) A (newList vs) Q E s₁) E s) (ht : backTo pos (starEach elts env) = plainArgs elts env := by rfl) :
    wpAny (model prog w) A (eval (.List elts pos) env) Q E s := List_ (by rw [ht]; exact h)

theorem callE {B : Heap} {S₀ S : Stab} {env : Env} {G : Vars} {mu : Muts} {mg : Str → Option Value} {x : Str} {p pos : Pos} {e : Expr} {r : List Expr} {fv dV : Value} {f : FD}
    (F : Frm B S₀ S env G mu s.heap) (g : B.Ns mainGlobals mg) (hv : mg x = some fv) (fo : FnOK B fv f dV)
    (h : wpAny (model prog w) A (spliced (plainArgs (e :: r) env)) (fun vs s₁ => Kp B s₁.heap ∧ wpAny (model prog w) A (call fv vs) Q E s₁) E s)
    (hx : env.kindOf x = some .globalImplicit := by rfl) (ht : backTo pos (starEach (e :: r) env) = plainArgs (e :: r) env := by rfl)
    (hd : (x == ("__debug__" : Str)) = false := by decide) :
    wpAny (model prog w) A (eval (.Call (.Name x p) (e :: r) [] pos) env) Q E s := by
  obtain ⟨a, o, doc, pm, an, cdv, ct, rfl, ho, hdt, hc⟩ := fo
  refine wpAny_Call_NameR (Name_function_global F.fk hx (loadGlobal_global (by rw [F.gl]; exact g.keeps F.base) hv ?_) hd)
  rw [ht]
  refine callWith_function (evalArgs_plain (wpAny_mono h (fun vs s₁ h₁ => ⟨⟨h₁.1 _ _ ho, hdt⟩, ?_⟩) fun _ _ e => e))
  exact h₁.2

/-- a built-in called by its name -/
theorem bcallE {B : Heap} {S₀ S : Stab} {env : Env} {G : Vars} {mu : Muts} {mg mb : Str → Option Value} {x : Str} {p pos : Pos} {e : Expr} {r : List Expr} {id : String}
    (F : Frm B S₀ S env G mu s.heap) (g : B.Ns mainGlobals mg) (b : B.Ns builtinsNs mb) (hm : mg x = none) (hv : mb x = some (.builtin id))
    (h : wpAny (model prog w) A (spliced (plainArgs (e :: r) env)) (fun vs s₁ => wpAny (model prog w) A (call (.builtin id) vs) Q E s₁) E s)
    (hx : env.kindOf x = some .globalImplicit := by rfl) (ht : backTo pos (starEach (e :: r) env) = plainArgs (e :: r) env := by rfl)
    (hpl : ((plainArgs (e :: r) env).any (·.1)) = false := by rfl)
    (hd : (x == ("__debug__" : Str)) = false := by decide) :
    wpAny (model prog w) A (eval (.Call (.Name x p) (e :: r) [] pos) env) Q E s := by
  refine wpAny_Call_NameR (Name_function_global F.fk hx (loadGlobal_builtin (by rw [F.gl]; exact g.keeps F.base) hm (by rw [F.bl]; exact b.keeps F.base) hv ?_) hd)
  rw [ht]
  refine callWith_builtin hpl ?_
  exact evalArgs_plain (wpAny_mono h (fun vs s₁ h₁ => h₁) fun _ _ e => e)
/-- a built-in type called by its name -/
theorem tcallE {B : Heap} {S₀ S : Stab} {env : Env} {G : Vars} {mu : Muts} {mg mb : Str → Option Value} {x : Str} {p pos : Pos} {e : Expr} {r : List Expr} {T : String}
    (F : Frm B S₀ S env G mu s.heap) (g : B.Ns mainGlobals mg) (b : B.Ns builtinsNs mb) (hm : mg x = none) (hv : mb x = some (.type T))
    (h : wpAny (model prog w) A (spliced (plainArgs (e :: r) env)) (fun vs s₁ => wpAny (model prog w) A (call (.type T) vs) Q E s₁) E s)
    (hx : env.kindOf x = some .globalImplicit := by rfl) (ht : backTo pos (starEach (e :: r) env) = plainArgs (e :: r) env := by rfl)
    (hpl : ((plainArgs (e :: r) env).any (·.1)) = false := by rfl)
    (hd : (x == ("__debug__" : Str)) = false := by decide) :
    wpAny (model prog w) A (eval (.Call (.Name x p) (e :: r) [] pos) env) Q E s := by
  refine wpAny_Call_NameR (Name_function_global F.fk hx (loadGlobal_builtin (by rw [F.gl]; exact g.keeps F.base) hm (by rw [F.bl]; exact b.keeps F.base) hv ?_) hd)
  rw [ht]
  refine PySem.callWith_type hpl ?_
  exact evalArgs_plain (wpAny_mono h (fun vs s₁ h₁ => h₁) fun _ _ e => e)
end

section
variable {prog : Program} {w : World} {A : Around} {s : Shared} {E : Value → Shared → Prop}
variable {B : Heap} {S₀ S : Stab} {env : Env} {G : Vars} {mu : Muts}

theorem loadV {Q : Value → Shared → Prop} {x : Str} {e : Ent} (F : Frm B S₀ S env G mu s.heap) (hl : G.lookup x = some e) (k : ∀ v, e.ok S v → Q v s) : wpAny (model prog w) A (loadName env x) Q E s := by
  obtain ⟨m, hn, hv⟩ := F.vars
  obtain ⟨v, hh, he⟩ := hv x e hl
  rcases hh with ⟨h1, h2⟩ | ⟨h1 | ⟨h1, h2⟩, c, o, hc, ho, hd⟩
  · exact wpAny_loadName_local F.fk h1 hn h2 (k v he)
  · exact wpAny_loadName_cell F.fk h1 hc ⟨o, F.sub _ _ ho, hd⟩ (k v he)
  · exact wpAny_loadName_free F.fk h1 hc ⟨o, F.sub _ _ ho, hd⟩ (k v he) h2
theorem ldV {Q : Value → Shared → Prop} {x : Str} {pos : Pos} {e : Ent} (F : Frm B S₀ S env G mu s.heap) (hl : G.lookup x = some e) (k : ∀ v, e.ok S v → Q v s) (hd : (x == ("__debug__" : Str)) = false := by decide) :
    wpAny (model prog w) A (eval (.Name x pos) env) Q E s := wpAny_Name (loadV F hl k) hd
theorem ldI {Q : Value → Shared → Prop} {x : Str} {pos : Pos} {i : Int} (F : Frm B S₀ S env G mu s.heap) (hl : G.lookup x = some (.dat (.int i))) (k : ∀ t, Q (.int i t) s) (hd : (x == ("__debug__" : Str)) = false := by decide) :
    wpAny (model prog w) A (eval (.Name x pos) env) Q E s := ldV F hl (fun v h => by obtain ⟨t, rfl⟩ := (rep_int (S := S)).mp h; exact k t) hd
theorem ldB {Q : Value → Shared → Prop} {x : Str} {pos : Pos} {b : Bool} (F : Frm B S₀ S env G mu s.heap) (hl : G.lookup x = some (.dat (.bool b))) (k : Q (.bool b) s) (hd : (x == ("__debug__" : Str)) = false := by decide) :
    wpAny (model prog w) A (eval (.Name x pos) env) Q E s := ldV F hl (fun v h => by rw [(rep_bool (S := S)).mp h]; exact k) hd
theorem ldD {Q : Value → Shared → Prop} {x : Str} {pos : Pos} {d : PyData} (F : Frm B S₀ S env G mu s.heap) (hl : G.lookup x = some (.dat d)) (k : ∀ v, Rep S d v → Q v s) (hd : (x == ("__debug__" : Str)) = false := by decide) :
    wpAny (model prog w) A (eval (.Name x pos) env) Q E s := ldV F hl (fun v h => k v h) hd
theorem ldX {Q : Value → Shared → Prop} {x : Str} {pos : Pos} {v : Value} (F : Frm B S₀ S env G mu s.heap) (hl : G.lookup x = some (.val v)) (k : Q v s) (hd : (x == ("__debug__" : Str)) = false := by decide) :
    wpAny (model prog w) A (eval (.Name x pos) env) Q E s := ldV F hl (fun u h => by rw [show u = v from h]; exact k) hd
theorem loadI {Q : Value → Shared → Prop} {x : Str} {i : Int} (F : Frm B S₀ S env G mu s.heap) (hl : G.lookup x = some (.dat (.int i))) (k : ∀ t, Q (.int i t) s) : wpAny (model prog w) A (loadName env x) Q E s :=
  loadV F hl (fun v h => by obtain ⟨t, rfl⟩ := (rep_int (S := S)).mp h; exact k t)

theorem stE {Q : Unit → Shared → Prop} {x : Str} {v : Value} (e : Ent) (F : Frm B S₀ S env G mu s.heap) (he : e.ok S v) (k : ∀ h', Frm B S₀ S env ((x, e) :: G) mu h' → Q () { s with heap := h', toks := s.toks + 1 })
    (hx : env.kindOf x = some .local := by rfl) : wpAny (model prog w) A (storeName env x v) Q E s := by
  obtain ⟨m, hn, hv⟩ := F.vars
  exact wpAny_storeName_local hx hn (fun h' hn' hs => k h' (F.store hn hv hx he hn' hs)) (by rw [F.fk]; rfl)
theorem stI {Q : Unit → Shared → Prop} {x : Str} {i : Int} {t : Tok} (F : Frm B S₀ S env G mu s.heap) (k : ∀ h', Frm B S₀ S env ((x, .dat (.int i)) :: G) mu h' → Q () { s with heap := h', toks := s.toks + 1 })
    (hx : env.kindOf x = some .local := by rfl) : wpAny (model prog w) A (storeName env x (.int i t)) Q E s := stE (.dat (.int i)) F (repI S _ _) k hx
theorem stB {Q : Unit → Shared → Prop} {x : Str} {b : Bool} (F : Frm B S₀ S env G mu s.heap) (k : ∀ h', Frm B S₀ S env ((x, .dat (.bool b)) :: G) mu h' → Q () { s with heap := h', toks := s.toks + 1 })
    (hx : env.kindOf x = some .local := by rfl) : wpAny (model prog w) A (storeName env x (.bool b)) Q E s := stE (.dat (.bool b)) F (repB S _) k hx
theorem stD {Q : Unit → Shared → Prop} {x : Str} {v : Value} {d : PyData} (F : Frm B S₀ S env G mu s.heap) (r : Rep S d v) (k : ∀ h', Frm B S₀ S env ((x, .dat d) :: G) mu h' → Q () { s with heap := h', toks := s.toks + 1 })
    (hx : env.kindOf x = some .local := by rfl) : wpAny (model prog w) A (storeName env x v) Q E s := stE (.dat d) F r k hx
theorem stX {Q : Unit → Shared → Prop} {x : Str} {v : Value} (F : Frm B S₀ S env G mu s.heap) (k : ∀ h', Frm B S₀ S env ((x, .val v) :: G) mu h' → Q () { s with heap := h', toks := s.toks + 1 })
    (hx : env.kindOf x = some .local := by rfl) : wpAny (model prog w) A (storeName env x v) Q E s := stE (.val v) F rfl k hx

theorem size_none (h : Heap) : h.get? h.objs.size = none := by
  cases z : h.get? h.objs.size with
  | none => rfl
  | some o => exact absurd (Heap.lt_size z) (Nat.lt_irrefl _)

/-- a tuple display -/
theorem tupE {Q : Value → Shared → Prop} {vs : List Value} {ds : List PyData} (F : Frm B S₀ S env G mu s.heap) (r : RepL S ds vs)
    (k : ∀ a h' S', Sb S S' → Kp s.heap h' → Frm B S₀ S' env G mu h' → Rep S' (.tuple ds) (.ref a) → Q (.ref a) { s with heap := h' }) (hsz : Nat.ble vs.length sizeLine = true := by rfl) : wpAny (model prog w) A (newTuple vs) Q E s := by
  refine wpAny_newObj_type ?_ (by show vs.toArray.size ≤ sizeLine; rw [List.size_toArray]; exact Nat.le_of_ble_eq_true hsz)
  obtain ⟨sb, e, F'⟩ := F.newS (h' := s.heap.push { cls := .type "tuple", dict := none, data := .seq vs.toArray }) (fun b o e => Heap.get?_push_of_some _ e) (size_none _) (Heap.get?_push_size _ rfl)
  exact k _ _ _ sb (fun b o e => Heap.get?_push_of_some _ e) F' (rep_tuple.mpr ⟨_, _, _, _, rfl, e, rfl, rfl, by simpa using r.mono sb⟩)
/-- a list display that is not turned any more -/
theorem listE {Q : Value → Shared → Prop} {vs : List Value} {ds : List PyData} (F : Frm B S₀ S env G mu s.heap) (r : RepL S ds vs)
    (k : ∀ a h' S', Sb S S' → Kp s.heap h' → Frm B S₀ S' env G mu h' → Rep S' (.list ds) (.ref a) → Q (.ref a) { s with heap := h' }) (hsz : Nat.ble vs.length sizeLine = true := by rfl) : wpAny (model prog w) A (newList vs) Q E s := by
  refine wpAny_newObj_type ?_ (by show vs.toArray.size ≤ sizeLine; rw [List.size_toArray]; exact Nat.le_of_ble_eq_true hsz)
  obtain ⟨sb, e, F'⟩ := F.newS (h' := s.heap.push { cls := .type "list", dict := none, data := .seq vs.toArray }) (fun b o e => Heap.get?_push_of_some _ e) (size_none _) (Heap.get?_push_size _ rfl)
  exact k _ _ _ sb (fun b o e => Heap.get?_push_of_some _ e) F' (rep_list.mpr ⟨_, _, _, _, rfl, e, rfl, rfl, by simpa using r.mono sb⟩)
/-- a list of the call's own, to be turned -/
noncomputable def isL (vs : List Value) : Obj → Prop := fun o => ∃ n, o = { cls := .type "list", data := .seq vs.toArray n }
theorem listM {Q : Value → Shared → Prop} {vs : List Value} (F : Frm B S₀ S env G mu s.heap)
    (k : ∀ a h', Frm B S₀ S env G ((a, isL vs) :: mu) h' → Q (.ref a) { s with heap := h' }) (hsz : Nat.ble vs.length sizeLine = true := by rfl) : wpAny (model prog w) A (newList vs) Q E s := by
  refine wpAny_newObj_type ?_ (by show vs.toArray.size ≤ sizeLine; rw [List.size_toArray]; exact Nat.le_of_ble_eq_true hsz)
  exact k _ _ (F.newM (h' := s.heap.push { cls := .type "list", dict := none, data := .seq vs.toArray }) (fun b o e => Heap.get?_push_of_some _ e) (size_none _) (Heap.get?_push_size _ rfl) ⟨0, rfl⟩)
theorem isL_isList {h : Heap} {a : Addr} {o : Obj} {vs : List Value} (ho : h.get? a = some o) (hp : isL vs o) : h.IsList a vs.toArray := by
  obtain ⟨n, rfl⟩ := hp; exact ⟨_, ho, rfl, n, rfl⟩
theorem Frm.isList {a : Addr} {vs : List Value} {h : Heap} (F : Frm B S₀ S env G ((a, isL vs) :: mu) h) : h.IsList a vs.toArray := by
  obtain ⟨o, ho, hp⟩ := F.is; exact isL_isList ho hp
theorem Frm.isListM {a : Addr} {vs : List Value} {h : Heap} (F : Frm B S₀ S env G mu h) (hm : (a, isL vs) ∈ mu) : h.IsList a vs.toArray := by
  obtain ⟨⟨o, ho, hp⟩, _⟩ := F.mus _ hm; exact isL_isList ho hp
theorem appM {Q : Value → Shared → Prop} {a : Addr} {vs : List Value} {y : Value} (F : Frm B S₀ S env G ((a, isL vs) :: mu) s.heap) (hsz : vs.length ≤ sizeLine)
    (k : ∀ h', Frm B S₀ S env G ((a, isL (vs ++ [y])) :: mu) h' → Q .none { s with heap := h' }) : wpAny (model prog w) A (call (.builtin "list.append") [.ref a, y]) Q E s := by
  obtain ⟨o, ho, n, rfl⟩ := F.is
  refine wpAny_list_append_plain ⟨n, ho⟩ (fun h' hl hs => ?_) (by rw [List.size_toArray]; exact hsz)
  obtain ⟨n', ho'⟩ := hl
  exact k h' (F.upd hs.extBut ho' ⟨n', by simp⟩)
/-- a mutable list comes to rest -/
theorem Frm.rest {a : Addr} {vs : List Value} {ds : List PyData} {h : Heap} (F : Frm B S₀ S env G ((a, isL vs) :: mu) h) (r : RepL S ds vs) : ∃ S', Sb S S' ∧ Rep S' (.list ds) (.ref a) ∧ Frm B S₀ S' env G mu h := by
  obtain ⟨o, ⟨n, rfl⟩, ho, sb, e, F'⟩ := F.freeze
  exact ⟨_, sb, rep_list.mpr ⟨_, _, _, _, rfl, e, rfl, rfl, by simpa using r.mono sb⟩, F'⟩

/-- facts of data -/
theorem rep_isList {h : Heap} {ds : List PyData} {v : Value} (k : SubH S h) (r : Rep S (.list ds) v) : ∃ a vs, v = .ref a ∧ h.IsList a vs.toArray ∧ RepL S ds vs ∧ ∃ o, S a = some o ∧ o.cls = .type "list" := by
  obtain ⟨a, o, vs, n, e, h1, h2, h3, r⟩ := rep_list.mp r
  exact ⟨a, vs.toList, e, ⟨o, k _ _ h1, h2, n, by simpa using h3⟩, r, o, h1, h2⟩
theorem rep_isTuple {h : Heap} {ds : List PyData} {v : Value} (k : SubH S h) (r : Rep S (.tuple ds) v) : ∃ a vs, v = .ref a ∧ h.IsTuple a vs.toArray ∧ RepL S ds vs ∧ ∃ o, S a = some o := by
  obtain ⟨a, o, vs, n, e, h1, h2, h3, r⟩ := rep_tuple.mp r
  exact ⟨a, vs.toList, e, ⟨o, k _ _ h1, h2, n, by simpa using h3⟩, r, o, h1⟩

/-- len of a list of data -/
theorem lenE {Q : Value → Shared → Prop} {ds : List PyData} {v : Value} (F : Frm B S₀ S env G mu s.heap) (r : Rep S (.list ds) v) (hsz : ds.length < 2 ^ 62) (k : ∀ t tk, Q (.int ds.length t) { s with toks := tk }) :
    wpAny (model prog w) A (call (.builtin "len") [v]) Q E s := by
  obtain ⟨a, vs, rfl, hl, hr, _⟩ := rep_isList F.sub r
  refine call_len_list hl (by rw [List.size_toArray, hr.length]; omega) ?_
  rw [List.size_toArray, hr.length]; exact k _ _
end
noncomputable def tgtOk : Expr → Bool
  | .Name .. => true
  | .Tuple .. => true
  | _ => false

/-- an iterator at I that hands out data of ds, one by one -/
structure Src (prog : Program) (w : World) (S : Stab) (I : Addr) (ds : List PyData) (P : Nat → Obj → Prop) : Prop where
  item : ∀ (A : Around) i d (s : Shared) (Q : Option Value → Shared → Prop) (E : Value → Shared → Prop), ds[i]? = some d → SubH S s.heap → (∃ o, s.heap.get? I = some o ∧ P i o) →
    (∀ v h' tk, Rep S d v → (∃ o, h'.get? I = some o ∧ P (i + 1) o) → Heap.ExtBut I s.heap h' → Q (some v) { s with heap := h', toks := tk }) → wpAny (model prog w) A (pyNext (.ref I)) Q E s
  done : ∀ (A : Around) (s : Shared) (Q : Option Value → Shared → Prop) (E : Value → Shared → Prop), A.handled = none → SubH S s.heap → (∃ o, s.heap.get? I = some o ∧ P ds.length o) →
    (∀ h', Heap.ExtBut I s.heap h' → Q none { s with heap := h' }) → wpAny (model prog w) A (pyNext (.ref I)) Q E s
  self : ∀ (A : Around) i (s : Shared) (Q : Value → Shared → Prop) (E : Value → Shared → Prop), (∃ o, s.heap.get? I = some o ∧ P i o) → Q (.ref I) s → wpAny (model prog w) A (pyIter (.ref I)) Q E s
  go : ∀ (A : Around) i (s : Shared) (Q : Unit → Shared → Prop) (E : Value → Shared → Prop) (target : Expr) (v : Value), tgtOk target = true → (∃ o, s.heap.get? I = some o ∧ P i o) → Q () s → wpAny (model prog w) A (letOwnedTupleGo target (.ref I) v) Q E s

theorem Src.mono {prog : Program} {w : World} {S S' : Stab} {I : Addr} {ds : List PyData} {P : Nat → Obj → Prop} (X : Src prog w S I ds P) (h : Sb S S') : Src prog w S' I ds P where
  item := fun A i d s Q E hd hs ho k => X.item A i d s Q E hd (fun b o e => hs b o (h b o e)) ho fun v h' tk r => k v h' tk (r.mono h)
  done := fun A s Q E hh hs ho k => X.done A s Q E hh (fun b o e => hs b o (h b o e)) ho k
  self := X.self
  go := X.go

theorem go_any {prog : Program} {w : World} {A : Around} {I : Addr} {s : Shared} {Q : Unit → Shared → Prop} {E : Value → Shared → Prop} {target : Expr} {v : Value} {o : Obj} {n : String} {vs : Array Value} (ht : tgtOk target = true) (ho : s.heap.get? I = some o)
    (hc : o.cls = .type n) (hd : o.data = .fields vs) (hn : (["enumerate", "zip", "dict_itemiterator", "dict_reverseitemiterator", "odict_iterator", "itertools.zip_longest", "itertools.pairwise"].contains n) = false) (h : Q () s) :
    wpAny (model prog w) A (letOwnedTupleGo target (.ref I) v) Q E s := by
  have key : ∀ (es : List Expr) (c : Nat) (pos : Pos), wpAny (model prog w) A (letOwnedTupleGo (.Tuple es c pos) (.ref I) v) Q E s := fun es c pos => by
    unfold letOwnedTupleGo
    cases v <;> first | exact wpAny_pure h | skip
    refine wpAny_bind (wpAny_load ho ?_)
    rw [hc, hd]
    dsimp only
    rw [hn]
    exact wpAny_pure h
  cases target <;> first | exact (Bool.false_ne_true ht).elim | exact key _ _ _ | exact wpAny_pure h

theorem Src.list {prog : Program} {w : World} {S : Stab} {I a : Addr} {ds : List PyData} {vs : List Value} {o : Obj} {n : Nat} (ha : S a = some o) (hc : o.cls = .type "list") (hd : o.data = .seq vs.toArray n) (r : RepL S ds vs) :
    Src prog w S I ds (fun i o => o.cls = .type "list_iterator" ∧ o.data = .fields #[.ref a, .int i 0]) where
  item := fun A i d s Q E hi hs ho k => by
    obtain ⟨v, hv, hr⟩ := r.get hi
    obtain ⟨oi, ho, h1, h2⟩ := ho
    refine wpAny_pyNext_list_item ⟨oi, ho, h1, h2⟩ ⟨o, hs _ _ ha, hc, n, hd⟩ (x := v) (by simpa using hv) fun h' hit hsb => ?_
    exact k v h' s.toks hr hit hsb.extBut
  done := fun A s Q E hh hs ho k => by
    obtain ⟨oi, ho, h1, h2⟩ := ho
    refine wpAny_pyNext_list_end hh ⟨oi, ho, h1, h2⟩ ⟨o, hs _ _ ha, hc, n, hd⟩ (by have := r.length; simp [this]) k
  self := fun A i s Q E ho h => wpAny_pyIter_listiter ho h
  go := fun A i s Q E target v ht ho h => by
    obtain ⟨oi, ho, h1, h2⟩ := ho
    exact go_any ht ho h1 h2 (by decide) h

theorem Src.range {prog : Program} {w : World} {S : Stab} {I : Addr} (a : Int) (n : Nat) :
    Src prog w S I ((List.range n).map fun i : Nat => PyData.int (a + (i : Int))) (fun i o => o = { cls := .type "range_iterator", data := .fields #[rawInt (a + (i : Nat) * 1), rawInt ((n : Int) - (i : Nat)), rawInt 1] }) where
  item := fun A i d s Q E hi hs ho k => by
    obtain ⟨oi, ho, rfl⟩ := ho
    have hlt : i < n := by
      rcases Nat.lt_or_ge i n with h | h
      · exact h
      · rw [List.getElem?_eq_none (by simpa using h)] at hi; cases hi
    have hd : d = .int (a + i) := by simp [hlt] at hi; exact hi.symm
    subst hd
    refine wpAny_pyNext_range_item ho (by omega) fun h' hit hsb => ?_
    refine k (.int (a + (i : Int) * 1) s.toks) h' _ (rep_int.mpr ⟨s.toks, by simp⟩) ⟨_, hit, ?_⟩ hsb.extBut
    have e1 : a + ((i + 1 : Nat) : Int) * 1 = a + (i : Int) * 1 + 1 := by push_cast; omega
    have e2 : (n : Int) - ((i + 1 : Nat) : Int) = (n : Int) - (i : Int) - 1 := by push_cast; omega
    rw [e1, e2]
  done := fun A s Q E hh hs ho k => by
    obtain ⟨oi, ho, rfl⟩ := ho
    simp only [List.length_map, List.length_range] at ho
    exact wpAny_pyNext_range_end hh ho (by omega) k
  self := fun A i s Q E ho h => by
    obtain ⟨oi, ho, rfl⟩ := ho
    exact wpAny_pyIter_rangeiter ho h
  go := fun A i s Q E target v ht ho h => by
    obtain ⟨oi, ho, rfl⟩ := ho
    exact go_any ht ho rfl rfl (by decide) h

/-- iter(v) hands out ds -/
noncomputable def IterOf (prog : Program) (w : World) (S : Stab) (v : Value) (ds : List PyData) : Prop :=
  ∀ (A : Around) (s : Shared) (K : Value → Shared → Prop) (E : Value → Shared → Prop), SubH S s.heap →
    (∀ I h' P, Src prog w S I ds P → Kp s.heap h' → s.heap.get? I = none → (∃ o, h'.get? I = some o ∧ P 0 o) → K (.ref I) { s with heap := h' }) → wpAny (model prog w) A (pyIter v) K E s
theorem IterOf.mono {prog : Program} {w : World} {S S' : Stab} {v : Value} {ds : List PyData} (X : IterOf prog w S v ds) (h : Sb S S') : IterOf prog w S' v ds :=
  fun A s K E hs k => X A s K E (fun b o e => hs b o (h b o e)) fun I h' P Y => k I h' P (Y.mono h)
theorem IterOf.list {prog : Program} {w : World} {S : Stab} {v : Value} {ds : List PyData} (r : Rep S (.list ds) v) : IterOf prog w S v ds := fun A s K E hs k => by
  obtain ⟨a, o, vs, n, rfl, h1, h2, h3, r⟩ := rep_list.mp r
  refine wpAny_pyIter_list (items := vs) ⟨o, hs _ _ h1, h2, n, h3⟩ ?_
  exact k _ _ _ (Src.list h1 h2 (by simpa using h3) r) (fun b o e => Heap.get?_push_of_some _ e) (size_none _) ⟨_, Heap.get?_push_size _ rfl, rfl, rfl⟩

/-- range(a, b) is made: its value in S -/
noncomputable def isRange (a b : Int) (o : Obj) : Prop := ∃ t u v, o = { cls := .type "range", data := .fields #[.int a t, .int b u, .int 1 v] }
theorem IterOf.range {prog : Program} {w : World} {S : Stab} {r : Addr} {o : Obj} {a b : Int} {n : Nat} (h : S r = some o) (ho : isRange a b o) (ha : -(2 ^ 62) ≤ a) (ha' : a < 2 ^ 62) (hb : -(2 ^ 62) ≤ b) (hb' : b < 2 ^ 62) (hn : n = (b - a).toNat) :
    IterOf prog w S (.ref r) ((List.range n).map fun i : Nat => PyData.int (a + (i : Int))) := fun A s K E hs k => by
  obtain ⟨t, u, v, rfl⟩ := ho
  refine wpAny_pyIter_range (hs _ _ h) (small_one ha ha' hb hb') ?_
  have e : Builtin.Range.rangeSize a b 1 = (n : Int) := by rw [rangeSize_one]; split <;> omega
  rw [e]
  exact k _ _ _ (Src.range a n) (fun b o e => Heap.get?_push_of_some _ e) (size_none _) ⟨_, Heap.get?_push_size _ rfl, by simp⟩

section
variable {prog : Program} {w : World} {A : Around} {s : Shared} {E : Value → Shared → Prop}
variable {B : Heap} {S₀ S : Stab} {env : Env} {G : Vars} {mu : Muts}

noncomputable def LInv (J : Nat → Stab → Vars → Muts → Prop) (B : Heap) (S₀ S : Stab) (env : Env) (s : Shared) (p : Addr × (Obj → Prop)) (j : Nat) (s₃ : Shared) : Prop :=
  ∃ S' G' mu' h' tk', s₃ = { s with heap := h', toks := tk' } ∧ Sb S S' ∧ J j S' G' mu' ∧ Frm B S₀ S' env G' (mu' ++ [p]) h'
noncomputable def BodyQ (R : Result → Shared → Prop) (I : Shared → Prop) (f : Flow) (s₃ : Shared) : Prop := match f with
  | .next => I s₃
  | .cont => I s₃
  | .brk => R (.ok .next) s₃
  | .ret z => R (.ok (.ret z)) s₃

theorem Frm.front {p : Addr × (Obj → Prop)} {h : Heap} (F : Frm B S₀ S env G (mu ++ [p]) h) : Frm B S₀ S env G (p :: mu) h := F.perm (List.perm_append_singleton p mu)
theorem Frm.back {p : Addr × (Obj → Prop)} {h : Heap} (F : Frm B S₀ S env G (p :: mu) h) : Frm B S₀ S env G (mu ++ [p]) h := F.perm (List.perm_append_singleton p mu).symm

/-- an object that was turned is let go -/
theorem Frm.dropX {I : Addr} {P : Obj → Prop} {h h₁ : Heap} (Fd : Frm B S₀ S env G ((I, P) :: mu) h) (hx : Heap.ExtBut I h h₁) : Frm B S₀ S env G mu h₁ := by
  obtain ⟨_, hL, hS, hB⟩ := Fd.mus (I, P) (.head _)
  have ne : ∀ p ∈ mu, p.1 ≠ I := fun p hp e => by
    have := Fd.nd
    rw [List.map_cons, List.nodup_cons] at this
    exact this.1 (List.mem_map.mpr ⟨p, hp, e⟩)
  exact
  { fk := Fd.fk, gl := Fd.gl, bl := Fd.bl
    base := fun b o' e => hx b o' (fun q => by subst q; rw [hB] at e; cases e) (Fd.base b o' e)
    sb := Fd.sb
    sub := fun b o' e => hx b o' (fun q => by subst q; rw [hS] at e; cases e) (Fd.sub b o' e)
    new := Fd.new, nLB := Fd.nLB, nLS := Fd.nLS
    mus := fun p hm => by
      obtain ⟨⟨q, h1, h2⟩, r⟩ := Fd.mus p (.tail _ hm)
      exact ⟨⟨q, hx _ _ (ne p hm) h1, h2⟩, r⟩
    nd := Fd.drop.nd
    vars := by
      obtain ⟨m, hn, hv⟩ := Fd.vars
      exact ⟨m, hn.extBut hx (Ne.symm hL), hv⟩ }

/-- a for over a source -/
theorem forS {R : Result → Shared → Prop} {α : Type} {xs : List α} {enc : α → PyData} {target : Expr} {body : List Stmt} {I : Addr} {P : Nat → Obj → Prop} (hh : A.handled = none) (X : Src prog w S I (xs.map enc) P) (F : Frm B S₀ S env G ((I, P 0) :: mu) s.heap) (J : Nat → Stab → Vars → Muts → Prop) (h0 : J 0 S G mu)
    (turn : ∀ (i : Nat) (a : α) (S' : Stab) (G' : Vars) (mu' : Muts) (p : Addr × (Obj → Prop)) (h : Heap) (tk : Nat) (u : Value) (E' : Value → Shared → Prop), xs[i]? = some a → J i S' G' mu' → Sb S S' → Frm B S₀ S' env G' (mu' ++ [p]) h → Rep S' (enc a) u →
      wpAny (model prog w) A (assign target env u) (fun _ s₂ => wpAny (model prog w) A (execs body env) (BodyQ R (LInv J B S₀ S env s p (i + 1))) E' s₂) E' { s with heap := h, toks := tk })
    (done : ∀ S' G' mu' h tk, J xs.length S' G' mu' → Sb S S' → Frm B S₀ S' env G' mu' h → R (.ok .next) { s with heap := h, toks := tk })
    (ht : tgtOk target = true := by rfl) : codeAny (model prog w) A (.forLoop target (.ref I) body [] env) R s := by
  refine codeAny_forLoop_any (fun n s' => ∃ j, n = xs.length - j ∧ j ≤ xs.length ∧ LInv J B S₀ S env s (I, P j) j s') ?_ (xs.length - 0) ⟨0, rfl, Nat.zero_le _, S, G, mu, s.heap, s.toks, rfl, Sb.refl _, h0, F.back⟩
  rintro n s' ⟨j, rfl, hj, S', G', mu', h', tk', rfl, sb, hJ, F'⟩
  rcases Nat.lt_or_ge j xs.length with hlt | hge
  · refine (X.mono sb).item A j (enc xs[j]) _ _ _ (by simp [hlt]) F'.sub F'.front.is fun v h₁ tk₁ hr ho hx => ?_
    obtain ⟨o, ho, hp⟩ := ho
    have F₁ := (F'.front.upd hx ho hp)
    refine X.go A (j + 1) _ _ _ target v ht F₁.is ?_
    refine wpAny_mono (turn j xs[j] S' G' mu' (I, P (j + 1)) h₁ tk₁ v _ (by simp [hlt]) hJ sb F₁.back hr) (fun _ s₂ h₂ => ?_) fun _ _ e => e
    refine wpAny_mono h₂ (fun f s₃ h₃ => ?_) fun _ _ e => e
    have fin : LInv J B S₀ S env s (I, P (j + 1)) (j + 1) s₃ → ∃ m, m < xs.length - j ∧ ∃ j', m = xs.length - j' ∧ j' ≤ xs.length ∧ LInv J B S₀ S env s (I, P j') j' s₃ :=
      fun h => ⟨xs.length - (j + 1), by omega, j + 1, rfl, hlt, h⟩
    cases f with
    | next => exact fin h₃
    | cont => exact fin h₃
    | brk => exact h₃
    | ret z => exact h₃
  · have hj' : j = xs.length := Nat.le_antisymm hj hge
    subst hj'
    refine (X.mono sb).done A _ _ _ hh F'.sub (by simpa using F'.front.is) fun h₁ hx => ?_
    refine wpAny_execs_nil ?_
    exact done S' G' mu' h₁ tk' hJ sb (F'.front.dropX hx)

/-- «for target in v» behind the walk of v -/
theorem forE {R : Result → Shared → Prop} {α : Type} {xs : List α} {enc : α → PyData} {v : Value} {target : Expr} {body : List Stmt} (hh : A.handled = none) (X : IterOf prog w S v (xs.map enc)) (F : Frm B S₀ S env G mu s.heap) (J : Nat → Stab → Vars → Muts → Prop) (h0 : J 0 S G mu)
    (turn : ∀ (i : Nat) (a : α) (S' : Stab) (G' : Vars) (mu' : Muts) (p : Addr × (Obj → Prop)) (h : Heap) (tk : Nat) (u : Value) (E' : Value → Shared → Prop), xs[i]? = some a → J i S' G' mu' → Sb S S' → Frm B S₀ S' env G' (mu' ++ [p]) h → Rep S' (enc a) u →
      wpAny (model prog w) A (assign target env u) (fun _ s₂ => wpAny (model prog w) A (execs body env) (BodyQ R (LInv J B S₀ S env s p (i + 1))) E' s₂) E' { s with heap := h, toks := tk })
    (done : ∀ S' G' mu' h tk, J xs.length S' G' mu' → Sb S S' → Frm B S₀ S' env G' mu' h → R (.ok .next) { s with heap := h, toks := tk })
    (ht : tgtOk target = true := by rfl) : wpAny (model prog w) A (pyIter v) (fun it s₂ => codeAny (model prog w) A (.forLoop target it body [] env) R s₂) E s := by
  refine X A s _ _ F.sub fun I h' P Y k hn ho => ?_
  obtain ⟨o, ho, hp⟩ := ho
  exact forS hh Y (F.newM k hn ho hp) J h0 turn done ht
end

section
variable {prog : Program} {w : World} {A : Around} {s : Shared} {E : Value → Shared → Prop}
variable {B : Heap} {S₀ S : Stab} {env : Env} {G : Vars} {mu : Muts}

/-- what a turn of a comprehension shows -/
noncomputable def EltQ (B₁ : Heap) (S S' : Stab) (s₁ : Shared) (cenv : Env) (Gt : Vars) (mu' : Muts) (e : PyData) (y : Value) (s₅ : Shared) : Prop :=
  ∃ h5 tk5 S5, s₅ = { s₁ with heap := h5, toks := tk5 } ∧ Sb S' S5 ∧ Rep S5 e y ∧ Frm B₁ S S5 cenv Gt mu' h5
noncomputable def NoQ (B₁ : Heap) (S S' : Stab) (s₁ : Shared) (cenv : Env) (Gt : Vars) (mu' : Muts) (s₄ : Shared) : Prop :=
  ∃ h4 tk4 S4, s₄ = { s₁ with heap := h4, toks := tk4 } ∧ Sb S' S4 ∧ Frm B₁ S S4 cenv Gt mu' h4

theorem filter_take_succ {α : Type} {p : α → Bool} {xs : List α} {j : Nat} (h : j < xs.length) : (xs.take (j + 1)).filter p = (xs.take j).filter p ++ (if p xs[j] then [xs[j]] else []) := by
  rw [List.take_add_one, List.filter_append]
  simp only [List.getElem?_eq_getElem h, Option.toList_some, List.filter_cons, List.filter_nil]

/-- the loop of a comprehension -/
theorem compLoopS {R : Result → Shared → Prop} {α : Type} {xs : List α} {enc : α → PyData} (p : α → Bool) (g : α → PyData) {elt iter : Expr} {x : Str} {px : Pos} {ifs : List Expr} {scope : Scope} {pos : Pos} {cenv : Env} {Gc : Vars} {I D : Addr} {P : Nat → Obj → Prop}
    {h₀ : Heap} {tk₀ : Nat} {B₁ : Heap} (hh : A.handled = none) (X : Src prog w S I (xs.map enc) P) (hx : cenv.kindOf x = some .local) (hGx : Gc.lookup x = none) (hlen : xs.length ≤ sizeLine)
    (F : Frm B₁ S S cenv Gc [(I, P 0), (D, isL [])] h₀)
    (turn : ∀ (i : Nat) (a : α) (S' : Stab) (mu' : Muts) (h : Heap) (tk : Nat) (E' : Value → Shared → Prop), xs[i]? = some a → Sb S S' → Frm B₁ S S' cenv ((x, .dat (enc a)) :: Gc) mu' h →
      wpAny (model prog w) A (forIn ifs true fun c r => if r = true then do let ok ← isTrue c cenv (eval c cenv); pure (ForInStep.yield ok) else pure (ForInStep.yield r)) (fun ok s₄ =>
        if ok = true then p a = true ∧ wpAny (model prog w) A (eval elt cenv) (EltQ B₁ S S' s cenv ((x, .dat (enc a)) :: Gc) mu' (g a)) E' s₄
        else p a = false ∧ NoQ B₁ S S' s cenv ((x, .dat (enc a)) :: Gc) mu' s₄) E' { s with heap := h, toks := tk })
    (done : ∀ S' vs h tk, Sb S S' → RepL S' ((xs.filter p).map g) vs → Frm B₁ S S' cenv Gc [(D, isL vs)] h → R (.ok .next) { s with heap := h, toks := tk }) :
    codeAny (model prog w) A (.compLoop (.ListComp elt [⟨.Name x px, iter, ifs, 0⟩] scope pos) 0 (.ref I) (.ref D) cenv) R { s with heap := h₀, toks := tk₀ } := by
  refine codeAny_compLoop_tests (fun n s' => ∃ j S' vs h' tk', n = xs.length - j ∧ j ≤ xs.length ∧ s' = { s with heap := h', toks := tk' } ∧ Sb S S' ∧ RepL S' (((xs.take j).filter p).map g) vs ∧ Frm B₁ S S' cenv Gc [(I, P j), (D, isL vs)] h')
    ?_ (xs.length - 0) ⟨0, S, [], h₀, tk₀, rfl, Nat.zero_le _, rfl, Sb.refl _, RepL.nil S, F⟩
  rintro n s' ⟨j, S', vs, h', tk', rfl, hj, rfl, sb, hr, F'⟩
  rcases Nat.lt_or_ge j xs.length with hlt | hge
  · refine (X.mono sb).item A j (enc xs[j]) _ _ _ (by simp [hlt]) F'.sub F'.is fun v h₁ tk₁ hrv ho hxt => ?_
    obtain ⟨o, ho, hp⟩ := ho
    have F₁ := F'.upd hxt ho hp
    refine wpAny_assign_Name (stE (.dat (enc xs[j])) F₁ hrv (fun h₂ F₂ => ?_) hx)
    refine wpAny_mono (turn j xs[j] S' _ h₂ _ _ (by simp [hlt]) sb F₂) (fun ok s₄ h₄ => ?_) fun _ _ e => e
    cases ok with
    | true =>
      simp only [if_true] at h₄ ⊢
      refine wpAny_mono h₄.2 (fun y s₅ h₅ => ?_) fun _ _ e => e
      obtain ⟨h5, tk5, S5, rfl, sb5, hy, F5⟩ := h₅
      refine appM F5.swap ?_ fun h6 F6 => ?_
      · have := hr.length
        rw [this, List.length_map]
        have := List.length_filter_le p (xs.take j)
        have := List.length_take_le j xs
        omega
      · refine ⟨xs.length - (j + 1), by omega, j + 1, S5, vs ++ [y], h6, tk5, rfl, hlt, rfl, sb.trans sb5, ?_, (F6.swap).weak fun x' e' q => ?_⟩
        · rw [filter_take_succ hlt, if_pos h₄.1, List.map_append]
          exact (hr.mono sb5).snoc hy
        · rw [List.lookup_cons]
          by_cases z : (x' == x) = true
          · rw [eq_of_beq z, hGx] at q; cases q
          · simp only [z]; exact q
    | false =>
      simp only [Bool.false_eq_true, if_false] at h₄ ⊢
      obtain ⟨hpf, h4, tk4, S4, rfl, sb4, F4⟩ := h₄
      refine ⟨xs.length - (j + 1), by omega, j + 1, S4, vs, h4, tk4, rfl, hlt, rfl, sb.trans sb4, ?_, F4.weak fun x' e' q => ?_⟩
      · rw [filter_take_succ hlt, if_neg (by rw [hpf]; exact Bool.false_ne_true), List.append_nil]
        exact hr.mono sb4
      · rw [List.lookup_cons]
        by_cases z : (x' == x) = true
        · rw [eq_of_beq z, hGx] at q; cases q
        · simp only [z]; exact q
  · have hj' : j = xs.length := Nat.le_antisymm hj hge
    subst hj'
    rw [List.take_length] at hr
    refine (X.mono sb).done A _ _ _ hh F'.sub (by simpa using F'.is) fun h₁ hx => ?_
    exact done S' vs h₁ tk' sb hr (F'.dropX hx)

noncomputable def CompGoal (prog : Program) (w : World) (A : Around) (E : Value → Shared → Prop) (Q : Value → Shared → Prop) (elt : Expr) (x : Str) (px : Pos) (iter : Expr) (ifs : List Expr) (scope : Scope) (cl : List (Str × Addr)) (pos : Pos) (env : Env) (v : Value) (s₁ : Shared) : Prop :=
  wpAny (model prog w) A (pyIter v) (fun it s₂ => wpAny (model prog w) A (newList []) (fun acc s₃ => wpAny (model prog w) A (newFunctionEnv scope env.globals cl [] env.qual none .none (some env)) (fun cenv s₄ =>
    codeAny (model prog w) A (.compStart (.ListComp elt [⟨.Name x px, iter, ifs, 0⟩] scope pos) 0 it acc { cenv with scope := relabel scope env }) (compPost (model prog w) A E none Q acc cenv.locals) s₄) E s₃) E s₂) E s₁

theorem compA {Q : Value → Shared → Prop} {elt iter : Expr} {x : Str} {px : Pos} {ifs : List Expr} {scope : Scope} {cl : List (Str × Addr)} {pos : Pos} (hclos : closureFor scope env = pure cl)
    (h : wpAny (model prog w) A (eval iter env) (CompGoal prog w A E Q elt x px iter ifs scope cl pos env) E s)
    (hkind : scope.kind = .function := by rfl) (hnames : ∀ y ∈ scope.names, y.2 = .local → scope.names.lookup y.1 = some .local := by decide)
    (hs : ∀ x, foldedSetIterable iter env x = pure x := by intro _; rfl) : wpAny (model prog w) A (eval (.ListComp elt [⟨.Name x px, iter, ifs, 0⟩] scope pos) env) Q E s := by
  rw [eval_ListComp]
  exact wpAny_comprehension_free (use := none) rfl hs hclos hkind hnames h

theorem compB {Q : Value → Shared → Prop} {α : Type} {xs : List α} {enc : α → PyData} (p : α → Bool) (g : α → PyData) {elt iter : Expr} {x : Str} {px : Pos} {ifs : List Expr} {scope : Scope} {cl : List (Str × Addr)} {pos : Pos} {v : Value} (Gc : Vars)
    (hh : A.handled = none) (F : Frm B S₀ S env G mu s.heap) (X : IterOf prog w S v (xs.map enc)) (hlen : xs.length ≤ sizeLine)
    (hcap : ∀ C m, ∀ y e, Gc.lookup y = some e → ∃ u, Holds S (compEnvC scope cl C env) m y u ∧ e.ok S u)
    (turn : ∀ (C : Addr) (i : Nat) (a : α) (S' : Stab) (mu' : Muts) (h : Heap) (tk : Nat) (E' : Value → Shared → Prop), xs[i]? = some a → Sb S S' → Frm s.heap S S' (compEnvC scope cl C env) ((x, .dat (enc a)) :: Gc) mu' h →
      wpAny (model prog w) A (forIn ifs true fun c r => if r = true then do let ok ← isTrue c (compEnvC scope cl C env) (eval c (compEnvC scope cl C env)); pure (ForInStep.yield ok) else pure (ForInStep.yield r)) (fun ok s₄ =>
        if ok = true then p a = true ∧ wpAny (model prog w) A (eval elt (compEnvC scope cl C env)) (EltQ s.heap S S' s (compEnvC scope cl C env) ((x, .dat (enc a)) :: Gc) mu' (g a)) E' s₄
        else p a = false ∧ NoQ s.heap S S' s (compEnvC scope cl C env) ((x, .dat (enc a)) :: Gc) mu' s₄) E' { s with heap := h, toks := tk })
    (k : ∀ u h' tk S', Sb S S' → Kp s.heap h' → Frm B S₀ S' env G mu h' → Rep S' (.list ((xs.filter p).map g)) u → Q u { s with heap := h', toks := tk })
    (hGx : Gc.lookup x = none := by rfl)
    (hcell : ∀ y ∈ scope.names, y.2 ≠ .cell := by decide) (hkind : scope.kind = .function := by rfl) (hx : scope.names.lookup x = some .local := by rfl) :
    CompGoal prog w A E Q elt x px iter ifs scope cl pos env v s := by
  refine X A s _ _ F.sub fun I h' P Y kp hn ho => ?_
  refine wpAny_newObj_type (wpAny_newFunctionEnv hcell (by intro y hy; simp at hy) (fun h₁ hns₁ hsb₁ => ?_) hkind)
  dsimp only at hns₁ hsb₁ ⊢
  generalize hH2 : h'.push { cls := .type "list", dict := none, data := .seq ([] : List Value).toArray } = H2 at hns₁ hsb₁ ⊢
  have hH2s : H2.objs.size = h'.objs.size + 1 := by rw [← hH2, Heap.size_push]
  have k2 : Kp h' H2 := fun b o e => hH2 ▸ Heap.get?_push_of_some _ e
  have k1 : Kp H2 h₁ := fun b o e => hsb₁.extBut b o (Nat.ne_of_lt (Heap.lt_size e)) (Heap.get?_push_of_some _ e)
  have kk : Kp s.heap h₁ := kp.trans (k2.trans k1)
  have hD : h₁.get? h'.objs.size = some { cls := .type "list", dict := none, data := .seq ([] : List Value).toArray } := k1 _ _ (hH2 ▸ Heap.get?_push_size _ rfl)
  obtain ⟨oI, hoI, hpI⟩ := ho
  have hI : I < h'.objs.size := Heap.lt_size hoI
  have nC : s.heap.get? H2.objs.size = none := by
    cases z : s.heap.get? H2.objs.size with
    | none => rfl
    | some o => have := Heap.lt_size (k2 _ _ (kp _ _ z)); exact absurd this (Nat.lt_irrefl _)
  have nD : s.heap.get? h'.objs.size = none := by
    cases z : s.heap.get? h'.objs.size with
    | none => rfl
    | some o => have := Heap.lt_size (kp _ _ z); exact absurd this (Nat.lt_irrefl _)
  have Fc : Frm s.heap S S (compEnvC scope cl H2.objs.size env) Gc [(I, P 0), (h'.objs.size, isL [])] h₁ :=
  { fk := hkind, gl := F.gl, bl := F.bl, base := kk, sb := Sb.refl S
    sub := fun b o e => kk _ _ (F.sub b o e)
    new := fun b o e => .inl e
    nLB := nC
    nLS := by
      cases z : S H2.objs.size with
      | none => exact z
      | some o => rw [F.sub _ _ z] at nC; cases nC
    mus := fun q hq => by
      rcases List.mem_cons.mp hq with rfl | hq
      · refine ⟨⟨oI, k1 _ _ (k2 _ _ hoI), hpI⟩, Nat.ne_of_lt (by rw [show (compEnvC scope cl H2.objs.size env).locals = H2.objs.size from rfl, hH2s]; exact Nat.lt_succ_of_lt hI), ?_, hn⟩
        cases z : S I with
        | none => rfl
        | some o => rw [F.sub _ _ z] at hn; cases hn
      · have := List.mem_singleton.mp hq
        subst this
        refine ⟨⟨_, hD, 0, rfl⟩, Nat.ne_of_lt (by rw [show (compEnvC scope cl H2.objs.size env).locals = H2.objs.size from rfl, hH2s]; exact Nat.lt_succ_self _), ?_, nD⟩
        cases z : S h'.objs.size with
        | none => rfl
        | some o => rw [F.sub _ _ z] at nD; cases nD
    nd := by simp; exact Nat.ne_of_lt hI
    vars := ⟨_, hns₁, hcap _ _⟩ }
  have loop : ∀ s₃ : Shared, s₃ = { s with heap := h₁, toks := s.toks + ([] : List (Str × Value)).length } →
      codeAny (model prog w) A (.compLoop (.ListComp elt [⟨.Name x px, iter, ifs, 0⟩] scope pos) 0 (.ref I) (.ref h'.objs.size) (compEnvC scope cl H2.objs.size env)) (compPost (model prog w) A E none Q (.ref h'.objs.size) H2.objs.size) s₃ := by
    rintro s₃ rfl
    refine compLoopS (cenv := compEnvC scope cl H2.objs.size env) p g hh Y (lookup_relabel_local hx) hGx hlen Fc (turn _) ?_
    intro S' vs h tk sb hr F2
    obtain ⟨S2, sb2, hrep, F3⟩ := F2.rest hr
    obtain ⟨m, hm, _⟩ := F3.vars
    refine ⟨m, hm, fun h'' hs => ?_⟩
    have kp' : Kp s.heap h'' := fun b o e => hs.extBut b o (by rintro rfl; rw [nC] at e; cases e) (F3.base b o e)
    refine k _ _ _ S2 (sb.trans sb2) kp' (F.grow kp' (sb.trans sb2) (fun b o e => ?_) F3.new) hrep
    have nl : S2 H2.objs.size = none := F3.nLS
    exact hs.extBut b o (by rintro rfl; rw [nl] at e; cases e) (F3.sub b o e)
  exact codeAny_compStart_list (loop _ rfl) (Y.self A 0 _ _ _ ⟨oI, k1 _ _ (k2 _ _ hoI), hpI⟩ (loop _ rfl))

theorem cap_nil {scope : Scope} {cl : List (Str × Addr)} : ∀ C m, ∀ y e, ([] : Vars).lookup y = some e → ∃ u, Holds S (compEnvC scope cl C env) m y u ∧ e.ok S u := fun _ _ y e h => by simp at h
theorem cap_cons {scope : Scope} {cl : List (Str × Addr)} {y : Str} {d : Ent} {Gc : Vars} {h : Heap} (F : Frm B S₀ S env G mu h) (hl : G.lookup y = some d) (hk : env.kindOf y = some .cell) (hr : (relabel scope env).names.lookup y = some .cell) (hc : cl.lookup y = env.cells.lookup y)
    (r : ∀ C m, ∀ y e, Gc.lookup y = some e → ∃ u, Holds S (compEnvC scope cl C env) m y u ∧ e.ok S u) : ∀ C m, ∀ y' e, ((y, d) :: Gc : Vars).lookup y' = some e → ∃ u, Holds S (compEnvC scope cl C env) m y' u ∧ e.ok S u := fun C m => by
  obtain ⟨m', hn, hv⟩ := F.vars
  obtain ⟨u, hh, he⟩ := hv y d hl
  rcases hh with ⟨h1, _⟩ | ⟨_, c, o, h2, h3, h4⟩
  · rw [hk] at h1; cases h1
  · exact vars_cons (S := S) (env := compEnvC scope cl C env) (m := m) (.inr ⟨.inl hr, c, o, by show cl.lookup y = some c; rw [hc]; exact h2, h3, h4⟩) he (r C m)

/-- no test; one test -/
theorem test0 {Q : Bool → Shared → Prop} (h : Q true s) :
    wpAny (model prog w) A (forIn ([] : List Expr) true fun c r => if r = true then do let ok ← isTrue c env (eval c env); pure (ForInStep.yield ok) else pure (ForInStep.yield r)) Q E s := wpAny_tests_nil h
theorem test1 {Q : Bool → Shared → Prop} {c : Expr} (h : wpAny (model prog w) A (isTrue c env (eval c env)) Q E s) :
    wpAny (model prog w) A (forIn [c] true fun c r => if r = true then do let ok ← isTrue c env (eval c env); pure (ForInStep.yield ok) else pure (ForInStep.yield r)) Q E s := wpAny_tests_one h
end
/-- the text's names, as the run of its top leaves them -/
structure GG (mg mb : Str → Option Value) (h : Heap) : Prop where
  lim : h.NoLimit
  g : h.Ns mainGlobals mg
  b : h.Ns builtinsNs mb
  fn : ∀ i ∈ [6, 7, 8, 10, 13, 15, 16, 17, 18, 19, 20, 21, 22], ∃ v, mg (fdef i).name = some v ∧ FnOK h v (fdef i) .none
  fn9 : ∃ v T o n t, mg (fdef 9).name = some v ∧ FnOK h v (fdef 9) (.ref T) ∧ h.get? T = some o ∧ o.data = .seq #[.bytes #[] t] n
  fn11 : ∃ v T o n t t', mg (fdef 11).name = some v ∧ FnOK h v (fdef 11) (.ref T) ∧ h.get? T = some o ∧ o.data = .seq #[.bytes #[] t, .int 2 t'] n
  least : ∃ t, mg "LEAST_MATCH" = some (.int 2 t)
  ng : ∀ x ∈ ([("len" : Str), "sum", "max", "min", "abs", "range", "bytearray", "bytes"] : List Str), mg x = none
  b_len : mb "len" = some (.builtin "len")
  b_sum : mb "sum" = some (.builtin "sum")
  b_max : mb "max" = some (.builtin "max")
  b_min : mb "min" = some (.builtin "min")
  b_abs : mb "abs" = some (.builtin "abs")
  b_range : mb "range" = some (.type "range")
  b_bytearray : mb "bytearray" = some (.type "bytearray")
  b_bytes : mb "bytes" = some (.type "bytes")
theorem GG.keeps {mg mb : Str → Option Value} {h h' : Heap} (G : GG mg mb h) (k : Kp h h') : GG mg mb h' where
  lim := G.lim.keeps k
  g := G.g.keeps k
  b := G.b.keeps k
  fn := fun i hi => let ⟨v, a, b⟩ := G.fn i hi; ⟨v, a, b.keeps k⟩
  fn9 := let ⟨v, T, o, n, t, a, b, c, d⟩ := G.fn9; ⟨v, T, o, n, t, a, b.keeps k, k _ _ c, d⟩
  fn11 := let ⟨v, T, o, n, t, t', a, b, c, d⟩ := G.fn11; ⟨v, T, o, n, t, t', a, b.keeps k, k _ _ c, d⟩
  least := G.least
  ng := G.ng
  b_len := G.b_len
  b_sum := G.b_sum
  b_max := G.b_max
  b_min := G.b_min
  b_abs := G.b_abs
  b_range := G.b_range
  b_bytearray := G.b_bytearray
  b_bytes := G.b_bytes

abbrev Step := Int × Int
noncomputable def stepD (s : Step) : PyData := .tuple [.int s.1, .int s.2]
noncomputable def stepsD (l : List Step) : PyData := .list (l.map stepD)
noncomputable def rowsD (l : List (List Step)) : PyData := .list (l.map stepsD)
noncomputable def intsD (l : List Int) : PyData := .list (l.map .int)
noncomputable def iRowsD (l : List (List Int)) : PyData := .list (l.map intsD)
noncomputable def sizeOf1 (s : Step) : Int := if s.1 = 0 then 1 else s.1
noncomputable def sizeOf (l : List Step) : Int := (l.map sizeOf1).sum

section
variable {prog : Program} {w : World} {A : Around} {s : Shared} {E : Value → Shared → Prop}
variable {B : Heap} {S₀ S : Stab} {env : Env} {G : Vars} {mu : Muts}

/-- an item of a tuple or a list of data, as a subscript reads it -/
theorem tupItem {value slice : Expr} {Q : Value → Shared → Prop} {ds : List PyData} {v : Value} {i : Int} {t : Tok} {d : PyData} (F : Frm B S₀ S env G mu s.heap) (r : Rep S (.tuple ds) v) (h0 : 0 ≤ i) (h1 : i < 2 ^ 63) (hd : ds[i.toNat]? = some d)
    (k : ∀ u, Rep S d u → Q u s) (hs : ∀ a, subscripted slice false (.ref a) (.int i t) = operate [.ref a, .int i t] (getItem (.ref a) (.int i t)) := by intro _; with_unfolding_all rfl) :
    wpAny (model prog w) A (subscriptTail value slice v (.int i t)) Q E s := by
  obtain ⟨a, vs, rfl, hl, hr, _⟩ := rep_isTuple F.sub r
  obtain ⟨u, hu, q⟩ := hr.get hd
  have hlt : i.toNat < vs.length := by
    rcases Nat.lt_or_ge i.toNat vs.length with z | z
    · exact z
    · rw [List.getElem?_eq_none z] at hu; cases hu
  refine item_tupleT (l := vs) (j := i.toNat) hl (by omega) h1 ?_ hu (k u q) (hs a)
  have hc : ¬ i < 0 := by omega
  simp [seqIndex?, hc]
  omega
theorem listItem {value slice : Expr} {Q : Value → Shared → Prop} {ds : List PyData} {v : Value} {i : Int} {t : Tok} {d : PyData} (F : Frm B S₀ S env G mu s.heap) (r : Rep S (.list ds) v) (h0 : 0 ≤ i) (h1 : i < 2 ^ 63) (hd : ds[i.toNat]? = some d)
    (k : ∀ u, Rep S d u → Q u s) (hs : ∀ a, subscripted slice false (.ref a) (.int i t) = operate [.ref a, .int i t] (getItem (.ref a) (.int i t)) := by intro _; with_unfolding_all rfl) :
    wpAny (model prog w) A (subscriptTail value slice v (.int i t)) Q E s := by
  obtain ⟨a, vs, rfl, hl, hr, _⟩ := rep_isList F.sub r
  obtain ⟨u, hu, q⟩ := hr.get hd
  exact tail_any hl.typeIs slot_list_getitem.lookup (wpAny_getItem_list hl h0 h1 (by simpa using hu) (k u q)) (hs a)

/-- sum of a list of ints -/
theorem sumE {Q : Value → Shared → Prop} {ns : List Int} {v : Value} (hh : A.handled = none) (hS : SubH S s.heap) (r : Rep S (intsD ns) v) (k : ∀ t h' tk, Kp s.heap h' → Q (.int ns.sum t) { s with heap := h', toks := tk }) :
    wpAny (model prog w) A (call (.builtin "sum") [v]) Q E s := by
  obtain ⟨a, vs, rfl, hl, hr, _⟩ := rep_isList hS r
  have hi := RepL.ints.mp hr
  refine call_sum_walkG (wpAny_pyIter_list hl ?_)
  refine ⟨s.heap.objs.size, _, _, _, _, _, (fun i => ns.getD i 0), rfl, Walks.list (A := A.in1) hh _ a (Nat.ne_of_lt (by obtain ⟨o, ho, _⟩ := hl; exact Heap.lt_size ho)) vs.toArray, ⟨⟨_, Heap.get?_push_size _ rfl, rfl, rfl⟩, hl.push _⟩, ?_, ?_, ?_⟩
  · intro b hb
    rw [Heap.size_push]
    rcases List.mem_cons.mp hb with rfl | hb
    · exact Nat.lt_succ_self _
    · rw [List.mem_singleton.mp hb]; obtain ⟨o, ho, _⟩ := hl; exact Nat.lt_succ_of_lt (Heap.lt_size ho)
  · intro i v hv
    have hlt : i < ns.length := by
      rcases Nat.lt_or_ge i ns.length with z | z
      · exact z
      · rw [show vs.toArray[i]? = none by simp [hi.length, z]] at hv; cases hv
    obtain ⟨t, ht⟩ := hi.get i ns[i] (by simp [hlt])
    refine ⟨t, ?_⟩
    have : vs[i]? = some v := by simpa using hv
    rw [ht] at this
    cases this
    simp [hlt]
  · intro h' tk t' hk
    have e : preSum (fun i => ns.getD i 0) vs.toArray.size = ns.sum := by
      rw [List.size_toArray, hi.length]
      have : ∀ (l : List Int) (n : Nat), n ≤ l.length → preSum (fun i => l.getD i 0) n = (l.take n).sum := by
        intro l n
        induction n with
        | zero => intro _; rfl
        | succ n ih =>
          intro h
          rw [List.take_add_one, List.sum_append, ← ih (by omega)]
          show preSum _ n + _ = _
          simp [List.getElem?_eq_getElem (show n < l.length from h)]
      rw [this ns ns.length (Nat.le_refl _), List.take_length]
    rw [e]
    exact k t' h' tk fun b o q => hk b o (by rw [List.mem_singleton]; rintro rfl; rw [size_none] at q; cases q) (Heap.get?_push_of_some _ q)
end
section
variable {prog : Program} {w : World} {A : Around} {s : Shared} {E : Value → Shared → Prop}
variable {B : Heap} {S₀ S : Stab} {env : Env} {G : Vars} {mu : Muts}

/-- «o.append(elt)» as a statement -/
theorem appendS {Q : Flow → Shared → Prop} {o elt : Expr} {apos pos epos : Pos}
    (h : wpAny (model prog w) A (eval o env) (fun ov s₁ => ∃ D its, ov = .ref D ∧ PlainL s₁.heap D its ∧
      wpAny (model prog w) A (eval elt env) (fun y s₂ => wpAny (model prog w) A (call (.builtin "list.append") [.ref D, y]) (fun _ => Q .next) E s₂) E s₁) E s)
    (hi : interactive env = false := by rfl)
    (hbase : attributeBase o "append" env (eval o env) = eval o env := by rfl)
    (hfew : ((backTo pos (starEach [elt] env)).all (fun x => !x.1) && (backToKw pos (keywordEach [] env)).all (fun x => x.1.isSome)
      && decide (([elt] : List Expr).length + ([] : List Keyword).length + (if ([] : List Keyword).isEmpty then 0 else 1) < 30)) = true := by rfl)
    (hline : (apos.endLine == pos.line) = true := by rfl)
    (htrees : backTo pos (starEach [elt] env) = [(false, eval elt env)] := by rfl) :
    wpAny (model prog w) A (exec (.Expr (.Call (.Attribute o "append" apos) [elt] [] pos) epos) env) Q E s :=
  wpAny_Expr_any (wpAny_Call_append hbase hfew hline htrees h) hi rfl

theorem isL_plain {h : Heap} {a : Addr} {o : Obj} {vs : List Value} (ho : h.get? a = some o) (hp : isL vs o) : PlainL h a vs.toArray := by
  obtain ⟨n, rfl⟩ := hp; exact ⟨_, n, ho, rfl, rfl, rfl⟩
theorem Frm.plain {a : Addr} {vs : List Value} {h : Heap} (F : Frm B S₀ S env G mu h) (hm : (a, isL vs) ∈ mu) : PlainL h a vs.toArray := by
  obtain ⟨⟨o, ho, hp⟩, _⟩ := F.mus _ hm; exact isL_plain ho hp

theorem Frm.rot3 {p q r : Addr × (Obj → Prop)} {h : Heap} (F : Frm B S₀ S env G (p :: q :: r :: mu) h) : Frm B S₀ S env G (r :: p :: q :: mu) h :=
  F.perm (((List.Perm.swap r q mu).cons p).trans (List.Perm.swap r p (q :: mu)))

/-- the last item of a list of the call's own: found[-1] -/
theorem lastItem {value slice : Expr} {Q : Value → Shared → Prop} {a : Addr} {vs : List Value} {x : Value} {t : Tok} (F : Frm B S₀ S env G mu s.heap) (hm : (a, isL (vs ++ [x])) ∈ mu) (hsz : vs.length < 2 ^ 62)
    (k : Q x s) (hs : subscripted slice false (.ref a) (.int (-1) t) = operate [.ref a, .int (-1) t] (getItem (.ref a) (.int (-1) t)) := by with_unfolding_all rfl) :
    wpAny (model prog w) A (subscriptTail value slice (.ref a) (.int (-1) t)) Q E s := by
  have hl := F.isListM hm
  refine tail_any hl.typeIs slot_list_getitem.lookup (wpAny_getItem_list_neg hl (by decide) ?_ (by decide) ?_ k) hs
  · simp only [List.size_toArray, List.length_append, List.length_singleton]; omega
  · simp only [List.size_toArray, List.length_append, List.length_singleton]
    rw [show ((-1 : Int) + ((vs.length + 1 : Nat) : Int)).toNat = vs.length by omega]
    simp
end
theorem ifT {P Q : Prop} (h : P) : if true = true then P else Q := h
theorem ifF {P Q : Prop} (h : Q) : if false = true then P else Q := by rw [if_neg Bool.false_ne_true]; exact h
section
variable {prog : Program} {w : World} {A : Around} {s : Shared} {E : Value → Shared → Prop}
variable {B : Heap} {S₀ S : Stab} {env : Env} {G : Vars} {mu : Muts}

/-- a tuple that is unpacked at once -/
theorem tupTmp {Q : Value → Shared → Prop} {vs : List Value} (F : Frm B S₀ S env G mu s.heap)
    (k : ∀ a h', Kp s.heap h' → Frm B S₀ S env G mu h' → h'.IsTuple a vs.toArray → Q (.ref a) { s with heap := h' }) (hsz : Nat.ble vs.length sizeLine = true := by rfl) : wpAny (model prog w) A (newTuple vs) Q E s := by
  refine wpAny_newObj_type ?_ (by show vs.toArray.size ≤ sizeLine; rw [List.size_toArray]; exact Nat.le_of_ble_eq_true hsz)
  have kp : Kp s.heap (s.heap.push { cls := .type "tuple", dict := none, data := .seq vs.toArray }) := fun b o e => Heap.get?_push_of_some _ e
  exact k _ _ kp (F.keep kp) ⟨_, Heap.get?_push_size _ rfl, rfl, 0, rfl⟩
theorem inOrder_cons {Q : Unit → Shared → Prop} {t : Value → Sem Unit} {ts : List (Value → Sem Unit)} {x : Value} {xs : List Value} (h : wpAny (model prog w) A (t x) (fun _ s₁ => wpAny (model prog w) A (assignInOrder ts xs) Q E s₁) E s) :
    wpAny (model prog w) A (assignInOrder (t :: ts) (x :: xs)) Q E s := by
  show wpAny _ A (do holding xs (t x); assignInOrder ts xs) Q E s
  exact wpAny_bind (wpAny_holding h)
theorem inOrder_nil {Q : Unit → Shared → Prop} (h : Q () s) : wpAny (model prog w) A (assignInOrder [] []) Q E s := wpAny_pure h
theorem extBut_size {h h' : Heap} (x : Heap.ExtBut h.objs.size h h') : Kp h h' := fun b o e => x b o (by rintro rfl; rw [size_none] at e; cases e) e
/-- a, b = (.., ..): the compiler's swapped stores -/
theorem asgSwap {elts : List Expr} {k : Nat} {tpos pos : Pos} {value : Expr} {names : List Str} {Q : Flow → Shared → Prop} (hh : A.handled = none)
    (h : wpAny (model prog w) A (eval value env) (fun v s₁ => ∃ (a : Addr) (vs : List Value), v = .ref a ∧ s₁.heap.IsTuple a vs.toArray ∧ vs.length = names.length ∧ ∀ h', Kp s₁.heap h' →
      wpAny (model prog w) A (assignInOrder (names.reverse.map fun n => bindName env n) vs.reverse) (fun _ => Q .next) E { s₁ with heap := h' }) E s)
    (hw : swappedStores [.Tuple elts k tpos] value env = pure (some names))
    (hs : swapsWithSole [.Tuple elts k tpos] value pos.line env = pure false := by rfl) : wpAny (model prog w) A (exec (.Assign [.Tuple elts k tpos] value pos) env) Q E s := by
  refine Assign_Tuple_swapped (wpAny_mono h (fun v s₁ h₁ => ?_) fun _ _ e => e) hs hw
  obtain ⟨a, vs, rfl, ht, hl, hk⟩ := h₁
  have := wpAny_unpackItems_tuple (prog := prog) (w := w) (E := E) (Q := fun items s₂ => wpAny (model prog w) A (assignInOrder (names.reverse.map fun n => bindName env n) items.reverse) (fun _ => Q .next) E s₂) hh ht (fun h' hx => hk h' (extBut_size hx))
  rw [List.size_toArray, hl] at this
  exact this
/-- a, b = v, in order -/
theorem asgTup {elts : List Expr} {k : Nat} {pos : Pos} {v : Value} {Q : Unit → Shared → Prop} {a : Addr} {vs : List Value} (hh : A.handled = none) (ht : s.heap.IsTuple a vs.toArray)
    (h : ∀ h', Kp s.heap h' → wpAny (model prog w) A (assignInOrder ((assignEach elts env).map (·.2)) vs) Q E { s with heap := h' })
    (hv : v = .ref a := by rfl) (hn : (assignEach elts env).length = vs.length := by rfl) (hstar : (assignEach elts env).findIdx? (·.1) = none := by rfl) : wpAny (model prog w) A (assign (.Tuple elts k pos) env v) Q E s := by
  subst hv
  exact wpAny_assign_Tuple hh ht (by rw [List.size_toArray]; exact hn) hstar fun h' hx => by simpa using h h' (extBut_size hx)
end
section
variable {prog : Program} {w : World} {A : Around} {s : Shared} {E : Value → Shared → Prop}
variable {B : Heap} {S₀ S : Stab} {env : Env} {G : Vars} {mu : Muts}

theorem kp_push (h : Heap) (o : Obj) : Kp h (h.push o) := fun _ _ e => Heap.get?_push_of_some _ e

/-- v[lo:hi:st] of a list of data -/
theorem sliceTail {value slice : Expr} {Q : Value → Shared → Prop} {ds ds' : List PyData} {v vl vu vst : Value} {lo hi st : Option Int} (F : Frm B S₀ S env G mu s.heap) (r : Rep S (.list ds) v) (hlen : ds.length ≤ sizeLine)
    (pl : IsPart vl lo) (pu : IsPart vu hi) (ps : IsPart vst st) (h0 : st ≠ some 0) (hp : ∀ vs : List Value, RepL S ds vs → RepL S ds' (slicePick vs.toArray lo hi st).toList)
    (k : ∀ u h' S', Sb S S' → Kp s.heap h' → Frm B S₀ S' env G mu h' → Rep S' (.list ds') u → Q u { s with heap := h' })
    (hs : (∀ a b, subscripted slice false (.ref a) (.ref b) = operate [.ref b, .ref a] (getItem (.ref a) (.ref b))) ∨ (∀ a b, subscripted slice false (.ref a) (.ref b) = operate [.ref a, .ref b] (getItem (.ref a) (.ref b)))) :
    wpAny (model prog w) A (subscriptTail value slice v (.ref s.heap.objs.size)) Q E { s with heap := s.heap.push { cls := .type "slice", data := .fields #[vl, vu, vst] } } := by
  have F1 := F.keep (kp_push s.heap { cls := .type "slice", data := .fields #[vl, vu, vst] })
  obtain ⟨a, vs, rfl, hl, hr, _⟩ := rep_isList F1.sub r
  have main : wpAny (model prog w) A (getItem (.ref a) (.ref s.heap.objs.size)) Q E { s with heap := s.heap.push { cls := .type "slice", data := .fields #[vl, vu, vst] } } := by
    refine wpAny_getItem_list_slice hl (Heap.IsSliceOf.new _ _ _ _) pl pu ps h0 ?_ (by rw [List.size_toArray, hr.length]; exact hlen)
    obtain ⟨sb, e, F2⟩ := F1.newS (o := { cls := .type "list", data := .seq (slicePick vs.toArray lo hi st) }) (kp_push _ _) (size_none _) (Heap.get?_push_size _ rfl)
    exact k _ _ _ sb ((kp_push _ _).trans (kp_push _ _)) F2 (rep_list.mpr ⟨_, _, _, _, rfl, e, rfl, rfl, (hp vs hr).mono sb⟩)
  rcases hs with hs | hs
  · exact tail_any hl.typeIs slot_list_getitem.lookup main (hs _ _)
  · exact tail_any hl.typeIs slot_list_getitem.lookup main (hs _ _)

theorem pickRun {ds : List PyData} {a b : Nat} (ha : a ≤ ds.length) (hb : b ≤ ds.length) : ∀ vs : List Value, RepL S ds vs → RepL S ((ds.drop a).take (b - a)) (slicePick vs.toArray (some (a : Int)) (some (b : Int)) none).toList := fun vs hr => by
  rw [slicePick_plain]
  have hl := hr.length
  simp only [Option.elim, List.size_toArray, clipAt_nat]
  rw [Nat.min_eq_left (by omega), Nat.min_eq_left (by omega)]
  simpa using (hr.drop a).take (b - a)
theorem pickTake {ds : List PyData} (b : Nat) : ∀ vs : List Value, RepL S ds vs → RepL S (ds.take b) (slicePick vs.toArray none (some (b : Int)) none).toList := fun vs hr => by
  rw [slicePick_upto']; simpa using hr.take b
theorem pickRev {ds : List PyData} : ∀ vs : List Value, RepL S ds vs → RepL S ds.reverse (slicePick vs.toArray none none (some (-1))).toList := fun vs hr => by
  rw [krv_pick]; simpa using hr.reverse
end
set_option hygiene false
-- a step of the walk
local macro_rules | `(tactic| walk_at "tk") => `(tactic| first
  | ((with_reducible show wpAny _ _ (execs _ _) _ _ _); first | refine wpAny_execs_cons ?_ | refine wpAny_execs_nil ?_)
  | (with_reducible first | refine wpAny_Return_some ?_ | refine wpAny_If ?_ | refine wpAny_AugAssign_Name ?_ | refine wpAny_UnaryOp ?_ | refine wpAny_isTrue_Not ?_ | refine wpAny_isTrue_BoolOp ?_ | refine wpAny_allTrue_And_cons ?_ | refine wpAny_allTrue_And_nil ?_ | refine wpAny_allTrue_Or_cons ?_ | refine wpAny_allTrue_Or_nil ?_ | refine wpAny_assign_Name ?_ | refine wpAny_Slice ?_ | refine wpAny_evalPart_none ?_ | refine wpAny_evalPart_some ?_ | refine wpAny_bindName ?_ | refine ifT ?_ | refine ifF ?_ | refine wpAny_Constant_bool ?_ | refine wpAny_BinOp ?_ | refine wpAny_IfExp ?_ | refine Subscript_ ?_ | refine wpAny_Compare1 ?_ | refine wpAny_isTrue_Compare1 ?_ | refine splitArgs ?_ | refine endArgs ?_ | refine PyProof.Rows.eq_int ?_ | refine PyProof.Rows.ne_int ?_ | refine PyProof.Rows.lt_int ?_ | refine PyProof.Rows.le_int ?_ | refine PyProof.Rows.gt_int ?_ | refine PyProof.Rows.ge_int ?_)
  | ((with_reducible show wpAny _ _ (exec (PySem.Stmt.Assign [PySem.Expr.Name _ _] _ _) _) _ _ _); refine wpAny_Assign_Name ?_)
  | ((with_reducible show wpAny _ _ (eval (PySem.Expr.Name _ _) _) _ _ _); first | (refine ldI (by assumption) (by rfl) ?_; intro _) | refine ldB (by assumption) (by rfl) ?_ | refine ldX (by assumption) (by rfl) ?_ | (refine ldD (by assumption) (by rfl) ?_; intro _ _))
  | ((with_reducible show wpAny _ _ (storeName _ _ (Value.int _ _)) _ _ _); (refine stI (by assumption) ?_; intro _ _); (try dsimp only))
  | ((with_reducible show wpAny _ _ (storeName _ _ (Value.bool _)) _ _ _); (refine stB (by assumption) ?_; intro _ _); (try dsimp only))
  | ((with_reducible show wpAny _ _ (exec (PySem.Stmt.Expr (PySem.Expr.Call (PySem.Expr.Attribute _ _ _) [_] [] _) _) _) _ _ _); refine appendS ?_)
  | ((with_reducible show wpAny _ _ (exec (PySem.Stmt.For _ _ _ _ _) _) _ _ _); refine wpAny_For ?_)
  | ((with_reducible show wpAny _ _ (exec (PySem.Stmt.Assign [PySem.Expr.Subscript _ _ _] _ _) _) _ _ _); refine wpAny_Assign_Subscript ?_)
  | ((with_reducible show wpAny _ _ (assignInOrder _ _) _ _ _); first | refine inOrder_cons ?_ | refine inOrder_nil ?_)
  | ((with_reducible show wpAny _ _ (storeName _ _ _) _ _ _); first | (refine stD (by assumption) (by assumption) ?_; intro _ _; (try dsimp only)) | (refine stX (by assumption) ?_; intro _ _; (try dsimp only)))
  | ((with_reducible show wpAny _ _ (loadName _ _) _ _ _); (refine loadI (by assumption) (by rfl) ?_; intro _))
  | ((with_reducible show wpAny _ _ (eval (PySem.Expr.Tuple _ _ _) _) _ _ _); refine tupleE ?_)
  | ((with_reducible show wpAny _ _ (eval (PySem.Expr.List _ _) _) _ _ _); refine listDispE ?_)
  | ((with_reducible first | refine PyProof.Rows.neg_int ?_ | refine wpAny_Constant_int ?_ | refine PyProof.Rows.add_int ?_ | refine PyProof.Rows.iadd_int ?_ | refine PyProof.Rows.sub_int ?_ | refine wpAny_truthy_bool ?_); (try dsimp only)))

local macro_rules | `(tactic| walk_at "tk weak") => `(tactic| ((repeat refine weak_cons (by rfl) ?_); exact weak_nil))
set_option hygiene true
/-! == and != of our data -/
structure Cmp {α : Type} (f : α → PyData) (k : Nat) : Prop where
  lay : ∀ x, (f x).canLay0 = true
  dep : ∀ x, (f x).depth ≤ k
  inj : ∀ x y, PyData.eqv (f x) (f y) = true ↔ x = y
theorem cmp_int : Cmp PyData.int 0 := ⟨fun _ => by simp only [PyData.canLay0], fun _ => by simp only [PyData.depth]; omega, fun x y => by simp only [PyData.eqv, beq_iff_eq]⟩
theorem cmp_all {α : Type} {f : α → PyData} {k : Nat} (c : Cmp f k) : (∀ l : List α, PyData.canLayAll0 (l.map f) = true) ∧ (∀ l : List α, PyData.depthAll (l.map f) ≤ k) ∧ (∀ l m : List α, PyData.eqvAll (l.map f) (m.map f) = true ↔ l = m) := by
  refine ⟨fun l => ?_, fun l => ?_, fun l => ?_⟩
  · induction l with
    | nil => simp only [List.map_nil, PyData.canLayAll0]
    | cons x l ih => simp only [List.map_cons, PyData.canLayAll0, c.lay x, ih, Bool.and_self]
  · induction l with
    | nil => simp only [List.map_nil, PyData.depthAll]; omega
    | cons x l ih => simp only [List.map_cons, PyData.depthAll]; have := c.dep x; omega
  · induction l with
    | nil => intro m; cases m <;> simp [PyData.eqvAll]
    | cons x l ih => intro m; cases m <;> simp [PyData.eqvAll, c.inj, ih]
theorem cmp_list {α : Type} {f : α → PyData} {k : Nat} (c : Cmp f k) : Cmp (fun l : List α => PyData.list (l.map f)) (k + 1) :=
  ⟨fun l => by simp only [PyData.canLay0]; exact (cmp_all c).1 l, fun l => by simp only [PyData.depth]; have := (cmp_all c).2.1 l; omega, fun l m => by simp only [PyData.eqv]; exact (cmp_all c).2.2 l m⟩
theorem cmp_step : Cmp stepD 1 :=
  ⟨fun x => by simp only [stepD, PyData.canLay0]; exact (cmp_all cmp_int).1 [x.1, x.2], fun x => by simp only [stepD, PyData.depth]; have := (cmp_all cmp_int).2.1 [x.1, x.2]; simp only [List.map_cons, List.map_nil] at this; omega,
   fun x y => by simp only [stepD, PyData.eqv]; have := (cmp_all cmp_int).2.2 [x.1, x.2] [y.1, y.2]; simp only [List.map_cons, List.map_nil] at this; rw [this]; simp [Prod.ext_iff]⟩
theorem cmp_ints : Cmp intsD 1 := cmp_list cmp_int
theorem cmp_iRows : Cmp iRowsD 2 := cmp_list cmp_ints
theorem cmp_steps : Cmp stepsD 2 := cmp_list cmp_step
theorem cmp_rows : Cmp rowsD 3 := cmp_list cmp_steps

section
variable {prog : Program} {w : World} {A : Around} {s : Shared} {E : Value → Shared → Prop} {Q : Value → Shared → Prop} {S : Stab}
theorem eqE {α : Type} [DecidableEq α] {f : α → PyData} {k n : Nat} {x y : α} {v u : Value} (c : Cmp f k) (rm : Rm A n) (hk : k ≤ 10) (hS : SubH S s.heap) (r : Rep S (f x) v) (r2 : Rep S (f y) u) (h : Q (.bool (decide (x = y))) s) :
    wpAny (model prog w) A (compareOp .Eq v u) Q E s := by
  obtain ⟨as, ra⟩ := r.reads hS
  obtain ⟨bs, rb⟩ := r2.reads hS
  have sh : ∀ z, SeqAt.shaped (f z) = true := fun z => by unfold SeqAt.shaped; rw [c.lay z, Bool.true_and]; exact decide_eq_true (by have := c.dep z; omega)
  refine PyProof.Rows.eq_dataH ra rb (sh x) (sh y) (by have := rm.un; omega) ?_
  have e : PyData.eqv (f x) (f y) = decide (x = y) := by rw [Bool.eq_iff_iff, c.inj]; simp
  rw [e]; exact h
theorem neE {α : Type} [DecidableEq α] {f : α → PyData} {k n : Nat} {x y : α} {v u : Value} (c : Cmp f k) (rm : Rm A n) (hk : k ≤ 10) (hS : SubH S s.heap) (r : Rep S (f x) v) (r2 : Rep S (f y) u) (h : Q (.bool (!decide (x = y))) s) :
    wpAny (model prog w) A (compareOp .NotEq v u) Q E s := by
  obtain ⟨as, ra⟩ := r.reads hS
  obtain ⟨bs, rb⟩ := r2.reads hS
  have sh : ∀ z, SeqAt.shaped (f z) = true := fun z => by unfold SeqAt.shaped; rw [c.lay z, Bool.true_and]; exact decide_eq_true (by have := c.dep z; omega)
  refine PyProof.Rows.ne_dataH ra rb (sh x) (sh y) (by have := rm.un; omega) ?_
  have e : PyData.eqv (f x) (f y) = decide (x = y) := by rw [Bool.eq_iff_iff, c.inj]; simp
  rw [e]; exact h
end
section
variable {prog : Program} {w : World} {A : Around} {s : Shared} {E : Value → Shared → Prop} {Q : Value → Shared → Prop}

/-- a call that turns objects of its caller's: the base leaves them out -/
theorem enterM {f : FD} {v dV : Value} {n : Nat} {S : Stab} {B : Heap} {mu : Muts} {vs : List Value} {binds : List (Str × Value)} {G : Vars} (hl : s.heap.NoLimit) (fo : FnOK s.heap v f dV) (rm : Rm A (n + 1)) (hS : SubH S s.heap)
    (kB : Kp B s.heap) (hmu : ∀ p ∈ mu, (∃ o, s.heap.get? p.1 = some o ∧ p.2 o) ∧ S p.1 = none ∧ B.get? p.1 = none) (hnd : (mu.map (·.1)).Nodup)
    (hbind : ∀ doc pm an cdv ct, BindsTo s (fnOf f.name f.name f.params f.body f.scope dV .none doc pm an cdv ct) ⟨vs, []⟩ binds)
    (hvars : ∀ L a cd, ∀ x e, G.lookup x = some e → ∃ u, Holds S (envOf f.name f.scope L a cd) (fun y => binds.reverse.lookup y) x u ∧ e.ok S u)
    (h : ∀ L a cd h₁ tk A' E', Rm A' n → Frm B S S (envOf f.name f.scope L a cd) G mu h₁ →
      wpAny (model prog w) A' (execs f.body (envOf f.name f.scope L a cd)) (RetQ Q) E' { s with heap := h₁, toks := tk })
    (hcell : ∀ x ∈ f.scope.names, x.2 ≠ .cell := by decide) (hloc : ∀ x ∈ binds, f.scope.names.lookup x.1 = some .local := by exact locs rfl)
    (hco : f.scope.isCoroutine = false := by rfl) (hgen : f.scope.isGenerator = false := by rfl) (hk : f.scope.kind = .function := by rfl) :
    wpAny (model prog w) A (call v vs) Q E s := by
  obtain ⟨a, o, doc, pm, an, cdv, ct, rfl, ho, hd, hc⟩ := fo
  refine wpAny_call (codeAny_call_def (fd := fnOf f.name f.name f.params f.body f.scope dV .none doc pm an cdv ct) (body := f.body) (binds := binds) (by have := rm.dp; omega) ho hd hl hc rfl (hbind doc pm an cdv ct) hcell hloc (fun h₁ hns hk₁ => ?_) hco hgen hk)
  refine wpAny_mono (h s.heap.objs.size a cdv h₁ _ _ _ (rm.deeper _) ?_) (fun f s' q => q) (fun _ _ e => e)
  have nL := size_none s.heap
  exact
  { fk := hk, gl := rfl, bl := rfl, base := fun b o e => hk₁ b o (kB b o e), sb := Sb.refl S
    sub := fun b o e => hk₁ b o (hS b o e)
    new := fun b o e => .inl e
    nLB := by
      cases z : B.get? s.heap.objs.size with
      | none => exact z
      | some o => rw [kB _ _ z] at nL; cases nL
    nLS := by
      cases z : S s.heap.objs.size with
      | none => exact z
      | some o => rw [hS _ _ z] at nL; cases nL
    mus := fun p hp => by
      obtain ⟨⟨o, h1, h2⟩, h3, h4⟩ := hmu p hp
      exact ⟨⟨o, hk₁ _ _ h1, h2⟩, Nat.ne_of_lt (Heap.lt_size h1), h3, h4⟩
    nd := hnd
    vars := ⟨_, hns, hvars _ _ _⟩ }

/-- a list that may be turned in place -/
noncomputable def isV (vs : List Value) : Obj → Prop := fun o => o.cls = .type "list" ∧ ∃ n, o.data = .seq vs.toArray n
noncomputable def isBox (x : Int × Int × Int) : Obj → Prop := fun o => ∃ t1 t2 t3, isV [.int x.1 t1, .int x.2.1 t2, .int x.2.2 t3] o
theorem valItem {value slice : Expr} {a : Addr} {vs : List Value} {i : Int} {t : Tok} {x : Value} (hl : s.heap.IsList a vs.toArray) (h0 : 0 ≤ i) (h1 : i < 2 ^ 63) (hv : vs[i.toNat]? = some x) (k : Q x s)
    (hs : subscripted slice false (.ref a) (.int i t) = operate [.ref a, .int i t] (getItem (.ref a) (.int i t)) := by with_unfolding_all rfl) :
    wpAny (model prog w) A (subscriptTail value slice (.ref a) (.int i t)) Q E s :=
  tail_any hl.typeIs slot_list_getitem.lookup (wpAny_getItem_list hl h0 h1 (by simpa using hv) k) hs
end
section
variable {prog : Program} {w : World} {A : Around} {s : Shared} {E : Value → Shared → Prop}
variable {B : Heap} {S₀ S S' : Stab} {env : Env} {G : Vars} {mu : Muts} {mg mb : Str → Option Value}

/-- behind a call that turns b and makes new data -/
theorem Frm.retX {b : Addr} {P P' : Obj → Prop} {h h' : Heap} (F : Frm B S₀ S env G ((b, P) :: mu) h) (kx : Heap.ExtBut b h h') (ho : ∃ o, h'.get? b = some o ∧ P' o) (sb : Sb S S') (sub : SubH S' h')
    (nw : ∀ c o, S' c = some o → S c = some o ∨ h.get? c = none) : Frm B S₀ S' env G ((b, P') :: mu) h' := by
  obtain ⟨⟨ob, hob, _⟩, hL, hS, hB⟩ := F.mus (b, P) (.head _)
  have ne : ∀ p ∈ mu, p.1 ≠ b := fun p hp e => by
    have := F.nd
    rw [List.map_cons, List.nodup_cons] at this
    exact this.1 (List.mem_map.mpr ⟨p, hp, e⟩)
  have none' : ∀ c o, h.get? c = some o → S c = none → S' c = none := fun c o e1 e2 => by
    cases z : S' c with
    | none => rfl
    | some o' =>
      rcases nw _ _ z with q | q
      · rw [e2] at q; cases q
      · rw [e1] at q; cases q
  exact
  { fk := F.fk, gl := F.gl, bl := F.bl
    base := fun c o e => kx c o (fun q => by subst q; rw [hB] at e; cases e) (F.base c o e)
    sb := F.sb.trans sb
    sub := sub
    new := fun c o e => by
      rcases nw c o e with q | q
      · exact F.new c o q
      · refine .inr ?_
        cases z : B.get? c with
        | none => rfl
        | some o' => rw [F.base c o' z] at q; cases q
    nLB := F.nLB
    nLS := let ⟨o, ho⟩ := F.lget; none' _ o ho F.nLS
    mus := fun p hp => by
      rcases List.mem_cons.mp hp with rfl | hp
      · exact ⟨ho, hL, none' _ ob hob hS, hB⟩
      · obtain ⟨⟨o, h1, h2⟩, h3, h4, h5⟩ := F.mus p (.tail _ hp)
        exact ⟨⟨o, kx _ _ (ne p hp) h1, h2⟩, h3, none' _ o h1 h4, h5⟩
    nd := F.nd
    vars := let ⟨m, a, b⟩ := F.vars; ⟨m, a.extBut kx (Ne.symm hL), fun x e q => let ⟨v, c, d⟩ := b x e q; ⟨v, c.mono sb, Ent.mono sb d⟩⟩ }

theorem maxE {Q : Value → Shared → Prop} {a b : Int} {t u : Tok} (hh : A.handled = none) (k : ∀ h' tk t, Kp s.heap h' → Q (.int (max a b) t) { s with heap := h', toks := tk }) : wpAny (model prog w) A (call (.builtin "max") [.int a t, .int b u]) Q E s := by
  refine max_two_ints hh fun h' tk hk => ?_
  by_cases hc : b > a
  · rw [if_pos hc]
    have := k h' tk u hk
    rwa [Int.max_eq_right (by omega)] at this
  · rw [if_neg hc]
    have := k h' tk t hk
    rwa [Int.max_eq_left (by omega)] at this
theorem minE {Q : Value → Shared → Prop} {a b : Int} {t u : Tok} (hh : A.handled = none) (k : ∀ h' tk t, Kp s.heap h' → Q (.int (min a b) t) { s with heap := h', toks := tk }) : wpAny (model prog w) A (call (.builtin "min") [.int a t, .int b u]) Q E s := by
  refine min_two_ints hh fun h' tk hk => ?_
  by_cases hc : b < a
  · rw [if_pos hc]
    have := k h' tk u hk
    rwa [Int.min_eq_right (by omega)] at this
  · rw [if_neg hc]
    have := k h' tk t hk
    rwa [Int.min_eq_left (by omega)] at this

/-- range(n), range(a, b) -/
theorem rangeE1 {Q : Value → Shared → Prop} {n : Int} {t : Tok} (F : Frm B S₀ S env G mu s.heap) (h0 : 0 ≤ n) (h1 : n < 2 ^ 62)
    (k : ∀ r h' tk S', Sb S S' → Kp s.heap h' → Frm B S₀ S' env G mu h' → IterOf prog w S' (.ref r) ((List.range n.toNat).map fun i : Nat => PyData.int (0 + (i : Int))) → Q (.ref r) { s with heap := h', toks := tk }) :
    wpAny (model prog w) A (call (.type "range") [.int n t]) Q E s := by
  refine call_range_1 ?_
  obtain ⟨sb, e, F2⟩ := F.newS (o := { cls := .type "range", data := .fields #[.int 0 s.toks, .int n t, .int 1 (s.toks + 1)] }) (kp_push _ _) (size_none _) (Heap.get?_push_size _ rfl)
  exact k _ _ _ _ sb (kp_push _ _) F2 (IterOf.range (a := 0) (b := n) e ⟨_, _, _, rfl⟩ (by decide) (by decide) (by omega) h1 (by omega))
theorem rangeE2 {Q : Value → Shared → Prop} {a b : Int} {t u : Tok} (F : Frm B S₀ S env G mu s.heap) (ha : -(2 ^ 62) ≤ a) (ha' : a < 2 ^ 62) (hb : -(2 ^ 62) ≤ b) (hb' : b < 2 ^ 62)
    (k : ∀ r h' tk S', Sb S S' → Kp s.heap h' → Frm B S₀ S' env G mu h' → IterOf prog w S' (.ref r) ((List.range (b - a).toNat).map fun i : Nat => PyData.int (a + (i : Int))) → Q (.ref r) { s with heap := h', toks := tk }) :
    wpAny (model prog w) A (call (.type "range") [.int a t, .int b u]) Q E s := by
  refine call_range_2 ?_
  obtain ⟨sb, e, F2⟩ := F.newS (o := { cls := .type "range", data := .fields #[.int a t, .int b u, .int 1 s.toks] }) (kp_push _ _) (size_none _) (Heap.get?_push_size _ rfl)
  exact k _ _ _ _ sb (kp_push _ _) F2 (IterOf.range e ⟨_, _, _, rfl⟩ ha ha' hb hb' rfl)
end
section
variable {prog : Program} {w : World} {A : Around} {s : Shared} {E : Value → Shared → Prop} {Q : Value → Shared → Prop}
variable {mg mb : Str → Option Value} {S : Stab}

theorem filter_all {α : Type} (l : List α) : (l.filter fun _ => true) = l := List.filter_eq_self.mpr fun _ _ => rfl
theorem qInt {i j : Int} {t : Tok} {s' : Shared} (e : i = j) (h : Q (.int j t) s') : Q (.int i t) s' := e ▸ h
/-- step_size -/
theorem step_size_spec {n : Nat} {x : Step} {v fv : Value} (G : GG mg mb s.heap) (fo : FnOK s.heap fv (fdef 7) .none) (rm : Rm A (n + 1)) (hS : SubH S s.heap) (r : Rep S (stepD x) v)
    (k : ∀ t h' tk, Kp s.heap h' → Q (.int (sizeOf1 x) t) { s with heap := h', toks := tk }) : wpAny (model prog w) A (call fv [v]) Q E s := by
  refine enter (binds := [("step", v)]) (G := [("step", .dat (stepD x))]) G.lim fo rm hS (fun _ _ _ _ _ => BindsTo.of_eq rfl) (fun L a cd => vars_cons (.inl ⟨rfl, rfl⟩) r vars_nil) ?_
  intro L a cd h₁ tk A' E' rm' F
  repeat walk_at "tk"
  refine tupItem F (by assumption) (by decide) (by decide) rfl (fun u hu => ?_)
  obtain ⟨t, rfl⟩ := rep_int.mp hu
  repeat walk_at "tk"
  refine split_bool (fun h => ?_) (fun h => ?_)
  · repeat walk_at "tk"
    exact qInt (by simp [sizeOf1, beq_iff_eq.mp h]) (k _ _ _ F.base)
  · repeat walk_at "tk"
    refine tupItem F (by assumption) (by decide) (by decide) rfl (fun u hu => ?_)
    obtain ⟨t, rfl⟩ := rep_int.mp hu
    exact qInt (by rw [sizeOf1, if_neg (by simpa using h)]) (k _ _ _ F.base)

/-- size_of -/
theorem size_of_spec {n : Nat} {l : List Step} {v fv : Value} (G : GG mg mb s.heap) (fo : FnOK s.heap fv (fdef 8) .none) (rm : Rm A (n + 2)) (hS : SubH S s.heap) (r : Rep S (stepsD l) v) (hlen : l.length ≤ sizeLine)
    (k : ∀ t h' tk, Kp s.heap h' → Q (.int (sizeOf l) t) { s with heap := h', toks := tk }) : wpAny (model prog w) A (call fv [v]) Q E s := by
  refine enter (binds := [("steps", v)]) (G := [("steps", .dat (stepsD l))]) G.lim fo rm hS (fun _ _ _ _ _ => BindsTo.of_eq rfl) (fun L a cd => vars_cons (.inl ⟨rfl, rfl⟩) r vars_nil) ?_
  intro L a cd h₁ tk A' E' rm' F
  repeat walk_at "tk"
  refine bcallE F G.g G.b (G.ng _ (by decide)) G.b_sum ?_
  walk_at "tk"
  refine compA (cl := []) (by with_unfolding_all rfl) ?_
  walk_at "tk"
  rename_i v' hv'
  refine compB (xs := l) (enc := stepD) (fun _ => true) (fun x => .int (sizeOf1 x)) [] rm'.hh F (IterOf.list hv') hlen cap_nil ?_ ?_
  · intro C i x S' mu' h tk E'' hx sb F'
    refine test0 ?_
    rw [if_pos rfl]
    refine ⟨rfl, ?_⟩
    obtain ⟨fs, hfs, fos⟩ := G.fn 7 (by decide)
    have G' := G.keeps F.base
    refine callE F' G'.g hfs (fos.keeps F.base) ?_
    walk_at "tk"
    walk_at "tk"
    walk_at "tk"
    rename_i u hu
    refine ⟨F'.base, step_size_spec (n := n) (G'.keeps F'.base) ((fos.keeps F.base).keeps F'.base) rm' F'.sub hu fun t h' tk kp => ?_⟩
    exact ⟨h', tk, S', rfl, Sb.refl _, repI _ _ _, F'.keep kp⟩
  · intro u h' tk S' sb kp F' hr
    walk_at "tk"
    have e : (l.filter fun _ => true).map (fun x => PyData.int (sizeOf1 x)) = (l.map sizeOf1).map .int := by rw [filter_all, List.map_map]; rfl
    rw [e] at hr
    refine sumE rm'.hh F'.sub hr fun t h'' tk kp' => ?_
    exact k t h'' tk ((F.base.trans kp).trans kp')
end
/-! split_steps -/
noncomputable def splitF (block : Int) (d : List (List Step) × List Step × Int) (x : Step) : List (List Step) × List Step × Int :=
  if block ≤ d.2.2 then (d.1 ++ [d.2.1], [x], sizeOf1 x) else (d.1, d.2.1 ++ [x], d.2.2 + sizeOf1 x)
/-- what the test at a turn's head does -/
noncomputable def splitP (block : Int) (d : List (List Step) × List Step × Int) : List (List Step) × List Step × Int := if block ≤ d.2.2 then (d.1 ++ [d.2.1], [], 0) else d
theorem splitF_eq (block : Int) (d : List (List Step) × List Step × Int) (x : Step) : splitF block d x = ((splitP block d).1, (splitP block d).2.1 ++ [x], (splitP block d).2.2 + sizeOf1 x) := by
  unfold splitF splitP; split <;> simp
noncomputable def splitSt (block : Int) (l : List Step) : List (List Step) × List Step × Int := l.foldl (splitF block) ([], [], 0)
noncomputable def splitRows (block : Int) (l : List Step) : List (List Step) := (splitSt block l).1 ++ [(splitSt block l).2.1]
theorem splitSt_snoc (block : Int) (l : List Step) (x : Step) : splitSt block (l ++ [x]) = splitF block (splitSt block l) x := by
  simp [splitSt, List.foldl_append]
theorem take_snoc {α : Type} {l : List α} {i : Nat} {a : α} (h : l[i]? = some a) : l.take (i + 1) = l.take i ++ [a] := by rw [List.take_add_one, h]; rfl
theorem splitSt_len1 (block : Int) (l : List Step) : (splitSt block l).1.length ≤ l.length := by
  suffices h : ∀ (r : List Step) (d : List (List Step) × List Step × Int), (r.foldl (splitF block) d).1.length ≤ d.1.length + r.length by
    have := h l ([], [], 0); simpa [splitSt] using this
  intro r
  induction r with
  | nil => intro d; simp
  | cons x r ih =>
    intro d
    have h1 := ih (splitF block d x)
    have h2 : (splitF block d x).1.length ≤ d.1.length + 1 := by unfold splitF; split <;> simp
    rw [List.foldl_cons, List.length_cons]; omega
theorem splitSt_len2 (block : Int) (l : List Step) : (splitSt block l).2.1.length ≤ l.length := by
  suffices h : ∀ (r : List Step) (d : List (List Step) × List Step × Int), (r.foldl (splitF block) d).2.1.length ≤ d.2.1.length + r.length by
    have := h l ([], [], 0); simpa [splitSt] using this
  intro r
  induction r with
  | nil => intro d; simp
  | cons x r ih =>
    intro d
    have h1 := ih (splitF block d x)
    have h2 : (splitF block d x).2.1.length ≤ d.2.1.length + 1 := by unfold splitF; split <;> simp
    rw [List.foldl_cons, List.length_cons]; omega

section
variable {prog : Program} {w : World} {A : Around} {s : Shared} {E : Value → Shared → Prop} {Q : Value → Shared → Prop}
variable {mg mb : Str → Option Value} {S : Stab}

noncomputable def SplitJ (block : Int) (l : List Step) (i : Nat) (S' : Stab) (G' : Vars) (mu' : Muts) : Prop :=
  ∃ aF aR rs vs, G' = ([("found", .val (.ref aF)), ("many", .dat (.int (splitSt block (l.take i)).2.2)), ("steps", .dat (stepsD l)), ("block", .dat (.int block))] : Vars) ∧
    mu' = [(aF, isL (rs ++ [.ref aR])), (aR, isL vs)] ∧ RepL S' ((splitSt block (l.take i)).1.map stepsD) rs ∧ RepL S' ((splitSt block (l.take i)).2.1.map stepD) vs

theorem split_steps_spec {n : Nat} {l : List Step} {block : Int} {v u fv : Value} (G : GG mg mb s.heap) (fo : FnOK s.heap fv (fdef 13) .none) (rm : Rm A (n + 2)) (hS : SubH S s.heap) (r : Rep S (stepsD l) v) (r2 : Rep S (.int block) u) (hlen : l.length ≤ 1000)
    (k : ∀ v' h' tk S', Ret S s.heap h' S' → Rep S' (rowsD (splitRows block l)) v' → Q v' { s with heap := h', toks := tk }) : wpAny (model prog w) A (call fv [v, u]) Q E s := by
  refine enter (binds := [("steps", v), ("block", u)]) (G := [("steps", .dat (stepsD l)), ("block", .dat (.int block))]) G.lim fo rm hS (fun _ _ _ _ _ => BindsTo.of_eq rfl)
    (fun L a cd => vars_cons (.inl ⟨rfl, rfl⟩) r (vars_cons (.inl ⟨rfl, rfl⟩) r2 vars_nil)) ?_
  intro L a cd h₁ tk A' E' rm' F
  repeat walk_at "tk"
  refine listM F fun aR h₂ F2 => ?_
  repeat walk_at "tk"
  refine listM F2 fun aF h₃ F3 => ?_
  refine stX F3 fun h₄ F4 => ?_
  repeat walk_at "tk"
  rename Frm _ _ _ _ _ _ _ => F5
  rename_i v' hv'
  have F6 : Frm _ _ _ _ ([("found", .val (.ref aF)), ("many", .dat (.int 0)), ("steps", .dat (stepsD l)), ("block", .dat (.int block))] : Vars) _ _ := F5.weak (by walk_at "tk weak")
  refine forE (xs := l) (enc := stepD) rm'.hh (IterOf.list hv') F6 (SplitJ block l) ⟨aF, aR, [], [], rfl, rfl, RepL.nil S, RepL.nil S⟩ ?_ ?_
  · intro i x S' G' mu' p h tk u E'' hx hJ sb F' hu
    obtain ⟨aF, aR, rs, vs, rfl, rfl, h1, h2⟩ := hJ
    have hi : i < l.length := by
      rcases Nat.lt_or_ge i l.length with z | z
      · exact z
      · rw [List.getElem?_eq_none z] at hx; cases hx
    have hrs : rs.length ≤ 1000 := by have := h1.length; have := splitSt_len1 block (l.take i); simp at *; omega
    have hvs : vs.length ≤ 1000 := by have := h2.length; have := splitSt_len2 block (l.take i); simp at *; omega
    have F1 : Frm _ _ _ _ _ ((aF, isL (rs ++ [.ref aR])) :: (aR, isL vs) :: [p]) _ := F'
    walk_at "tk"
    refine stD F1 hu fun h₂ F2 => ?_
    walk_at "tk"
    generalize hd : splitSt block (l.take i) = d at *
    refine wpAny_mono (Q := fun f s' => f = .next ∧ ∃ h' tk' S1 aR1 rs1 vs1, s' = { s with heap := h', toks := tk' } ∧ Sb S' S1 ∧ RepL S1 ((splitP block d).1.map stepsD) rs1 ∧ RepL S1 ((splitP block d).2.1.map stepD) vs1 ∧ rs1.length ≤ 1001 ∧ vs1.length ≤ 1000 ∧
      Frm s.heap S S1 (envOf (fdef 13).name (fdef 13).scope L a cd) ([("found", .val (.ref aF)), ("many", .dat (.int (splitP block d).2.2)), ("step", .dat (stepD x)), ("steps", .dat (stepsD l)), ("block", .dat (.int block))] : Vars)
        [(aF, isL (rs1 ++ [.ref aR1])), (aR1, isL vs1), p] h') ?_ ?_ (fun _ _ e => e)
    · repeat walk_at "tk"
      refine split_bool (fun hc => ?_) (fun hc => ?_)
      · repeat walk_at "tk"
        refine ⟨aF, _, rfl, F2.plain (.head _), ?_⟩
        repeat walk_at "tk"
        refine listM F2 fun aN h₃ F3 => ?_
        refine appM F3.swap (by simp only [List.length_append, List.length_singleton]; exact Nat.le_trans (Nat.succ_le_succ hrs) (by decide)) fun h₄ F4 => ?_
        repeat walk_at "tk"
        rename Frm _ _ _ _ _ _ _ => F5
        obtain ⟨S1, sb1, hr1, G1⟩ := F5.rot3.rest h2
        have e : splitP block d = (d.1 ++ [d.2.1], [], 0) := by unfold splitP; rw [if_pos (of_decide_eq_true hc)]
        refine ⟨rfl, _, _, S1, aN, rs ++ [.ref aR], [], rfl, sb1, ?_, ?_, by simp; omega, by simp, ?_⟩
        · rw [e]; simp only [List.map_append, List.map_cons, List.map_nil]; exact (h1.mono sb1).snoc hr1
        · rw [e]; exact RepL.nil _
        · rw [e]; exact G1.weak (by walk_at "tk weak")
      · repeat walk_at "tk"
        have e : splitP block d = d := by unfold splitP; rw [if_neg (of_decide_eq_false hc)]
        refine ⟨rfl, _, _, S', aR, rs, vs, rfl, Sb.refl _, ?_, ?_, by omega, by omega, ?_⟩
        · rw [e]; exact h1
        · rw [e]; exact h2
        · rw [e]; exact F2.weak (by walk_at "tk weak")
    · rintro f s' ⟨rfl, h', tk', S1, aR1, rs1, vs1, rfl, sb1, h1', h2', hl1, hl2, F3⟩
      dsimp only
      repeat walk_at "tk"
      refine lastItem F3 (.head _) (by omega) ⟨aR1, _, rfl, F3.plain (.tail _ (.head _)), ?_⟩
      repeat walk_at "tk"
      rename_i u' hu'
      refine appM F3.swap (Nat.le_trans hl2 (by decide)) fun h₄ F4 => ?_
      repeat walk_at "tk"
      obtain ⟨fs, hfs, fos⟩ := G.fn 7 (by decide)
      refine callE F4 G.g hfs fos ?_
      repeat walk_at "tk"
      rename_i u'' hu''
      refine ⟨F4.base, step_size_spec (n := n) (G.keeps F4.base) (fos.keeps F4.base) rm' F4.sub hu'' fun t h₅ tk kp => ?_⟩
      have F5 := F4.keep kp
      repeat walk_at "tk"
      rename Frm _ _ _ _ _ _ _ => F6
      refine ⟨S1, _, _, _, _, rfl, sb.trans sb1, ⟨aF, aR1, rs1, vs1 ++ [u'], rfl, rfl, ?_, ?_⟩, F6.swap.weak ?_⟩
      · rw [take_snoc hx, splitSt_snoc, hd, splitF_eq]; exact h1'
      · rw [take_snoc hx, splitSt_snoc, hd, splitF_eq]; simpa using h2'.snoc hu'
      · rw [take_snoc hx, splitSt_snoc, hd, splitF_eq]; walk_at "tk weak"
  · intro S' G' mu' h tk hJ sb F'
    obtain ⟨aF, aR, rs, vs, rfl, rfl, h1, h2⟩ := hJ
    rw [List.take_length] at h1 h2
    repeat walk_at "tk"
    obtain ⟨S1, sb1, hr1, G1⟩ := F'.swap.rest h2
    have h1' := (h1.mono sb1).snoc hr1
    obtain ⟨S2, sb2, hr2, G2⟩ := G1.rest h1'
    refine k _ _ _ S2 G2.toRet ?_
    have e : rowsD (splitRows block l) = .list ((splitSt block l).1.map stepsD ++ [stepsD (splitSt block l).2.1]) := by simp [rowsD, splitRows]
    rw [e]; exact hr2
end
/-! _law_take -/
noncomputable def BoxOK (x : Int × Int × Int) : Prop := 0 ≤ x.1 ∧ 0 ≤ x.2.1 ∧ x.2.1 < 10007 ∧ 0 ≤ x.2.2
noncomputable def takeF (x : Int × Int × Int) (many : Int) : (Int × Int × Int) × Int :=
  if 0 < x.1 then ((x.1 / many, x.2.1, x.2.2), x.1 % many) else ((x.1, x.2.1, x.2.2 + 1), (x.2.1 + 83 * (x.2.2 + 1)) ^ 3 % 10007 / 3 % many)
theorem takeF_ok {x : Int × Int × Int} {many : Int} (h : BoxOK x) (hm : 0 < many) : BoxOK (takeF x many).1 ∧ 0 ≤ (takeF x many).2 ∧ (takeF x many).2 < many ∧ (takeF x many).1.2.2 ≤ x.2.2 + 1 := by
  obtain ⟨h1, h2, h3, h4⟩ := h
  unfold takeF
  split
  · refine ⟨⟨Int.ediv_nonneg h1 (by omega), h2, h3, h4⟩, Int.emod_nonneg _ (by omega), Int.emod_lt_of_pos _ hm, by simp; omega⟩
  · refine ⟨⟨h1, h2, h3, by simp; omega⟩, Int.emod_nonneg _ (by omega), Int.emod_lt_of_pos _ hm, by simp⟩

section
variable {prog : Program} {w : World} {A : Around} {s : Shared} {E : Value → Shared → Prop} {Q : Value → Shared → Prop}

theorem take_spec {n : Nat} {b : Addr} {x : Int × Int × Int} {many : Int} {tu : Tok} {fv : Value} (hl : s.heap.NoLimit) (fo : FnOK s.heap fv (fdef 16) .none) (rm : Rm A (n + 1))
    (hb : ∃ o, s.heap.get? b = some o ∧ isBox x o) (hm : 0 < many) (hm2 : many < 2 ^ 30) (hx : BoxOK x) (hc : x.2.2 ≤ 1000)
    (k : ∀ h' tk t, Heap.ExtBut b s.heap h' → (∃ o, h'.get? b = some o ∧ isBox (takeF x many).1 o) → Q (.int (takeF x many).2 t) { s with heap := h', toks := tk }) :
    wpAny (model prog w) A (call fv [.ref b, .int many tu]) Q E s := by
  refine enterM (S := fun _ => none) (B := s.heap.hide b) (mu := [(b, isBox x)]) (binds := [("box", .ref b), ("many", .int many tu)]) (G := [("box", .val (.ref b)), ("many", .dat (.int many))]) hl fo rm (fun _ _ e => by cases e)
    (fun c o e => Heap.of_hide e) (fun p hp => by rw [List.mem_singleton.mp hp]; exact ⟨hb, rfl, Heap.hide_self _ _⟩) (by simp) (fun _ _ _ _ _ => BindsTo.of_eq rfl)
    (fun L a cd => vars_cons (.inl ⟨rfl, rfl⟩) rfl (vars_cons (.inl ⟨rfl, rfl⟩) (repI (fun _ => none) _ _) vars_nil)) ?_
  intro L a cd h₁ tk A' E' rm' F
  obtain ⟨o, ho, t1, t2, t3, hc1, m1, hd1⟩ := F.is
  have hL : h₁.IsList b [Value.int x.1 t1, .int x.2.1 t2, .int x.2.2 t3].toArray := ⟨o, ho, hc1, m1, hd1⟩
  have base : ∀ h', Kp (s.heap.hide b) h' → Heap.ExtBut b s.heap h' := fun h' kp c o hcb e => kp c o (by rw [Heap.hide_ne _ hcb]; exact e)
  repeat walk_at "tk"
  refine valItem hL (by decide) (by decide) rfl ?_
  repeat walk_at "tk"
  refine split_bool (fun h => ?_) (fun h => ?_)
  · have h' := of_decide_eq_true h
    repeat walk_at "tk"
    refine valItem hL (by decide) (by decide) rfl ?_
    repeat walk_at "tk"
    refine mod_int' (by omega) ?_
    repeat walk_at "tk"
    rename Frm _ _ _ _ _ _ _ => F2
    obtain ⟨o2, ho2, t1', t2', t3', hc1', m1', hd1'⟩ := F2.is
    have hL2 : Heap.IsList _ b [Value.int x.1 t1', .int x.2.1 t2', .int x.2.2 t3'].toArray := ⟨o2, ho2, hc1', m1', hd1'⟩
    refine valItem hL2 (by decide) (by decide) rfl ?_
    repeat walk_at "tk"
    refine floordiv_int (by omega) ?_ (.inl (PyProof.noPylong_small (by omega)))
    repeat walk_at "tk"
    refine wpAny_setItem_list hL2 (by decide) (by decide) (by simp) fun h₃ hl₃ hs₃ => ?_
    obtain ⟨o3, ho3, hc3, m3, hd3⟩ := hl₃
    rw [Int.fdiv_eq_ediv_of_nonneg _ (Int.le_of_lt hm)] at hd3
    simp only [List.setIfInBounds_toArray] at hd3
    have F3 := F2.upd (P' := isBox (takeF x many).1) hs₃.extBut ho3 (by
      unfold takeF; rw [if_pos h']
      exact ⟨_, t2', t3', hc3, m3, hd3⟩)
    repeat walk_at "tk"
    obtain ⟨o4, ho4, hp4⟩ := F3.is
    refine qInt ?_ (k _ _ _ (base _ F3.base) ⟨o4, ho4, hp4⟩)
    unfold takeF; rw [if_pos h']
    exact Int.fmod_eq_emod_of_nonneg _ (Int.le_of_lt hm)
  · have h' : ¬ 0 < x.1 := of_decide_eq_false h
    repeat walk_at "tk"
    refine valItem hL (by decide) (by decide) rfl ?_
    repeat walk_at "tk"
    refine wpAny_setItem_list hL (by decide) (by decide) (by simp) fun h₃ hl₃ hs₃ => ?_
    obtain ⟨o3, ho3, hc3, m3, hd3⟩ := hl₃
    simp only [List.setIfInBounds_toArray] at hd3
    have F3 := F.upd (P' := isBox (takeF x many).1) hs₃.extBut ho3 (by
      unfold takeF; rw [if_neg h']
      exact ⟨t1, t2, _, hc3, m3, hd3⟩)
    have hL3 : Heap.IsList _ b _ := ⟨o3, ho3, hc3, m3, hd3⟩
    repeat walk_at "tk"
    refine valItem hL3 (by decide) (by decide) rfl ?_
    repeat walk_at "tk"
    refine valItem hL3 (by decide) (by decide) rfl ?_
    refine PyProof.Rows.mul_int ?_
    (try dsimp only)
    repeat walk_at "tk"
    obtain ⟨hx1, hx2, hx3, hx4⟩ := hx
    refine pow_int_small (by decide) (by decide) (by omega) ?_
    repeat walk_at "tk"
    refine mod_int' (by decide) ?_
    repeat walk_at "tk"
    refine floordiv_int (by decide) ?_ (.inl (PyProof.noPylong_small (by decide)))
    repeat walk_at "tk"
    refine mod_int' (by omega) ?_
    repeat walk_at "tk"
    obtain ⟨o4, ho4, hp4⟩ := F3.is
    refine qInt ?_ (k _ _ _ (base _ F3.base) ⟨o4, ho4, hp4⟩)
    unfold takeF; rw [if_neg h']
    simp only [Int.fmod_eq_emod_of_nonneg _ (Int.le_of_lt hm)]
    rw [Int.fmod_eq_emod_of_nonneg _ (by decide), Int.fdiv_eq_ediv_of_nonneg _ (by decide)]
    rfl
end
/-! _law_box -/
section
variable {prog : Program} {w : World} {A : Around} {s : Shared} {E : Value → Shared → Prop} {Q : Value → Shared → Prop}
variable {mg mb : Str → Option Value} {S : Stab}

theorem box_spec {n : Nat} {ns : List Int} {v fv : Value} (G : GG mg mb s.heap) (fo : FnOK s.heap fv (fdef 15) .none) (rm : Rm A (n + 1)) (hS : SubH S s.heap) (r : Rep S (intsD ns) v) (hlen : ns.length ≤ 1000)
    (k : ∀ a h' tk x, Kp s.heap h' → s.heap.get? a = none → (∃ o, h'.get? a = some o ∧ isBox x o) → BoxOK x → x.2.2 = 0 → Q (.ref a) { s with heap := h', toks := tk }) : wpAny (model prog w) A (call fv [v]) Q E s := by
  refine enter (binds := [("script", v)]) (G := [("script", .dat (intsD ns))]) G.lim fo rm hS (fun _ _ _ _ _ => BindsTo.of_eq rfl) (fun L a cd => vars_cons (.inl ⟨rfl, rfl⟩) r vars_nil) ?_
  intro L a cd h₁ tk A' E' rm' F
  walk_at "tk"
  refine Assign_Tuple ?_
  repeat walk_at "tk"
  refine tupTmp F fun at₁ h₂ kp F2 ht => ?_
  refine asgTup rm'.hh ht fun h₃ kp3 => ?_
  have F3 := F2.keep kp3
  repeat walk_at "tk"
  rename Frm _ _ _ _ _ _ _ => F4
  rename_i v' hv'
  have hl' : (ns.map PyData.int).length ≤ sizeLine := by rw [List.length_map]; exact Nat.le_trans hlen (by decide)
  refine sliceTail (hs := by first | exact .inl (fun _ _ => rfl) | exact .inr (fun _ _ => rfl)) F4 hv' hl' .none (.int _ _) .none (by decide) (pickTake 40) fun u h₅ S5 sb5 kp5 F5 hu => ?_
  have F6 : Frm _ _ _ _ ([("great", .dat (.int 0)), ("mixed", .dat (.int 9))] : Vars) _ _ := F5.weak (by walk_at "tk weak")
  rw [← List.map_take] at hu
  refine forE (xs := ns.take 40) (enc := .int) rm'.hh (IterOf.list hu) F6 (fun _ _ G' mu' => ∃ g m : Int, 0 ≤ g ∧ 0 ≤ m ∧ m < 10007 ∧ G' = ([("great", .dat (.int g)), ("mixed", .dat (.int m))] : Vars) ∧ mu' = []) ⟨0, 9, by decide, by decide, by decide, rfl, rfl⟩ ?_ ?_
  · intro i c S' G' mu' p h tk u E'' hx hJ sb F' hu
    obtain ⟨g, m, hg, hm1, hm2, rfl, rfl⟩ := hJ
    obtain ⟨t, rfl⟩ := rep_int.mp hu
    have F1 : Frm _ _ _ _ _ [p] _ := F'
    repeat walk_at "tk"
    refine PyProof.Rows.mul_int ?_
    repeat walk_at "tk"
    refine mod_int' (by decide) ?_
    rw [Int.fmod_eq_emod_of_nonneg _ (by decide)]
    have q1 := Int.emod_nonneg (m * 31 + c) (show (10007 : Int) ≠ 0 by decide)
    have q2 := Int.emod_lt_of_pos (m * 31 + c) (show (0 : Int) < 10007 by decide)
    generalize (m * 31 + c) % 10007 = m' at *
    repeat walk_at "tk"
    rename Frm _ _ _ _ _ _ _ => F2
    have fin : ∀ g' : Int, 0 ≤ g' → ∀ h' tk', Frm s.heap S S' (envOf (fdef 15).name (fdef 15).scope L a cd) ([("great", .dat (.int g')), ("mixed", .dat (.int m'))] : Vars) [p] h' →
        LInv (fun _ _ G' mu' => ∃ g m : Int, 0 ≤ g ∧ 0 ≤ m ∧ m < 10007 ∧ G' = ([("great", .dat (.int g)), ("mixed", .dat (.int m))] : Vars) ∧ mu' = []) s.heap S S5 (envOf (fdef 15).name (fdef 15).scope L a cd) s p (i + 1) { s with heap := h', toks := tk' } :=
      fun g' hg' h' tk' Fx => ⟨S', _, [], h', tk', rfl, sb, ⟨g', m', hg', q1, q2, rfl, rfl⟩, Fx⟩
    refine split_bool (fun hc => ?_) (fun hc => ?_)
    · repeat walk_at "tk"
      refine bcallE (id := "abs") F2 G.g G.b (G.ng _ (by decide)) G.b_abs ?_
      repeat walk_at "tk"
      refine call_abs_int fun u tk => ?_
      repeat walk_at "tk"
      refine pow_int_small (by decide) (by decide) (by decide) ?_
      repeat walk_at "tk"
      refine split_bool (fun hc => ?_) (fun hc => ?_)
      · repeat walk_at "tk"
        refine bcallE (id := "abs") F2 G.g G.b (G.ng _ (by decide)) G.b_abs ?_
        repeat walk_at "tk"
        refine call_abs_int fun u tk => ?_
        repeat walk_at "tk"
        refine pow_int_small (by decide) (by decide) (by decide) ?_
        repeat walk_at "tk"
        refine mod_int' (by decide +kernel) ?_
        rw [Int.fmod_eq_emod_of_nonneg _ (by decide +kernel)]
        have q3 := Int.emod_nonneg (if c < 0 then -c else c) (show (10 ^ (90 : Int).toNat : Int) ≠ 0 by decide +kernel)
        generalize (if c < 0 then -c else c) % (10 ^ (90 : Int).toNat : Int) = g' at *
        repeat walk_at "tk"
        rename Frm _ _ _ _ _ _ _ => F3
        exact fin g' q3 _ _ (F3.weak (by walk_at "tk weak"))
      · repeat walk_at "tk"
        exact fin g hg _ _ (F2.weak (by walk_at "tk weak"))
    · repeat walk_at "tk"
      exact fin g hg _ _ (F2.weak (by walk_at "tk weak"))
  · intro S' G' mu' h tk hJ sb F'
    obtain ⟨g, m, hg, hm1, hm2, rfl, rfl⟩ := hJ
    repeat walk_at "tk"
    refine listM F' fun b h₆ F7 => ?_
    obtain ⟨o, ho, n', rfl⟩ := F7.is
    exact k b h₆ _ (g, m, 0) F7.base (F7.mus _ (.head _)).2.2.2 ⟨_, ho, _, _, _, rfl, n', rfl⟩ ⟨hg, hm1, hm2, Int.le_refl 0⟩ rfl
end
/-! _law_steps -/
noncomputable def StepOK (made : Int) (x : Step) : Prop := (x.1 = 0 ∧ 0 ≤ x.2 ∧ x.2 ≤ 255) ∨ (2 ≤ x.1 ∧ x.1 ≤ 9 ∧ 1 ≤ x.2 ∧ x.2 ≤ made)
noncomputable def StepsOK (l : List Step) : Prop := ∀ (i : Nat) (x : Step), l[i]? = some x → StepOK (3 + sizeOf (l.take i)) x
theorem StepsOK.nil : StepsOK [] := fun i x h => by simp at h
theorem StepsOK.snoc {l : List Step} {x : Step} (h : StepsOK l) (hx : StepOK (3 + sizeOf l) x) : StepsOK (l ++ [x]) := fun i y hy => by
  rcases Nat.lt_trichotomy i l.length with z | z | z
  · rw [List.getElem?_append_left z] at hy
    rw [List.take_append_of_le_length (Nat.le_of_lt z)]
    exact h i y hy
  · subst z
    simp at hy; subst hy
    simpa using hx
  · rw [List.getElem?_eq_none (by simp; omega)] at hy; cases hy
theorem sizeOf_snoc (l : List Step) (x : Step) : sizeOf (l ++ [x]) = sizeOf l + sizeOf1 x := by simp [sizeOf]
theorem StepOK.size {m : Int} {x : Step} (h : StepOK m x) : sizeOf1 x = max 1 x.1 ∧ 1 ≤ sizeOf1 x ∧ sizeOf1 x ≤ 9 := by
  unfold sizeOf1
  rcases h with ⟨h1, _⟩ | ⟨h1, h2, _⟩
  · rw [h1]; decide
  · rw [if_neg (by omega)]; omega
theorem StepsOK.step {l : List Step} (h : StepsOK l) {x : Step} (hx : x ∈ l) : ∃ m, StepOK m x := by
  obtain ⟨i, hi⟩ := List.mem_iff_getElem?.mp hx
  exact ⟨_, h i x hi⟩

section
variable {prog : Program} {w : World} {A : Around} {s : Shared} {E : Value → Shared → Prop} {Q : Value → Shared → Prop}
variable {B : Heap} {S₀ S : Stab} {env : Env} {G : Vars} {mu : Muts} {mg mb : Str → Option Value}

theorem takeC {n : Nat} {b : Addr} {x : Int × Int × Int} {many : Int} {tu : Tok} {fv : Value} (F : Frm B S₀ S env G ((b, isBox x) :: mu) s.heap) (GB : GG mg mb B) (fo : FnOK B fv (fdef 16) .none) (rm : Rm A (n + 1))
    (hm : 0 < many) (hm2 : many < 2 ^ 30) (hx : BoxOK x) (hc : x.2.2 ≤ 1000)
    (k : ∀ h' tk t, Frm B S₀ S env G ((b, isBox (takeF x many).1) :: mu) h' → Q (.int (takeF x many).2 t) { s with heap := h', toks := tk }) : wpAny (model prog w) A (call fv [.ref b, .int many tu]) Q E s :=
  take_spec (GB.lim.keeps F.base) (fo.keeps F.base) rm F.is hm hm2 hx hc fun h' tk t hk ⟨_, ho, hp⟩ => k h' tk t (F.upd hk ho hp)

/-- what is told of steps that a call made beside its box -/
structure RetX (b : Addr) (S : Stab) (h h' : Heap) (S' : Stab) : Prop where
  keep : Heap.ExtBut b h h'
  sb : Sb S S'
  sub : SubH S' h'
  new : ∀ c o, S' c = some o → S c = some o ∨ h.get? c = none

noncomputable def StepsJ (aF b : Addr) (x : Int × Int × Int) (i : Nat) (S' : Stab) (G' : Vars) (mu' : Muts) : Prop :=
  ∃ vs l x', G' = ([("found", .val (.ref aF)), ("made", .dat (.int (3 + sizeOf l))), ("box", .val (.ref b))] : Vars) ∧
    mu' = [(b, isBox x'), (aF, isL vs)] ∧ RepL S' (l.map stepD) vs ∧ l.length = i ∧ StepsOK l ∧ BoxOK x' ∧ x'.2.2 ≤ x.2.2 + 3 * i ∧ sizeOf l ≤ 9 * i ∧ 0 ≤ sizeOf l
theorem steps_spec {n : Nat} {b : Addr} {x : Int × Int × Int} {many : Int} {tu : Tok} {fv : Value} {B₀ : Heap} (kB : Kp B₀ s.heap) (nb : B₀.get? b = none) (GB : GG mg mb B₀) (fo : FnOK B₀ fv (fdef 17) .none) (rm : Rm A (n + 2)) (hS : SubH S s.heap) (hSb : S b = none)
    (hb : ∃ o, s.heap.get? b = some o ∧ isBox x o) (hm : 0 ≤ many) (hm2 : many ≤ 10) (hx : BoxOK x) (hc : x.2.2 ≤ 500)
    (k : ∀ v h' tk S' x' l, RetX b S s.heap h' S' → (∃ o, h'.get? b = some o ∧ isBox x' o) → BoxOK x' → x'.2.2 ≤ x.2.2 + 3 * many → StepsOK l → (l.length : Int) = many → Rep S' (stepsD l) v → Q v { s with heap := h', toks := tk }) :
    wpAny (model prog w) A (call fv [.ref b, .int many tu]) Q E s := by
  have hide : Kp B₀ (s.heap.hide b) := fun c o e => by
    rw [Heap.hide_ne _ (fun q : c = b => by rw [q, nb] at e; cases e)]; exact kB c o e
  refine enterM (S := S) (B := s.heap.hide b) (mu := [(b, isBox x)]) (binds := [("box", .ref b), ("many", .int many tu)]) (G := [("box", .val (.ref b)), ("many", .dat (.int many))]) (GB.lim.keeps kB) (fo.keeps kB) rm hS
    (fun c o e => Heap.of_hide e) (fun p hp => by rw [List.mem_singleton.mp hp]; exact ⟨hb, hSb, Heap.hide_self _ _⟩) (by simp) (fun _ _ _ _ _ => BindsTo.of_eq rfl)
    (fun L a cd => vars_cons (.inl ⟨rfl, rfl⟩) rfl (vars_cons (.inl ⟨rfl, rfl⟩) (repI S _ _) vars_nil)) ?_
  intro L a cd h₁ tk A' E' rm' F
  have G := GB.keeps hide
  obtain ⟨ft, hft, fot⟩ := G.fn 16 (by decide)
  walk_at "tk"
  refine asgSwap rm'.hh ?_ rfl
  repeat walk_at "tk"
  refine listM F fun aF h₂ F2 => ?_
  repeat walk_at "tk"
  refine tupTmp F2 fun at₁ h₃ kp F3 ht => ⟨at₁, _, rfl, ht, rfl, fun h₄ kp4 => ?_⟩
  have F4 := F3.keep kp4
  dsimp only [List.reverse, List.reverseAux, List.map]
  repeat walk_at "tk"
  rename Frm _ _ _ _ _ _ _ => F5
  refine tcallE F5 G.g G.b (G.ng _ (by decide)) G.b_range ?_
  repeat walk_at "tk"
  refine rangeE1 F5 hm (by omega) fun r h₅ tk5 S5 sb5 kp5 F6 X => ?_
  have F7 : Frm _ _ _ _ ([("found", .val (.ref aF)), ("made", .dat (.int 3)), ("box", .val (.ref b))] : Vars) _ _ := F6.swap.weak (by walk_at "tk weak")
  refine forE (xs := List.range many.toNat) (enc := fun i : Nat => PyData.int (0 + (i : Int))) rm'.hh X F7 (StepsJ aF b x) ⟨[], [], x, rfl, rfl, RepL.nil _, rfl, StepsOK.nil, hx, by simp, by decide, by decide⟩ ?_ ?_
  · intro i c S' G' mu' p h tk u E'' hxi hJ sb F' hu
    obtain ⟨vs, l, x', rfl, rfl, hr, hl, hok, hbx, hcx, hs9, hs0⟩ := hJ
    have hi : i < 10 := by
      rcases Nat.lt_or_ge i many.toNat with z | z
      · omega
      · rw [List.getElem?_eq_none (by simpa using z)] at hxi; cases hxi
    have F1 : Frm _ _ _ _ _ ((b, isBox x') :: (aF, isL vs) :: [p]) _ := F'
    obtain ⟨t, rfl⟩ := rep_int.mp hu
    walk_at "tk"
    walk_at "tk"
    walk_at "tk"
    rename Frm _ _ _ _ _ _ _ => F2
    have hmd : 0 < 3 + sizeOf l ∧ 3 + sizeOf l < 2 ^ 30 := by omega
    refine wpAny_mono (Q := fun f s' => f = .next ∧ ∃ h' tk' S1 u x1 y, s' = { s with heap := h', toks := tk' } ∧ Sb S' S1 ∧ Rep S1 (stepD y) u ∧ StepOK (3 + sizeOf l) y ∧ BoxOK x1 ∧ x1.2.2 ≤ x'.2.2 + 3 ∧
      Frm (s.heap.hide b) S S1 (envOf (fdef 17).name (fdef 17).scope L a cd) ([("found", .val (.ref aF)), ("made", .dat (.int (3 + sizeOf l))), ("box", .val (.ref b))] : Vars) [(b, isBox x1), (aF, isL (vs ++ [u])), p] h') ?_ ?_ (fun _ _ e => e)
    · repeat walk_at "tk"
      refine callE F2 G.g hft fot ?_
      repeat walk_at "tk"
      refine ⟨F2.base, takeC (n := n) F2 G fot rm' (by decide) (by decide) hbx (by omega) fun h₆ tk₆ t₆ F6 => ?_⟩
      obtain ⟨b1, b2, b3, b4⟩ := takeF_ok (many := 3) hbx (by decide)
      generalize hx1 : (takeF x' 3).1 = x1 at *
      generalize (takeF x' 3).2 = d1 at *
      repeat walk_at "tk"
      refine split_bool (fun hc1 => ?_) (fun hc1 => ?_)
      · repeat walk_at "tk"
        refine ⟨aF, _, rfl, F6.plain (.tail _ (.head _)), ?_⟩
        repeat walk_at "tk"
        refine callE F6 G.g hft fot ?_
        repeat walk_at "tk"
        refine ⟨F6.base, takeC (n := n) F6 G fot rm' (by decide) (by decide) b1 (by omega) fun h₇ tk₇ t₇ F7 => ?_⟩
        obtain ⟨e1, e2, e3, e4⟩ := takeF_ok (many := 256) b1 (by decide)
        generalize (takeF x1 256).1 = x2 at *
        generalize (takeF x1 256).2 = d2 at *
        repeat walk_at "tk"
        refine tupE F7 (RepL.cons (repI _ _ _) (RepL.cons (repI _ _ _) (RepL.nil _))) fun at₂ h₈ S8 sb8 kp8 F8 hr8 => ?_
        refine appM F8.swap (by have := hr.length; rw [this, List.length_map]; exact Nat.le_trans (by omega : l.length ≤ 10) (by decide)) fun h₉ F9 => ?_
        repeat walk_at "tk"
        exact ⟨rfl, _, _, S8, _, x2, (0, d2), rfl, sb8, hr8, .inl ⟨rfl, e2, by omega⟩, e1, by omega, F9.swap.weak (by walk_at "tk weak")⟩
      · repeat walk_at "tk"
        refine callE F6 G.g hft fot ?_
        repeat walk_at "tk"
        refine ⟨F6.base, takeC (n := n) F6 G fot rm' (by decide) (by decide) b1 (by omega) fun h₇ tk₇ t₇ F7 => ?_⟩
        obtain ⟨e1, e2, e3, e4⟩ := takeF_ok (many := 8) b1 (by decide)
        generalize (takeF x1 8).1 = x2 at *
        generalize (takeF x1 8).2 = d2 at *
        repeat walk_at "tk"
        rename Frm _ _ _ _ _ _ _ => F8
        refine ⟨aF, _, rfl, F8.plain (.tail _ (.head _)), ?_⟩
        repeat walk_at "tk"
        refine callE F8 G.g hft fot ?_
        repeat walk_at "tk"
        refine ⟨F8.base, takeC (n := n) F8 G fot rm' hmd.1 hmd.2 e1 (by omega) fun h₉ tk₉ t₉ F9 => ?_⟩
        obtain ⟨g1, g2, g3, g4⟩ := takeF_ok (many := 3 + sizeOf l) e1 hmd.1
        generalize (takeF x2 (3 + sizeOf l)).1 = x3 at *
        generalize (takeF x2 (3 + sizeOf l)).2 = d3 at *
        repeat walk_at "tk"
        refine tupE F9 (RepL.cons (repI _ _ _) (RepL.cons (repI _ _ _) (RepL.nil _))) fun at₂ h₁₀ S10 sb10 kp10 F10 hr10 => ?_
        refine appM F10.swap (by have := hr.length; rw [this, List.length_map]; exact Nat.le_trans (by omega : l.length ≤ 10) (by decide)) fun h₁₁ F11 => ?_
        repeat walk_at "tk"
        exact ⟨rfl, _, _, S10, _, x3, (2 + d2, 1 + d3), rfl, sb10, hr10, .inr ⟨by show 2 ≤ 2 + d2; omega, by show 2 + d2 ≤ 9; omega, by show 1 ≤ 1 + d3; omega, by show 1 + d3 ≤ 3 + sizeOf l; omega⟩, g1, by omega, F11.swap.weak (by walk_at "tk weak")⟩
    · rintro f s' ⟨rfl, h', tk', S1, u, x1, y, rfl, sb1, hy, hyo, hb1, hc1, F3⟩
      dsimp only
      repeat walk_at "tk"
      refine bcallE F3 G.g G.b (G.ng _ (by decide)) G.b_max ?_
      repeat walk_at "tk"
      refine lastItem F3 (.tail _ (.head _)) (by have := hr.length; rw [this, List.length_map]; omega) ?_
      repeat walk_at "tk"
      refine tupItem F3 hy (by decide) (by decide) rfl (fun v hv => ?_)
      obtain ⟨tv, rfl⟩ := rep_int.mp hv
      repeat walk_at "tk"
      refine maxE rm'.hh fun h₆ tk₆ t₆ kp₆ => ?_
      have F4 := F3.keep kp₆
      repeat walk_at "tk"
      rename Frm _ _ _ _ _ _ _ => F5
      obtain ⟨z1, z2, z3⟩ := hyo.size
      refine ⟨S1, _, _, _, _, rfl, sb.trans sb1, ⟨vs ++ [u], l ++ [y], x1, rfl, rfl, ?_, by simp [hl], hok.snoc hyo, hb1, by push_cast; omega, by rw [sizeOf_snoc]; push_cast; omega, by rw [sizeOf_snoc]; omega⟩, F5.weak ?_⟩
      · simp only [List.map_append, List.map_cons, List.map_nil]; exact (hr.mono sb1).snoc hy
      · rw [sizeOf_snoc, z1, ← Int.add_assoc]; walk_at "tk weak"
  · intro S' G' mu' h tk hJ sb F'
    obtain ⟨vs, l, x', rfl, rfl, hr, hl, hok, hbx, hcx, hs9, hs0⟩ := hJ
    rw [List.length_range] at hl hcx
    repeat walk_at "tk"
    obtain ⟨S2, sb2, hr2, F2⟩ := F'.swap.rest hr
    refine k _ _ _ S2 x' l ⟨?_, F2.sb, F2.sub, ?_⟩ F2.is hbx (by omega) hok (by omega) hr2
    · exact fun c o hcb e => F2.base c o (by rw [Heap.hide_ne _ hcb]; exact e)
    · intro c o e
      rcases F2.new c o e with q | q
      · exact .inl q
      · by_cases hcb : c = b
        · subst hcb
          have := (F2.mus _ (.head _)).2.2.1
          rw [show S2 c = none from this] at e; cases e
        · rw [Heap.hide_ne _ hcb] at q; exact .inr q
end
/-! contexts in which nothing holds a bytearray: the rules of wpAny that are needed, over these -/
noncomputable def badIds : List String := Builtin.Bytes.decodersThatHold ++ ["bytearray.__contains__", "bytearray.__mod__", "bytearray.__rmod__", "_struct.pack_into.held", "bytearray.find.held"]
noncomputable def cleanC : Code → Bool
  | .builtin id _ => !badIds.contains id
  | _ => true
noncomputable def CleanB (Γ : Ctx) : Prop := ∀ x ∈ Γ.below, cleanC x.1 = true
noncomputable def Clean (Γ : Ctx) : Prop := cleanC Γ.code = true ∧ CleanB Γ

noncomputable def wpC {α : Type} (M : Model) (A : Around) (t : Sem α) (Q : α → Shared → Prop) (E : Value → Shared → Prop) (s : Shared) : Prop :=
  ∀ Γ p, Γ.In A → Clean Γ → Sem.wp M Γ t (fun a _ s' => Q a s') (fun e _ s' => E e s') p s
noncomputable def codeC (M : Model) (A : Around) (c : Code) (R : Result → Shared → Prop) (s : Shared) : Prop :=
  ∀ Γ p, Γ.code = c → Γ.Below A → CleanB Γ → wpCode M Γ R p s

theorem Clean.enter {Γ : Ctx} (h : Clean Γ) (c : Code) (hd : Option Value) (p : Pos) : CleanB (Γ.enter c hd p) := fun x hx => by
  rcases List.mem_cons.mp hx with rfl | hx
  · exact h.1
  · exact h.2 x hx

section
variable {α β : Type} {M : Model} {A : Around} {E : Value → Shared → Prop} {s : Shared}

theorem wpC_of_any {t : Sem α} {Q : α → Shared → Prop} (h : wpAny M A t Q E s) : wpC M A t Q E s := fun Γ p hΓ _ => h Γ p hΓ
theorem codeC_of_any {c : Code} {R : Result → Shared → Prop} (h : codeAny M A c R s) : codeC M A c R s := fun Γ p hc hΓ _ => h Γ p hc hΓ
theorem wpC_pure {a : α} {Q : α → Shared → Prop} (h : Q a s) : wpC M A (pure a) Q E s := fun _ _ _ _ => h
theorem wpC_mono {t : Sem α} {Q Q' : α → Shared → Prop} {E' : Value → Shared → Prop} (h : wpC M A t Q E s) (hQ : ∀ a s, Q a s → Q' a s) (hE : ∀ e s, E e s → E' e s) : wpC M A t Q' E' s :=
  fun Γ p hΓ hc => Sem.wp_mono M Γ t (fun a _ s => hQ a s) (fun e _ s => hE e s) p s (h Γ p hΓ hc)
theorem codeC_mono {c : Code} {R R' : Result → Shared → Prop} (h : codeC M A c R s) (hR : ∀ r s, R r s → R' r s) : codeC M A c R' s :=
  fun Γ p hc hΓ hb => wpCode_mono hR (h Γ p hc hΓ hb)
theorem wpC_bind {m : Sem α} {f : α → Sem β} {Q : β → Shared → Prop} (h : wpC M A m (fun a s' => wpC M A (f a) Q E s') E s) : wpC M A (m >>= f) Q E s := fun Γ p hΓ hc => by
  rw [Sem.wp_bind']
  exact Sem.wp_mono M Γ m (fun a p' s' h' => h' Γ p' hΓ hc) (fun _ _ _ h' => h') p s (h Γ p hΓ hc)
/-- what stands ahead is of any context -/
theorem wpC_bindA {m : Sem α} {f : α → Sem β} {Q : β → Shared → Prop} (h : wpAny M A m (fun a s' => wpC M A (f a) Q E s') E s) : wpC M A (m >>= f) Q E s := wpC_bind (wpC_of_any h)
theorem wpC_onRaise {m : Sem α} {k : Value → Sem Unit} {Q : α → Shared → Prop} (h : wpC M A m Q (fun e s' => wpC M A (k e) (fun _ s'' => E e s'') E s') s) : wpC M A (m.onRaise k) Q E s := fun Γ p hΓ hc => by
  rw [Sem.wp_onRaise]
  exact Sem.wp_mono M Γ m (fun _ _ _ h' => h') (fun e p' s' h' => h' Γ p' hΓ hc) p s (h Γ p hΓ hc)
theorem wpC_holding {vs : List Value} {m : Sem α} {Q : α → Shared → Prop} (h : wpC M A m Q E s) : wpC M A (holding vs m) Q E s := fun Γ p hΓ hc => by rw [Sem.wp_holding]; exact h Γ p hΓ hc
theorem wpC_keep {vs : List Value} {m : Sem α} {Q : α → Shared → Prop} (h : wpC M A m Q E s) : wpC M A (m.keep vs) Q E s := fun Γ p hΓ hc => by rw [Sem.wp_keep]; exact h Γ p hΓ hc
theorem wpC_standAt {pos : Pos} {Q : Unit → Shared → Prop} (h : Q () s) : wpC M A (standAt pos) Q E s := fun _ _ _ _ => h
theorem wpC_run {c : Code} {h : Option Value} {Q : Flow → Shared → Prop} (hc : codeC M (A.mark h) c (fun r s' => match r with | .ok f => Q f s' | .error e => E e s') s) (hnb : h ≠ some byPass) : wpC M A (run c h) Q E s :=
  fun Γ p hΓ hcl => by rw [Sem.wp_run]; exact hc _ p rfl (hΓ.enter c h p hnb) (hcl.enter c h p)
theorem wpC_runValue {c : Code} {Q : Value → Shared → Prop} (hc : codeC M A c (fun r s' => match r with | .ok (.ret v) => Q v s' | .ok _ => False | .error e => E e s') s) : wpC M A (runValue c) Q E s :=
  fun Γ p hΓ hcl => by rw [Sem.wp_runValue]; exact hc _ p rfl (hΓ.enter c none p (by intro x; cases x)) (hcl.enter c none p)
theorem wpC_call {f : Value} {pos : List Value} {kw : List (Str × Value)} {Q : Value → Shared → Prop}
    (hc : codeC M A (.call f ⟨pos, kw⟩) (fun r s' => match r with | .ok (.ret v) => Q v s' | .ok _ => False | .error e => E e s') s) : wpC M A (call f pos kw) Q E s := wpC_runValue hc
theorem codeC_of_tree {c : Code} {R : Result → Shared → Prop}
    (h : wpC M (A.under c) (M.den c) (fun fin s' => match fin with | .done f => R (.ok f) s' | .again c' => c'.quiet = true ∧ codeC M A c' R s') (fun e s' => R (.error e) s') s) (hcl : cleanC c = true) : codeC M A c R s := fun Γ p hc hΓ hb => by
  rw [wpCode_iff_wp, hc]
  refine Sem.wp_mono M Γ _ (fun fin p' s' h' => ?_) (fun _ _ _ h' => h') p s (h Γ p (hc ▸ hΓ.in) ⟨by rw [hc]; exact hcl, hb⟩)
  cases fin with
  | done f => exact h'
  | again c' => exact ⟨h'.1, h'.2 (Γ.goto c') p' rfl (hΓ.goto c') hb⟩

theorem wpC_exported {a : Value} {Q : Bool → Shared → Prop} (h : Q false s) : wpC M A (Builtin.Bytes.exported a) Q E s := fun Γ p hΓ hc => by
  unfold Builtin.Bytes.exported
  rw [Sem.wp_bind']
  unfold stack
  rw [Sem.wp_stack]
  show Q _ s
  refine cast (congrArg (fun b => Q b s) (Eq.symm ?_)) h
  rw [List.any_eq_false]
  rintro ⟨c, q⟩ hx
  have h' : cleanC c = true := by
    rcases List.mem_cons.mp hx with e | hx
    · cases e; exact hc.1
    · exact hc.2 _ hx
  rw [Bool.not_eq_true]
  cases c with
  | builtin id args =>
    have h1 : badIds.contains id = false := by simpa [cleanC] using h'
    have nn : ∀ x, badIds.contains x = true → id ≠ x := fun x hx e => by rw [← e, h1] at hx; cases hx
    have h2 : Builtin.Bytes.decodersThatHold.contains id = false := by
      cases z : Builtin.Bytes.decodersThatHold.contains id with
      | false => rfl
      | true =>
        have : badIds.contains id = true := by
          rw [List.contains_iff_mem] at z ⊢
          exact List.mem_append_left _ z
        rw [h1] at this; cases this
    obtain ⟨pos, kw⟩ := args
    unfold Builtin.Bytes.exported.match_1
    with_reducible refine (dif_neg (nn "bytearray.__contains__" (by decide +kernel))).trans ?_
    with_reducible refine (dif_neg (nn "bytearray.__mod__" (by decide +kernel))).trans ?_
    with_reducible refine (dif_neg (nn "bytearray.__rmod__" (by decide +kernel))).trans ?_
    with_reducible refine (dif_neg (nn "_struct.pack_into.held" (by decide +kernel))).trans ?_
    with_reducible refine (dif_neg (nn "bytearray.find.held" (by decide +kernel))).trans ?_
    cases pos with
    | nil => rfl
    | cons v r =>
      show (_ && Builtin.Bytes.decodersThatHold.contains id) = false
      rw [h2, Bool.and_false]
  | _ => rfl
end
section
variable {prog : Program} {w : World} {A : Around} {E : Value → Shared → Prop} {R : Result → Shared → Prop} {s : Shared}

theorem wpC_ite_false {α : Type} {M : Model} {Q : α → Shared → Prop} {c : Prop} [Decidable c] {a b : Sem α} (hc : ¬ c) (h : wpC M A b Q E s) : wpC M A (if c then a else b) Q E s := by rw [if_neg hc]; exact h
theorem wpC_ite_true {α : Type} {M : Model} {Q : α → Shared → Prop} {c : Prop} [Decidable c] {a b : Sem α} (hc : c) (h : wpC M A a Q E s) : wpC M A (if c then a else b) Q E s := by rw [if_pos hc]; exact h
theorem codeC_builtin {id : String} {args : Args} {b : Builtin} (hb : entryFor table id = some b)
    (h : wpC (model prog w) (A.under (.builtin id args)) (b args)
      (fun fin s' => match fin with | .done f => R (.ok f) s' | .again c' => c'.quiet = true ∧ codeC (model prog w) A c' R s') (fun e s' => R (.error e) s') s) (hcl : badIds.contains id = false) :
    codeC (model prog w) A (.builtin id args) R s := by
  refine codeC_of_tree ?_ (by show (!badIds.contains id) = true; rw [hcl]; rfl)
  show wpC _ _ (match entryFor table id with | some b => b args | none => unsupported ((withoutEnding? id "#data").getD id)) _ _ s
  rw [hb]; exact h
theorem codeC_call_builtin {id : String} {args : Args} {b : Builtin} (hq : plainId id = true) (hb : entryFor table id = some b)
    (h : wpAny (model prog w) A.in1 (checkBuiltinCall id args) (fun _ s₁ => wpC (model prog w) A.in1 (b args)
      (fun fin s' => match fin with | .done f => R (.ok f) s' | .again c' => c'.quiet = true ∧ codeC (model prog w) A c' R s') (fun e s' => R (.error e) s') s₁)
      (fun e s' => R (.error e) s') s) (hcl : badIds.contains id = false) : codeC (model prog w) A (.call (.builtin id) args) R s := by
  refine codeC_of_tree ?_ rfl
  show wpC _ A.in1 (do checkBuiltinCall id args; again (.builtin id args)) _ _ s
  refine wpC_bindA (wpAny_mono h (fun _ s₁ h₁ => wpC_pure (And.intro (plainId_quiet hq args) (codeC_builtin hb ?_ hcl))) fun _ _ h' => h')
  rw [Around.under_plainId hq args]; exact h₁

theorem callTypeC {T newId initId : String} {Bi : Builtin} {args : List Value} {Q Q₁ : Value → Shared → Prop} (ft : TypeCalled T newId initId)
    (hct : checkTypeCall T ⟨args, []⟩ = pure ()) (entryI : entryFor table initId = some Bi)
    (hnew : codeAny (model prog w) A.in1 (.call (.builtin newId) ⟨.type T :: args, []⟩) (wants Q₁ E) s)
    (hnext : ∀ obj s₁, Q₁ obj s₁ → s₁.TypeIs obj T ∧ argsOk initId ⟨obj :: args, []⟩ ∧
      wpC (model prog w) A.in1.in1 (Bi ⟨obj :: args, []⟩)
        (fun fin s' => match fin with | .done f => wants (fun r s₂ => r = .none ∧ Q obj s₂) E (.ok f) s' | .again c' => c'.quiet = true ∧ codeC (model prog w) A.in1 c' (wants (fun r s₂ => r = .none ∧ Q obj s₂) E) s')
        (fun e s' => wants (fun r s₂ => r = .none ∧ Q obj s₂) E (.error e) s') s₁) (hbad : badIds.contains initId = false) :
    wpC (model prog w) A (call (.type T) args) Q E s := by
  obtain ⟨c, tl, hmro⟩ := ft.mro
  have hmade := ft.made
  have hsub := ft.sub
  refine wpC_call (codeC_of_tree ?_ rfl)
  show wpC _ _ (callAny (.type T) _) _ _ _
  refine wpC_pure ⟨Code.quiet_builtin _ (by decide +kernel), codeC_builtin F.entry_type_call ?_ (by decide +kernel)⟩
  rw [Around.under_plain (weight_type_call_type T args []) rfl]
  have h1 := ft.notType
  have h2 := ft.canCreate
  unfold Builtin.«type.__call__»
  dsimp only
  refine wpC_ite_false (by simp [h1]) ?_
  refine wpC_ite_false (by rw [show _ = false from h2]; exact Bool.false_ne_true) ?_
  refine wpC_bindA (wpAny_of_eq hct ?_)
  refine wpC_bindA (wpAny_of_eq hmro ?_)
  refine wpC_ite_false (by simp) ?_
  refine wpC_bindA (wpAny_of_eq hmade ?_)
  dsimp only
  refine wpC_bindA (wpAny_pure ?_)
  refine wpC_bindA (wpAny_holding (wpAny_call (codeAny_mono hnew fun r s₁ hr => ?_)))
  cases r with
  | error e => exact hr
  | ok fl =>
    cases fl with
    | ret obj =>
      obtain ⟨hT, hok, hsi⟩ := hnext _ _ hr
      have hli := ft.init.lookup
      have hbi := ft.init.bind obj
      dsimp only
      refine wpC_bindA (wpAny_isInstance hT hsub ?_)
      refine wpC_ite_false (by decide) ?_
      refine wpC_bind (wpC_holding ?_)
      unfold callSpecial?
      refine wpC_bindA (wpAny_specialOf hT hli ?_)
      dsimp only
      refine wpC_holding (wpC_bindA (wpAny_of_eq hbi ?_))
      dsimp only
      refine wpC_bind (wpC_call (codeC_mono (codeC_call_builtin ft.init.plain entryI (ft.init.check _ _ _ _ _ _ _ _ hT hok hsi) hbad) fun r₂ s₂ hr₂ => ?_))
      cases r₂ with
      | error e => exact hr₂
      | ok fl₂ =>
        cases fl₂ with
        | ret r =>
          obtain ⟨rfl, hq⟩ := hr₂
          refine wpC_pure ?_
          dsimp only
          refine wpC_ite_false (by decide) ?_
          exact wpC_pure hq
        | _ => exact hr₂.elim
    | _ => exact hr.elim
end
/-! what the tables say of bytes and bytearray -/
set_option maxRecDepth 100000
namespace BF
open PySem.W.Fast
theorem slot_init : Slot "bytearray" "__init__" "bytearray.__init__" :=
  .of (owner := "bytearray") (n := "__init__") (by rw [typeLookup_type, builtinLookup_eq_fast]; kernel_rfl) (by decide +kernel) (by decide +kernel) (by decide +kernel)
    (by first | exact .inl (by rw [findQ_eq]; decide +kernel) | exact .inr (by rw [findQ_eq]; decide +kernel)) (by rw [isSubtype_type]; kernel_rfl)
theorem slot_append : Slot "bytearray" "append" "bytearray.append" :=
  .of (owner := "bytearray") (n := "append") (by rw [typeLookup_type, builtinLookup_eq_fast]; kernel_rfl) (by decide +kernel) (by decide +kernel) (by decide +kernel)
    (by first | exact .inl (by rw [findQ_eq]; decide +kernel) | exact .inr (by rw [findQ_eq]; decide +kernel)) (by rw [isSubtype_type]; kernel_rfl)
theorem slot_len : Slot "bytearray" "__len__" "bytearray.__len__" :=
  .of (owner := "bytearray") (n := "__len__") (by rw [typeLookup_type, builtinLookup_eq_fast]; kernel_rfl) (by decide +kernel) (by decide +kernel) (by decide +kernel)
    (by first | exact .inl (by rw [findQ_eq]; decide +kernel) | exact .inr (by rw [findQ_eq]; decide +kernel)) (by rw [isSubtype_type]; kernel_rfl)
theorem slot_getitem : Slot "bytearray" "__getitem__" "bytearray.__getitem__" :=
  .of (owner := "bytearray") (n := "__getitem__") (by rw [typeLookup_type, builtinLookup_eq_fast]; kernel_rfl) (by decide +kernel) (by decide +kernel) (by decide +kernel)
    (by first | exact .inl (by rw [findQ_eq]; decide +kernel) | exact .inr (by rw [findQ_eq]; decide +kernel)) (by rw [isSubtype_type]; kernel_rfl)
theorem slot_blen : Slot "bytes" "__len__" "bytes.__len__" :=
  .of (owner := "bytes") (n := "__len__") (by rw [typeLookup_type, builtinLookup_eq_fast]; kernel_rfl) (by decide +kernel) (by decide +kernel) (by decide +kernel)
    (by first | exact .inl (by rw [findQ_eq]; decide +kernel) | exact .inr (by rw [findQ_eq]; decide +kernel)) (by rw [isSubtype_type]; kernel_rfl)
theorem type_append : typeOf (.builtin "bytearray.append") = pure (.type "method_descriptor") := by show builtinType _ = _; rw [builtinType_eq_fast]; kernel_rfl
theorem entry_init : entryFor table "bytearray.__init__" = some Builtin.«bytearray.__init__» := entryFor_of_tree (by kernel_rfl)
theorem entry_append : entryFor table "bytearray.append" = some Builtin.«bytearray.append» := entryFor_of_tree (by kernel_rfl)
theorem entry_len : entryFor table "bytearray.__len__" = some Builtin.«bytearray.__len__» := entryFor_of_tree (by kernel_rfl)
theorem entry_getitem : entryFor table "bytearray.__getitem__" = some Builtin.«bytearray.__getitem__» := entryFor_of_tree (by kernel_rfl)
theorem entry_blen : entryFor table "bytes.__len__" = some Builtin.«bytes.__len__» := entryFor_of_tree (by kernel_rfl)
theorem entry_bnew : entryFor table "bytes.__new__" = some Builtin.«bytes.__new__» := entryFor_of_tree (by kernel_rfl)
theorem entry_anew : entryFor table "bytearray.__new__" = some Builtin.«list.__new__» :=
  entryFor_alias (id' := "list.__new__") (by rw [fastTable_eq_tree]; kernel_rfl) (by first | rfl | decide +kernel) (by rw [canonicalQ_eq]; decide +kernel) (by rw [fastTable_eq_tree]; kernel_rfl)
theorem owner_ba : Manifest.owners.lookup (String.ofList ['y', 'a', 'r', 'r', 'a', 'e', 't', 'y', 'b'].reverse) = some Manifest.sig_bytearray := (tree_find ownersT_ok _).trans (by kernel_rfl)
theorem owner_b : Manifest.owners.lookup (String.ofList ['s', 'e', 't', 'y', 'b'].reverse) = some Manifest.sig_bytes := (tree_find ownersT_ok _).trans (by kernel_rfl)
theorem args_append (a b : Value) : argsOk "bytearray.append" ⟨[a, b], []⟩ := by
  unfold argsOk; rw [signature?_of (id := "bytearray.append") (n := ['d', 'n', 'e', 'p', 'p', 'a']) (o := ['y', 'a', 'r', 'r', 'a', 'e', 't', 'y', 'b']) (by kernel_rfl) owner_ba]; kernel_rfl
theorem args_init (a b : Value) : argsOk "bytearray.__init__" ⟨[a, b], []⟩ := by
  unfold argsOk; rw [signature?_of (id := "bytearray.__init__") (n := ['_', '_', 't', 'i', 'n', 'i', '_', '_']) (o := ['y', 'a', 'r', 'r', 'a', 'e', 't', 'y', 'b']) (by kernel_rfl) owner_ba]; kernel_rfl
theorem args_len (a : Value) : argsOk "bytearray.__len__" ⟨[a], []⟩ := by
  unfold argsOk; rw [signature?_of (id := "bytearray.__len__") (n := ['_', '_', 'n', 'e', 'l', '_', '_']) (o := ['y', 'a', 'r', 'r', 'a', 'e', 't', 'y', 'b']) (by kernel_rfl) owner_ba]; kernel_rfl
theorem args_blen (a : Value) : argsOk "bytes.__len__" ⟨[a], []⟩ := by
  unfold argsOk; rw [signature?_of (id := "bytes.__len__") (n := ['_', '_', 'n', 'e', 'l', '_', '_']) (o := ['s', 'e', 't', 'y', 'b']) (by kernel_rfl) owner_b]; kernel_rfl
theorem args_getitem (a b : Value) : argsOk "bytearray.__getitem__" ⟨[a, b], []⟩ := by
  unfold argsOk; rw [signature?_of (id := "bytearray.__getitem__") (n := ['_', '_', 'm', 'e', 't', 'i', 't', 'e', 'g', '_', '_']) (o := ['y', 'a', 'r', 'r', 'a', 'e', 't', 'y', 'b']) (by kernel_rfl) owner_ba]; kernel_rfl
theorem getattribute : typeLookup (.type "bytearray") "__getattribute__" = pure (some (.builtin "bytearray.__getattribute__")) := by rw [typeLookup_type, builtinLookup_eq_fast]; kernel_rfl
theorem canon_getattribute : (Manifest.canonical "bytearray.__getattribute__" != "object.__getattribute__") = false := by rw [canonicalQ_eq]; decide +kernel
theorem getattr_none : typeLookup (.type "bytearray") "__getattr__" = pure none := by rw [typeLookup_type, builtinLookup_eq_fast]; kernel_rfl
theorem mro_ba : mroOf (.type "bytearray") = pure [.type "bytearray", .type "object"] := by rw [mroOf_type]; kernel_rfl
theorem lookup_anew : typeLookup (.type "bytearray") "__new__" = pure (some (.builtin "bytearray.__new__")) := by rw [typeLookup_type, builtinLookup_eq_fast]; kernel_rfl
theorem called_ba : TypeCalled "bytearray" "bytearray.__new__" "bytearray.__init__" :=
  ⟨by decide +kernel, by rw [findQ_eq]; decide +kernel, ⟨_, _, mro_ba⟩, PySem.madeBy_type mro_ba lookup_anew (by decide +kernel), by decide +kernel, by rw [isSubtype_type]; kernel_rfl, slot_init⟩
theorem typeCall_ba (a : Value) : checkTypeCall "bytearray" ⟨[a], []⟩ = pure () := by unfold checkTypeCall; rw [signatureQ_eq]; kernel_rfl
theorem newCall_ba (a : Value) : checkBuiltinCall "bytearray.__new__" ⟨[.type "bytearray", a], []⟩ = pure () := by unfold checkBuiltinCall builtinKind; rw [signatureQ_eq, canonicalQ_eq, findQ_eq]; kernel_rfl
theorem plain_anew : plainId "bytearray.__new__" = true := by decide +kernel
theorem mro_b : mroOf (.type "bytes") = pure [.type "bytes", .type "object"] := by rw [mroOf_type]; kernel_rfl
theorem lookup_bnew : typeLookup (.type "bytes") "__new__" = pure (some (.builtin "bytes.__new__")) := by rw [typeLookup_type, builtinLookup_eq_fast]; kernel_rfl
theorem slot_binit : Slot "bytes" "__init__" "object.__init__" :=
  .of (owner := "object") (n := "__init__") (by rw [typeLookup_type, builtinLookup_eq_fast]; kernel_rfl) (by decide +kernel) (by decide +kernel) (by decide +kernel)
    (by first | exact .inl (by rw [findQ_eq]; decide +kernel) | exact .inr (by rw [findQ_eq]; decide +kernel)) (by rw [isSubtype_type]; kernel_rfl)
theorem called_b : TypeCalled "bytes" "bytes.__new__" "object.__init__" :=
  ⟨by decide +kernel, by rw [findQ_eq]; decide +kernel, ⟨_, _, mro_b⟩, PySem.madeBy_type mro_b lookup_bnew (by decide +kernel), by decide +kernel, by rw [isSubtype_type]; kernel_rfl, slot_binit⟩
theorem typeCall_b (a : Value) : checkTypeCall "bytes" ⟨[a], []⟩ = pure () := by unfold checkTypeCall; rw [signatureQ_eq]; kernel_rfl
theorem newCall_b (a : Value) : checkBuiltinCall "bytes.__new__" ⟨[.type "bytes", a], []⟩ = pure () := by unfold checkBuiltinCall builtinKind; rw [signatureQ_eq, canonicalQ_eq, findQ_eq]; kernel_rfl
theorem no_index_b : typeLookup (.type "bytes") "__index__" = pure none := by rw [typeLookup_type, builtinLookup_eq_fast]; kernel_rfl
theorem no_index_ba : typeLookup (.type "bytearray") "__index__" = pure none := by rw [typeLookup_type, builtinLookup_eq_fast]; kernel_rfl
theorem no_bytes_ba : typeLookup (.type "bytearray") "__bytes__" = pure none := by rw [typeLookup_type, builtinLookup_eq_fast]; kernel_rfl
theorem buf_b : typeLookup (.type "bytes") "__buffer__" = pure (some (.builtin "bytes.__buffer__")) := by rw [typeLookup_type, builtinLookup_eq_fast]; kernel_rfl
theorem buf_ba : typeLookup (.type "bytearray") "__buffer__" = pure (some (.builtin "bytearray.__buffer__")) := by rw [typeLookup_type, builtinLookup_eq_fast]; kernel_rfl
theorem rel_b : typeLookup (.type "bytes") "__release_buffer__" = pure none := by rw [typeLookup_type, builtinLookup_eq_fast]; kernel_rfl
theorem rel_ba : typeLookup (.type "bytearray") "__release_buffer__" = pure (some (.builtin "bytearray.__release_buffer__")) := by rw [typeLookup_type, builtinLookup_eq_fast]; kernel_rfl
end BF
set_option linter.deprecated false
set_option maxRecDepth 1000000 in
set_option maxHeartbeats 4000000 in
theorem owner_ba_new : ("bytearray.__new__".splitOn ".__new__").headD "" = "bytearray" := by simp +decide [String.splitOn, String.splitOnAux]
theorem sub_ba_self : isSubtype (.type "bytearray") (.type "bytearray") = pure true := by rw [isSubtype_type]; kernel_rfl

section
variable {prog : Program} {w : World} {A : Around} {E : Value → Shared → Prop} {s : Shared}

theorem code_ba_new (a : Value) {Q₁ : Value → Shared → Prop}
    (h : Q₁ (.ref s.heap.objs.size) { s with heap := s.heap.push { cls := .type "bytearray", data := .bytearray #[] } }) :
    codeAny (model prog w) A (.call (.builtin "bytearray.__new__") ⟨[.type "bytearray", a], []⟩) (wants Q₁ E) s := by
  refine codeAny_of_tree ?_
  show wpAny _ A.in1 (do checkBuiltinCall "bytearray.__new__" ⟨[.type "bytearray", a], []⟩; again (.builtin "bytearray.__new__" ⟨[.type "bytearray", a], []⟩)) _ _ s
  refine wpAny_bind (wpAny_of_eq (BF.newCall_ba a) (wpAny_pure ⟨plainId_quiet BF.plain_anew _, codeAny_builtin_stack BF.entry_anew rfl fun p st => ?_⟩))
  rw [Around.under_plainId BF.plain_anew _]
  have hsub := sub_ba_self
  have hown := owner_ba_new
  obtain ⟨hp, g, d, tk, os⟩ := s
  simp only [hown]
  wp_walk
  exact h

noncomputable def isBA (n : Nat) (o : Obj) : Prop := ∃ b : Array UInt8, o = { cls := .type "bytearray", data := .bytearray b } ∧ b.size = n

theorem ba_ends : ("bytearray.__release_buffer__".endsWith ("." ++ "__release_buffer__")) = true := by decide +kernel
theorem ba_drop : ("bytearray.__release_buffer__".dropRight ("__release_buffer__".length + 1)) = "bytearray" := by decide +kernel
theorem ownRelease_ba {a : Addr} {Q : Bool → Shared → Prop} (hT : s.TypeIs (.ref a) "bytearray") (h : Q false s) : wpAny (model prog w) A (Builtin.Bytes.ownRelease (.ref a)) Q E s := by
  unfold Builtin.Bytes.ownRelease Builtin.Bytes.slotIsOwn
  refine wpAny_bind (wpAny_bind (wpAny_specialOf hT BF.rel_ba ?_))
  dsimp only
  rw [ba_ends, ba_drop, if_neg (by decide)]
  exact wpAny_isInstance hT sub_ba_self (wpAny_pure h)
theorem bufOwn_ba {a : Addr} {Q : Bool → Shared → Prop} (hT : s.TypeIs (.ref a) "bytearray") (h : Q true s) : wpAny (model prog w) A (Builtin.Bytes.slotIsOwn (.ref a) "__buffer__") Q E s := by
  unfold Builtin.Bytes.slotIsOwn
  refine wpAny_bind (wpAny_specialOf hT BF.buf_ba ?_)
  dsimp only
  rw [show ("bytearray.__buffer__".endsWith ("." ++ "__buffer__")) = true from by decide +kernel, show ("bytearray.__buffer__".dropRight ("__buffer__".length + 1)) = "bytearray" from by decide +kernel, if_neg (by decide)]
  exact wpAny_isInstance hT sub_ba_self h
theorem typeIs_bytes {b : Array UInt8} {t : Tok} : s.TypeIs (.bytes b t) "bytes" := rfl
theorem sub_b_self : isSubtype (.type "bytes") (.type "bytes") = pure true := by rw [isSubtype_type]; kernel_rfl
theorem bufOwn_b {b : Array UInt8} {t : Tok} {Q : Bool → Shared → Prop} (h : Q true s) : wpAny (model prog w) A (Builtin.Bytes.slotIsOwn (.bytes b t) "__buffer__") Q E s := by
  unfold Builtin.Bytes.slotIsOwn
  refine wpAny_bind (wpAny_specialOf typeIs_bytes BF.buf_b ?_)
  dsimp only
  rw [show ("bytes.__buffer__".endsWith ("." ++ "__buffer__")) = true from by decide +kernel, show ("bytes.__buffer__".dropRight ("__buffer__".length + 1)) = "bytes" from by decide +kernel, if_neg (by decide)]
  exact wpAny_isInstance typeIs_bytes sub_b_self h
theorem ownRelease_b {b : Array UInt8} {t : Tok} {Q : Bool → Shared → Prop} (h : Q false s) : wpAny (model prog w) A (Builtin.Bytes.ownRelease (.bytes b t)) Q E s := by
  unfold Builtin.Bytes.ownRelease Builtin.Bytes.slotIsOwn
  refine wpAny_bind (wpAny_bind (wpAny_specialOf typeIs_bytes BF.rel_b ?_))
  exact wpAny_pure (wpAny_pure h)
theorem buffer_b {id : String} {b : Array UInt8} {t : Tok} {full : Bool} {Q : Option (Array UInt8) → Shared → Prop} (h : Q (some b) s) : wpAny (model prog w) A (Builtin.Bytes.buffer? id (.bytes b t) full) Q E s := by
  unfold Builtin.Bytes.buffer?
  refine wpAny_bind (wpAny_specialOf typeIs_bytes BF.buf_b ?_)
  dsimp only
  refine wpAny_bind (bufOwn_b ?_)
  rw [if_neg (by decide)]
  refine wpAny_bind (wpAny_specialOf typeIs_bytes BF.buf_b ?_)
  simp only []
  refine wpAny_bind (ownRelease_b ?_)
  rw [if_neg (by decide)]
  exact wpAny_bind (wpAny_pure (wpAny_pure h))
theorem buffer_ba {id : String} {a : Addr} {b : Array UInt8} {full : Bool} {Q : Option (Array UInt8) → Shared → Prop} (ho : s.heap.get? a = some { cls := .type "bytearray", data := .bytearray b }) (h : Q (some b) s) : wpAny (model prog w) A (Builtin.Bytes.buffer? id (.ref a) full) Q E s := by
  have hT : s.TypeIs (.ref a) "bytearray" := ⟨_, ho, rfl⟩
  unfold Builtin.Bytes.buffer?
  refine wpAny_bind (wpAny_specialOf hT BF.buf_ba ?_)
  dsimp only
  refine wpAny_bind (bufOwn_ba hT ?_)
  rw [if_neg (by decide)]
  refine wpAny_bind (wpAny_specialOf hT BF.buf_ba ?_)
  simp only []
  refine wpAny_bind (ownRelease_ba hT ?_)
  rw [if_neg (by decide)]
  exact wpAny_bind (wpAny_bind (wpAny_bind (wpAny_load ho (wpAny_pure (wpAny_pure (wpAny_pure h))))))
theorem write_ba {a : Addr} {b : Array UInt8} {f : Array UInt8 → Array UInt8} {Q : Unit → Shared → Prop} (ho : s.heap.get? a = some { cls := .type "bytearray", data := .bytearray b }) (hf : (f b).size ≤ 100000)
    (h : ∀ h', h'.get? a = some { cls := .type "bytearray", data := .bytearray (f b) } → Heap.SameBut a s.heap h' → Q () { s with heap := h' }) : wpAny (model prog w) A (Builtin.Bytes.write (.ref a) f) Q E s := by
  unfold Builtin.Bytes.write updateBytearray
  refine wpAny_bind (wpAny_load ho ?_)
  dsimp only
  have hg : (s.heap.update a (Obj.mapBytearray f)).get? a = some { cls := .type "bytearray", data := .bytearray (f b) } := Heap.get?_update_self _ ho rfl
  refine wpAny_bind (wpAny_update ho ?_)
  unfold lookBehind
  refine wpAny_bind (wpAny_loadPart hg ?_)
  have hl : Data.pastItsLine (.bytearray (f b)) = none := by
    unfold Data.pastItsLine
    dsimp only
    rw [if_neg (by have : sizeLine ≥ 100000 := by decide
                   omega)]
  rw [hl]
  exact wpAny_pure (h _ hg (Heap.SameBut.update ..))


theorem exportsOf_ba {a : Addr} {m : Array UInt8} {Q : Nat → Shared → Prop} (ho : s.heap.get? a = some { cls := .type "bytearray", data := .bytearray m }) (h : Q 0 s) : wpAny (model prog w) A (Builtin.Bytes.exportsOf (.ref a)) Q E s := by
  unfold Builtin.Bytes.exportsOf
  exact wpAny_bind (wpAny_load ho (wpAny_pure h))
theorem wpC_free {a : Addr} {m : Array UInt8} {Q : Bool → Shared → Prop} (ho : s.heap.get? a = some { cls := .type "bytearray", data := .bytearray m }) (h : Q false s) :
    wpC (model prog w) A (Builtin.Bytes.exported (.ref a) <||> (do return decide ((← Builtin.Bytes.exportsOf (.ref a)) > 0))) Q E s := by
  refine wpC_bind (wpC_exported ?_)
  refine wpC_of_any ?_
  exact wpAny_bind (exportsOf_ba ho (wpAny_pure h))
theorem init_ba {a : Addr} {b : Array UInt8} {t : Tok} {m : Array UInt8} {P : Shared → Prop} (ho : s.heap.get? a = some { cls := .type "bytearray", data := .bytearray m }) (hb : b.size ≤ 1000)
    (h : ∀ h', h'.get? a = some { cls := .type "bytearray", data := .bytearray b } → Heap.SameBut a s.heap h' → P { s with heap := h' }) :
    wpC (model prog w) A (Builtin.«bytearray.__init__» ⟨[.ref a, .bytes b t], []⟩) (fun fin s' => fin = .done (.ret .none) ∧ P s') E s := by
  have hT : s.TypeIs (.ref a) "bytearray" := ⟨_, ho, rfl⟩
  unfold Builtin.«bytearray.__init__»
  dsimp only
  refine wpC_bindA (ownRelease_ba hT ?_)
  refine wpC_ite_false (by decide) ?_
  refine wpC_bindA (wpAny_of_eq (a := [some (.bytes b t), none, none]) rfl ?_)
  dsimp only
  refine wpC_bindA (wpAny_of_eq rfl ?_)
  refine wpC_bindA (wpAny_of_eq rfl ?_)
  refine wpC_bind (wpC_free ho ?_)
  refine wpC_ite_false (by decide) (wpC_of_any ?_)
  refine wpAny_bind (write_ba ho (by simp) fun h₁ ho₁ hs₁ => ?_)
  refine wpAny_bind (wpAny_of_eq (a := none) rfl ?_)
  rw [if_neg (by decide)]
  simp only [Option.isSome_none, Bool.false_eq_true, if_false]
  refine wpAny_bind (wpAny_pure (wpAny_bind (wpAny_specialOf typeIs_bytes BF.no_index_b ?_)))
  simp only [Option.isSome_none, Bool.false_eq_true, if_false]
  refine wpAny_bind (buffer_b ?_)
  simp only []
  refine wpAny_bind (wpAny_rule (wpAny_bind (write_ba ho₁ (by omega) fun h₂ ho₂ hs₂ => ?_)))
  exact wpAny_pure ⟨rfl, h h₂ ho₂ (hs₁.trans hs₂)⟩
theorem byte_ok {i : Int} {t : Tok} {Q : UInt8 → Shared → Prop} (h0 : 0 ≤ i) (h1 : i < 256) (h : ∀ c, Q c s) : wpAny (model prog w) A (Builtin.Bytes.byteValue (.int i t)) Q E s := by
  unfold Builtin.Bytes.byteValue
  refine wpAny_bind (wpAny_of_eq (a := i) rfl ?_)
  rw [if_neg (by simp; omega)]
  exact wpAny_pure (h _)
/-- made.append(x) -/
theorem append_ba {a : Addr} {n : Nat} {i : Int} {t : Tok} {Q : Value → Shared → Prop} (ho : ∃ o, s.heap.get? a = some o ∧ isBA n o) (hn : n ≤ 1000) (h0 : 0 ≤ i) (h1 : i < 256)
    (h : ∀ h', (∃ o, h'.get? a = some o ∧ isBA (n + 1) o) → Heap.SameBut a s.heap h' → Q .none { s with heap := h' }) : wpC (model prog w) A (call (.builtin "bytearray.append") [.ref a, .int i t]) Q E s := by
  obtain ⟨o, ho, b, rfl, hb⟩ := ho
  have hT : s.TypeIs (.ref a) "bytearray" := ⟨_, ho, rfl⟩
  refine wpC_call (codeC_call_builtin (hcl := by decide +kernel) BF.slot_append.plain BF.entry_append (BF.slot_append.check _ _ _ _ _ _ _ _ hT (BF.args_append _ _) ?_))
  unfold Builtin.«bytearray.append»
  refine wpC_bindA (wpAny_of_eq (a := (.ref a, .int i t)) rfl ?_)
  dsimp only
  refine wpC_bindA (byte_ok h0 h1 fun c => ?_)
  unfold Builtin.Bytes.checkResize
  refine wpC_bind (wpC_bind (wpC_free ho ?_))
  refine wpC_ite_false (by decide) (wpC_of_any ?_)
  refine wpAny_pure (wpC_of_any ?_)
  refine wpAny_bind (write_ba ho (by simp; omega) fun h₁ ho₁ hs₁ => ?_)
  exact wpAny_pure (h h₁ ⟨_, ho₁, _, rfl, by simp [hb]⟩ hs₁)
/-- bytearray(b) of bytes -/
theorem call_ba {b : Array UInt8} {t : Tok} {Q : Value → Shared → Prop} (hb : b.size ≤ 1000)
    (h : ∀ h', (∀ c o, s.heap.get? c = some o → h'.get? c = some o) → s.heap.get? s.heap.objs.size = none → (∃ o, h'.get? s.heap.objs.size = some o ∧ isBA b.size o) → Q (.ref s.heap.objs.size) { s with heap := h' }) :
    wpC (model prog w) A (call (.type "bytearray") [.bytes b t]) Q E s := by
  refine callTypeC (Q₁ := fun obj s₁ => obj = .ref s.heap.objs.size ∧ s₁ = { s with heap := s.heap.push { cls := .type "bytearray", data := .bytearray #[] } }) BF.called_ba (BF.typeCall_ba _) BF.entry_init (code_ba_new _ ⟨rfl, rfl⟩) ?_ (by decide +kernel)
  rintro obj s₁ ⟨rfl, rfl⟩
  have ho : (s.heap.push { cls := .type "bytearray", data := .bytearray #[] }).get? s.heap.objs.size = some { cls := .type "bytearray", data := .bytearray #[] } := Heap.get?_push_size _ rfl
  refine ⟨⟨_, ho, rfl⟩, BF.args_init _ _, wpC_mono (init_ba (P := fun s₂ => Q (.ref s.heap.objs.size) s₂) ho hb fun h' ho' hs => ?_) (fun fin s' h' => by obtain ⟨rfl, h'⟩ := h'; exact ⟨rfl, h'⟩) fun _ _ e => e⟩
  refine h h' (fun c o e => ?_) (size_none _) ⟨_, ho', _, rfl, rfl⟩
  exact hs.extBut c o (by rintro rfl; rw [size_none] at e; cases e) (Heap.get?_push_of_some _ e)
end
section
variable {prog : Program} {w : World} {A : Around} {E : Value → Shared → Prop} {s : Shared}

theorem len_ba {a : Addr} {n : Nat} {Q : Value → Shared → Prop} (ho : ∃ o, s.heap.get? a = some o ∧ isBA n o) (hn : n ≤ 1000) (h : ∀ t tk, Q (.int n t) { s with toks := tk }) :
    wpAny (model prog w) A (call (.builtin "len") [.ref a]) Q E s := by
  obtain ⟨o, ho, b, rfl, hb⟩ := ho
  have hT : s.TypeIs (.ref a) "bytearray" := ⟨_, ho, rfl⟩
  refine call_function_entry kind_len plain_len entry_len (args_len1 _) ?_
  unfold Builtin.«len»
  refine wpAny_bind (m := oneArg "len" _) (wpAny_pure ?_)
  refine wpAny_bind (m := callSpecial? (.ref a) (Str.ofString "__len__")) (wpAny_callSpecial?_slot (name := Str.ofString "__len__") hT BF.slot_len
    (wpAny_call_entry BF.slot_len hT BF.entry_len ?_ (BF.args_len _)))
  unfold Builtin.«bytearray.__len__»
  refine wpAny_bind (wpAny_of_eq (a := (.ref a, [])) rfl ?_)
  dsimp only
  unfold Builtin.Bytes.payload Builtin.Bytes.payload?
  refine wpAny_bind (wpAny_bind (wpAny_bind (wpAny_load ho (wpAny_pure (wpAny_pure ?_)))))
  refine wpAny_bind (wpAny_mkInt (wpAny_pure ⟨_, rfl, ?_⟩))
  refine wpAny_bind (wpAny_holding (wpAny_pure ?_))
  refine wpAny_bind (wpAny_letGo ?_)
  rw [if_neg (by omega), if_neg (by rw [hb]; omega)]
  rw [hb]
  exact wpAny_bind (wpAny_mkInt (wpAny_pure ⟨_, rfl, h _ _⟩))
theorem len_b {b : Array UInt8} {t : Tok} {Q : Value → Shared → Prop} (hn : b.size ≤ 1000) (h : ∀ t tk, Q (.int b.size t) { s with toks := tk }) :
    wpAny (model prog w) A (call (.builtin "len") [.bytes b t]) Q E s := by
  have hT : s.TypeIs (.bytes b t) "bytes" := typeIs_bytes
  refine call_function_entry kind_len plain_len entry_len (args_len1 _) ?_
  unfold Builtin.«len»
  refine wpAny_bind (m := oneArg "len" _) (wpAny_pure ?_)
  refine wpAny_bind (m := callSpecial? (.bytes b t) (Str.ofString "__len__")) (wpAny_callSpecial?_slot (name := Str.ofString "__len__") hT BF.slot_blen
    (wpAny_call_entry BF.slot_blen hT BF.entry_blen ?_ (BF.args_blen _)))
  unfold Builtin.«bytes.__len__»
  refine wpAny_bind (wpAny_of_eq (a := (.bytes b t, [])) rfl ?_)
  dsimp only
  unfold Builtin.Bytes.payload Builtin.Bytes.payload?
  refine wpAny_bind (wpAny_bind (wpAny_pure (wpAny_pure ?_)))
  refine wpAny_bind (wpAny_mkInt (wpAny_pure ⟨_, rfl, ?_⟩))
  refine wpAny_bind (wpAny_holding (wpAny_pure ?_))
  refine wpAny_bind (wpAny_letGo ?_)
  rw [if_neg (by omega), if_neg (by omega)]
  exact wpAny_bind (wpAny_mkInt (wpAny_pure ⟨_, rfl, h _ _⟩))

theorem fits_small {i : Int} (h0 : 0 ≤ i) (h1 : i < 100000) : Builtin.Bytes.fitsIndex i = true := by
  unfold Builtin.Bytes.fitsIndex
  simp
  omega
theorem item_ba {a : Addr} {n : Nat} {i : Int} {t : Tok} {Q : Value → Shared → Prop} (ho : ∃ o, s.heap.get? a = some o ∧ isBA n o) (hn : n ≤ 1000) (h0 : 0 ≤ i) (h1 : i < n)
    (h : ∀ (c : UInt8) t tk, Q (.int c.toNat t) { s with toks := tk }) : wpAny (model prog w) A (getItem (.ref a) (.int i t)) Q E s := by
  obtain ⟨o, ho, b, rfl, hb⟩ := ho
  have hT : s.TypeIs (.ref a) "bytearray" := ⟨_, ho, rfl⟩
  unfold getItem
  refine wpAny_holding ?_
  refine wpAny_bind (wpAny_sequenceKey hT (by decide) ?_)
  refine wpAny_bind (wpAny_callSpecial?_slot (name := Str.ofString "__getitem__") hT BF.slot_getitem
    (wpAny_call_entry BF.slot_getitem hT BF.entry_getitem ?_ (BF.args_getitem _ _)))
  unfold Builtin.«bytearray.__getitem__»
  refine wpAny_bind (wpAny_of_eq (a := (.ref a, [.int i t])) rfl ?_)
  dsimp only
  unfold Builtin.Bytes.subscript?
  refine wpAny_bind (wpAny_bind (wpAny_specialOf (T := "int") (typeIs_int s i t) int_index ?_))
  simp only [Option.isNone_some, Bool.false_eq_true, if_false]
  refine wpAny_bind (wpAny_of_eq (a := i) rfl ?_)
  rw [if_neg (by rw [fits_small h0 (by omega)]; decide)]
  refine wpAny_pure ?_
  simp only []
  unfold Builtin.Bytes.payload Builtin.Bytes.payload?
  refine wpAny_bind (wpAny_bind (wpAny_bind (wpAny_load ho (wpAny_pure (wpAny_pure ?_)))))
  have hlt : i.toNat < b.size := by omega
  have e : ((seqIndex? i b.size).bind fun x => b[x]?) = some b[i.toNat] := by
    have hc : ¬ i < 0 := by omega
    have hc2 : i < (b.size : Int) := by omega
    simp [seqIndex?, hc, h0, hc2, hlt]
  rw [e]
  simp only []
  exact wpAny_bind (wpAny_mkInt (wpAny_pure ⟨_, rfl, wpAny_pure (h _ _ _)⟩))

theorem parts_raw {sl : Addr} {k : Int} {t : Tok} {Q : Value × Value × Value → Shared → Prop} (hs : s.heap.IsSliceOf sl (.int k t) .none .none) (h : Q (rawPart (some k), rawPart none, .none) s) :
    wpAny (model prog w) A (Builtin.Bytes.sliceParts (.ref sl)) Q E s := by
  obtain ⟨os, hos, hcs, hds⟩ := hs
  unfold Builtin.Bytes.sliceParts
  refine wpAny_bind (wpAny_field hos hds (x := .none) rfl (wpAny_bind (wpAny_of_eq (a := .none) rfl ?_)))
  rw [if_neg (by decide)]
  refine wpAny_bind (wpAny_field hos hds (x := .int k t) rfl (wpAny_bind ?_))
  dsimp only
  rw [if_neg (show ¬ ((Value.int k t == Value.none) = true) from Bool.false_ne_true)]
  refine wpAny_bind (wpAny_specialOf (T := "int") (typeIs_int s k t) int_index ?_)
  simp only [Option.isNone_some, Bool.false_eq_true, if_false]
  refine wpAny_bind (wpAny_of_eq (a := k) rfl (wpAny_pure ?_))
  refine wpAny_bind (wpAny_field hos hds (x := .none) rfl (wpAny_bind (wpAny_of_eq (a := .none) rfl ?_)))
  exact wpAny_pure h
theorem sliced_size {b : Array UInt8} {k : Nat} (hk : k ≤ b.size) : (Builtin.Bytes.sliced b k b.size 1).size = b.size - k := by
  unfold Builtin.Bytes.sliced
  rw [sliceRange_one, List.size_toArray]
  have : ∀ m j, k + j + m ≤ b.size → (((List.range' j m).map (k + ·)).filterMap (b[·]?)).length = m := by
    intro m
    induction m with
    | zero => intro j _; rfl
    | succ m ih =>
      intro j hj
      rw [List.range'_succ, List.map_cons, List.filterMap_cons]
      have : b[k + j]? = some b[k + j] := by simp
      rw [this]
      simp only [List.length_cons]
      rw [ih (j + 1) (by omega)]
  rw [List.range_eq_range', this _ 0 (by omega)]
theorem slice_ba {a sl : Addr} {n k : Nat} {t : Tok} {Q : Value → Shared → Prop} (ho : ∃ o, s.heap.get? a = some o ∧ isBA n o) (hs : s.heap.IsSliceOf sl (.int k t) .none .none) (hn : n ≤ 1000) (hk : k ≤ n)
    (h : ∀ b : Array UInt8, b.size = n - k → Q (.ref s.heap.objs.size) { s with heap := s.heap.push { cls := .type "bytearray", data := .bytearray b } }) : wpAny (model prog w) A (getItem (.ref a) (.ref sl)) Q E s := by
  obtain ⟨o, ho, b, rfl, hb⟩ := ho
  have hT : s.TypeIs (.ref a) "bytearray" := ⟨_, ho, rfl⟩
  obtain ⟨os, hos, hcs, hds⟩ := id hs
  have hTs : s.TypeIs (.ref sl) "slice" := ⟨os, hos, hcs⟩
  unfold getItem
  refine wpAny_holding ?_
  refine wpAny_bind (wpAny_sequenceKey hT (by decide) ?_)
  refine wpAny_bind (wpAny_callSpecial?_slot (name := Str.ofString "__getitem__") hT BF.slot_getitem
    (wpAny_call_entry BF.slot_getitem hT BF.entry_getitem ?_ (BF.args_getitem _ _)))
  unfold Builtin.«bytearray.__getitem__»
  refine wpAny_bind (wpAny_of_eq (a := (.ref a, [.ref sl])) rfl ?_)
  dsimp only
  unfold Builtin.Bytes.subscript?
  refine wpAny_bind (wpAny_bind (wpAny_specialOf hTs slice_no_index ?_))
  simp only [Option.isNone_none, if_true]
  refine wpAny_pure ?_
  simp only []
  refine wpAny_bind (wpAny_typeOf hTs ?_)
  rw [if_neg (by decide)]
  refine wpAny_bind (parts_raw hs ?_)
  unfold Builtin.Bytes.payload Builtin.Bytes.payload?
  refine wpAny_bind (wpAny_bind (wpAny_bind (wpAny_load ho (wpAny_pure (wpAny_pure ?_)))))
  refine wpAny_bind (wpAny_of_eq (sliceIndices_raw (some (k : Int)) none none b.size (by decide)) ?_)
  have hbd : sliceBounds (some (k : Int)) none none b.size = ((k : Int), (b.size : Int), 1) := by
    have h1 : ¬ (k : Int) < 0 := by omega
    have h2 : max 0 (min (k : Int) (b.size : Int)) = k := by omega
    simp [sliceBounds, h1, h2]
  rw [hbd]
  unfold Builtin.Bytes.newBytearray
  refine wpAny_bind (wpAny_newObj_type ?_ (by show (Builtin.Bytes.sliced b k b.size 1).size ≤ sizeLine; rw [sliced_size (by omega)]; exact Nat.le_trans (by omega : b.size - k ≤ 1000) (by decide)))
  exact wpAny_pure ⟨_, rfl, wpAny_pure (h _ (by rw [sliced_size (by omega), hb]))⟩

theorem call_b {a : Addr} {n : Nat} {Q : Value → Shared → Prop} (ho : ∃ o, s.heap.get? a = some o ∧ isBA n o) (hn : n ≤ 1000) (h : ∀ b t tk, b.size = n → Q (.bytes b t) { s with toks := tk }) :
    wpAny (model prog w) A (call (.type "bytes") [.ref a]) Q E s := by
  obtain ⟨o, ho, b, rfl, hb⟩ := ho
  have hT : s.TypeIs (.ref a) "bytearray" := ⟨_, ho, rfl⟩
  refine callType_codes BF.called_b (BF.typeCall_b _) F.entry_object_init (Q₁ := fun v s₁ => ∃ t tk, v = .bytes b t ∧ s₁ = { s with toks := tk }) ?_ ?_
  · refine codeAny_call_builtin BF.called_b.plain BF.entry_bnew (wpAny_of_eq (BF.newCall_b _) ?_)
    unfold Builtin.«bytes.__new__»
    dsimp only
    refine wpAny_bind (wpAny_of_eq (a := true) rfl ?_)
    rw [if_neg (by decide)]
    refine wpAny_bind (wpAny_of_eq sub_b_self ?_)
    rw [if_neg (by decide)]
    refine wpAny_bind (wpAny_of_eq (a := [some (.ref a), none, none]) rfl ?_)
    dsimp only
    refine wpAny_bind (wpAny_of_eq rfl ?_)
    refine wpAny_bind (wpAny_of_eq rfl ?_)
    rw [if_neg (by decide)]
    refine wpAny_bind (wpAny_specialOf hT BF.no_bytes_ba ?_)
    simp only []
    unfold asStr?
    refine wpAny_bind (wpAny_bind (wpAny_bind (wpAny_load ho (wpAny_pure (wpAny_pure ?_)))))
    rw [if_neg (by simp)]
    refine wpAny_bind (wpAny_specialOf hT BF.no_index_ba ?_)
    simp only [Option.isNone_none, if_true]
    wp_delta
    refine wpAny_bind (buffer_ba ho ?_)
    simp only []
    refine wpAny_bind (wpAny_rule ?_)
    unfold mkBytes
    rw [if_neg (by rw [hb]; exact Nat.not_lt.mpr (Nat.le_trans hn (by decide)))]
    refine wpAny_bind (wpAny_bind (wpAny_fresh (wpAny_pure ?_)))
    wp_delta
    rw [if_pos (by decide)]
    exact wpAny_pure ⟨_, _, rfl, rfl⟩
  · rintro obj s₁ ⟨t, tk, rfl, rfl⟩
    refine ⟨rfl, F.args_object_init_2 _ _, ?_⟩
    have g := object_init_meets (T := "bytes") (newId := "bytes.__new__") (self := .bytes b t) (rest := [.ref a]) BF.slot_binit.lookup BF.called_b.made (by decide)
    exact g prog w _ _ _ ⟨typeIs_bytes, rfl, h b t tk hb⟩
end
section
variable {α β : Type} {M : Model} {A : Around} {E : Value → Shared → Prop} {s : Shared} {env : Env}

theorem C_execs {st : Stmt} {rest : List Stmt} {Q : Flow → Shared → Prop} (h : wpC M A (exec st env) (fun f s' => match f with | .next => wpC M A (execs rest env) Q E s' | f => Q f s') E s) : wpC M A (execs (st :: rest) env) Q E s := by
  intro Γ p hΓ hc
  rw [execs_cons, Sem.wp_bind']
  refine Sem.wp_mono M Γ _ (fun f p' s' h' => ?_) (fun _ _ _ h' => h') _ _ (h Γ p hΓ hc)
  cases f <;> first | exact h' Γ p' hΓ hc | exact h'
/-- a statement of any context, then the rest -/
theorem A_execs {st : Stmt} {rest : List Stmt} {Q : Flow → Shared → Prop} (h : wpAny M A (exec st env) (fun f s' => match f with | .next => wpC M A (execs rest env) Q E s' | f => Q f s') E s) : wpC M A (execs (st :: rest) env) Q E s := C_execs (wpC_of_any h)
theorem C_If {test : Expr} {body orelse : List Stmt} {pos : Pos} {Q : Flow → Shared → Prop}
    (h : wpC M A (isTrue test env (eval test env)) (fun b s₂ => if b then wpC M A (execs body env) Q E s₂ else wpC M A (execs orelse env) Q E s₂) E s) : wpC M A (exec (.If test body orelse pos) env) Q E s := fun Γ p hΓ hc => by
  simp only [exec_If, Sem.wp_bind', Sem.wp_cmd_standAt]
  refine Sem.wp_mono M Γ _ (fun b p₂ s₂ h₂ => ?_) (fun _ _ _ h' => h') _ _ (h Γ _ hΓ hc)
  cases b <;> exact h₂ Γ p₂ hΓ hc
theorem A_If {test : Expr} {body orelse : List Stmt} {pos : Pos} {Q : Flow → Shared → Prop}
    (h : wpAny M A (isTrue test env (eval test env)) (fun b s₂ => if b then wpC M A (execs body env) Q E s₂ else wpC M A (execs orelse env) Q E s₂) E s) : wpC M A (exec (.If test body orelse pos) env) Q E s := C_If (wpC_of_any h)
theorem C_Assign {x : Str} {pos' pos : Pos} {value : Expr} {Q : Flow → Shared → Prop} (h : wpC M A (eval value env) (fun v s₁ => wpAny M A (storeName env x v) (fun _ => Q .next) E s₁) E s)
    (hs : swapsWith value (some (.Name x pos')) pos.line env = pure false := by rfl) : wpC M A (exec (.Assign [.Name x pos'] value pos) env) Q E s := fun Γ p hΓ hc => by
  simp only [exec_Assign_Name env x pos' value pos hs, Sem.wp_bind', Sem.wp_cmd_standAt, Sem.wp_bindName, Sem.wp_pure']
  exact Sem.wp_mono M Γ _ (fun v _ s₁ h₁ => h₁ Γ _ hΓ) (fun _ _ _ h' => h') _ _ (h Γ _ hΓ hc)
theorem C_isTrue_Compare {l r : Expr} {op : CmpOp} {pos : Pos} {whole : Sem Value} {Q : Bool → Shared → Prop}
    (h : wpC M A (eval l env) (fun a s₁ => wpAny M A (eval r env) (fun b s₂ => wpAny M A (compareOp op a b) (fun c s₃ => wpAny M A (truthy c) Q E s₃) E s₂) E s₁) E s)
    (hm : behindInMarks op r = false := by with_unfolding_all rfl) : wpC M A (isTrue (.Compare l [op] [r] pos) env whole) Q E s := fun Γ p hΓ hc => by
  simp only [isTrue_Compare1, markedBehindIn_of_false hm, Sem.wp_bind', Sem.wp_holding, Sem.wp_cmd_standAt, Sem.wp_operate]
  exact Sem.wp_mono M Γ _ (fun a p₁ s₁ h₁ => Sem.wp_mono M Γ _ (fun b _ s₂ h₂ => Sem.wp_mono M Γ _ (fun c p₃ s₃ h₃ => h₃ Γ p₃ hΓ)
    (fun _ _ _ h' => h') _ _ (h₂ Γ _ hΓ)) (fun _ _ _ h' => h') _ _ (h₁ Γ p₁ hΓ)) (fun _ _ _ h' => h') _ _ (h Γ p hΓ hc)
theorem C_isTrue_BoolOp {op : BoolOp} {values : List Expr} {pos : Pos} {whole : Sem Value} {Q : Bool → Shared → Prop} (h : wpC M A (allTrue op values env) Q E s) :
    wpC M A (isTrue (.BoolOp op values pos) env whole) Q E s := by rw [arm_isTrue_BoolOp]; exact h
/-- «x or y»: y in a clean context alone -/
theorem C_Or2 {x y : Expr} {Q : Bool → Shared → Prop} (h : wpAny M A (isTrue x env (eval x env)) (fun b s₁ => if b then Q true s₁ else wpC M A (isTrue y env (eval y env)) Q E s₁) E s) : wpC M A (allTrue .Or [x, y] env) Q E s := by
  have key : allTrue .Or [x, y] env = (isTrue x env (eval x env) >>= fun b => if b then pure true else allTrue .Or [y] env) := by
    show (isTrue x env (eval x env) >>= _) = _
    congr 1
    funext b
    cases b <;> rfl
  have key2 : allTrue .Or [y] env = (isTrue y env (eval y env) >>= fun b => if b then pure true else allTrue .Or [] env) := by
    show (isTrue y env (eval y env) >>= _) = _
    congr 1
    funext b
    cases b <;> rfl
  rw [key]
  refine wpC_bindA (wpAny_mono h (fun b s₁ h₁ => ?_) fun _ _ e => e)
  cases b with
  | true => exact wpC_pure h₁
  | false =>
    rw [if_neg Bool.false_ne_true, key2]
    refine wpC_bind (wpC_mono h₁ (fun b s₂ h₂ => ?_) fun _ _ e => e)
    cases b with
    | true => exact wpC_pure h₂
    | false => exact wpC_pure h₂
theorem C_Call_Name {id : Str} {p pos : Pos} {args : List Expr} {Q : Value → Shared → Prop} (h : wpAny M A (eval (.Name id p) env) (fun f s₁ => wpC M A (callWith pos f [] (backTo pos (starEach args env)) []) Q E s₁) E s) :
    wpC M A (eval (.Call (.Name id p) args [] pos) env) Q E s := by
  show wpC M A (eval (.Name id p) env >>= fun f => callWith pos f [] (backTo pos (starEach args env)) (backToKw pos (keywordEach [] env))) Q E s
  exact wpC_bindA h
theorem C_callWith_function {pos : Pos} {a : Addr} {o : Obj} {fd : FuncData} {first : List Value} {args : List (Bool × Sem Value)} {Q : Value → Shared → Prop}
    (h : wpAny M A (evalArgs (.ref a) true args []) (fun x s₁ => (s₁.heap.get? a = some o ∧ o.data = .func fd) ∧ wpC M A (call (.ref a) (first ++ x.pos) x.kw) Q E s₁) E s) :
    wpC M A (callWith pos (.ref a) first args []) Q E s := by
  unfold callWith
  refine wpC_bindA (wpAny_holding (wpAny_mono h (fun x s₁ h₁ => ?_) fun _ _ x => x))
  refine wpC_bindA (wpAny_standAt ?_)
  have tail : ∀ {t : Sem Value}, wpC M A t Q E s₁ → wpC M A (t >>= fun r => holding [r] point >>= fun _ => pure r) Q E s₁ :=
    fun ht => wpC_bind (wpC_mono ht (fun r s₂ hr => wpC_of_any (wpAny_bind (wpAny_holding (wpAny_point (wpAny_pure hr))))) fun _ _ x => x)
  cases hs : args.any (·.1) <;> simp only [List.any_nil, Bool.or_false] <;>
    refine wpC_bindA (m := keeperOf (.ref a)) ?_ <;> unfold keeperOf <;>
    refine wpAny_bind (wpAny_load h₁.1.1 ?_) <;> rw [h₁.1.2] <;> refine wpAny_pure ?_
  · dsimp only
    by_cases hn : args.length + 2 * ([] : List (Option Str × Sem Value)).length > 30
    · rw [if_pos hn]; exact tail h₁.2
    · rw [if_neg hn]; exact tail (t := callMarked _ _ _ _) (by unfold callMarked; exact wpC_keep h₁.2)
  · exact tail (t := callMarked _ _ _ _) (by unfold callMarked; exact wpC_keep h₁.2)
theorem C_callWith_builtin {pos : Pos} {id : String} {first : List Value} {args : List (Bool × Sem Value)} {Q : Value → Shared → Prop} (hplain : args.any (·.1) = false)
    (h : wpAny M A (evalArgs (.builtin id) true args []) (fun a s₁ => wpC M A (call (.builtin id) (first ++ a.pos) a.kw) Q E s₁) E s) : wpC M A (callWith pos (.builtin id) first args []) Q E s := by
  unfold callWith
  refine wpC_bindA (wpAny_holding (wpAny_mono h (fun a s₁ h₁ => ?_) fun _ _ x => x))
  refine wpC_bindA (wpAny_standAt ?_)
  simp only [hplain, List.any_nil, Bool.or_false]
  refine wpC_bindA (wpAny_pure ?_)
  exact wpC_bind (wpC_mono h₁ (fun r s₂ hr => wpC_of_any (wpAny_bind (wpAny_holding (wpAny_point (wpAny_pure hr))))) fun _ _ x => x)
theorem C_callWith_type {pos : Pos} {T : String} {first : List Value} {args : List (Bool × Sem Value)} {Q : Value → Shared → Prop} (hplain : args.any (·.1) = false)
    (h : wpAny M A (evalArgs (.type T) true args []) (fun a s₁ => wpC M A (call (.type T) (first ++ a.pos) a.kw) Q E s₁) E s) : wpC M A (callWith pos (.type T) first args []) Q E s := by
  unfold callWith
  refine wpC_bindA (wpAny_holding (wpAny_mono h (fun a s₁ h₁ => ?_) fun _ _ x => x))
  refine wpC_bindA (wpAny_standAt ?_)
  simp only [hplain, List.any_nil, Bool.or_false]
  refine wpC_bindA (wpAny_pure ?_)
  exact wpC_bind (wpC_mono h₁ (fun r s₂ hr => wpC_of_any (wpAny_bind (wpAny_holding (wpAny_point (wpAny_pure hr))))) fun _ _ x => x)
end

section
variable {prog : Program} {w : World} {A : Around} {E : Value → Shared → Prop} {R : Result → Shared → Prop} {s : Shared} {env : Env}

theorem C_Expr {e : Expr} {pos : Pos} {Q : Flow → Shared → Prop} (h : wpC (model prog w) A (eval e env) (fun _ => Q .next) E s)
    (hi : interactive env = false := by rfl) (hs : swapsWith e none pos.line env = pure false := by rfl) : wpC (model prog w) A (exec (.Expr e pos) env) Q E s := by
  rw [exec_Expr env e pos hi hs]
  exact wpC_bindA (wpAny_standAt (wpC_bind (wpC_mono h (fun v s' h' => wpC_of_any (wpAny_dropValue h')) fun _ _ x => x)))
theorem C_For {target iter : Expr} {body orelse : List Stmt} {pos : Pos} {Q : Flow → Shared → Prop}
    (h : wpAny (model prog w) A (eval iter env) (fun x s₁ => wpAny (model prog w) A (pyIter x) (fun it s₂ =>
      codeC (model prog w) A (.forLoop target it body orelse env) (fun r s' => match r with | .ok f => Q f s' | .error e => False) s₂) E s₁) E s)
    (hs : ∀ x, foldedSetIterable iter env x = pure x := by intro _; rfl) : wpC (model prog w) A (exec (.For target iter body orelse pos) env) Q E s := by
  rw [exec_For]
  refine wpC_bindA (wpAny_standAt (wpC_bindA (wpAny_mono h (fun x s₁ h₁ => ?_) fun _ _ e => e)))
  refine wpC_bindA (wpAny_of_eq (hs x) (wpC_bindA (wpAny_standAt (wpC_bindA (wpAny_holding (wpAny_mono h₁ (fun it s₂ h₂ => ?_) fun _ _ e => e))))))
  unfold runOwn
  refine wpC_onRaise (wpC_run (hnb := by intro x; cases x) (codeC_mono h₂ fun r s' hr => ?_))
  cases r with
  | ok f => exact hr
  | error e => exact hr.elim
theorem codeC_forLoop {target : Expr} {it : Value} {body : List Stmt} (I : Nat → Shared → Prop)
    (turn : ∀ n s, I n s → wpAny (model prog w) A (pyNext it) (fun r s₁ => match r with
      | none => R (.ok .next) s₁
      | some v => wpAny (model prog w) A (letOwnedTupleGo target it v) (fun _ s₁' =>
          wpAny (model prog w) A (assign target env v) (fun _ s₂ => wpC (model prog w) A (execs body env) (fun f s₃ => match f with
            | .next | .cont => ∃ m, m < n ∧ I m s₃
            | .brk => R (.ok .next) s₃
            | .ret v => R (.ok (.ret v)) s₃) (fun _ _ => False) s₂) (fun _ _ => False) s₁') (fun _ _ => False) s₁) (fun _ _ => False) s)
    (n : Nat) (h : I n s) : codeC (model prog w) A (.forLoop target it body [] env) R s := by
  induction n using Nat.strongRecOn generalizing s with
  | ind n ih =>
    refine codeC_of_tree ?_ rfl
    show wpC _ A ((forTurn target it body [] env).onRaise (fun x => do noteFrame x env; theTreesLotGoes x)) _ _ s
    refine wpC_onRaise (E := fun _ _ => False) ?_ |> fun q => wpC_mono q (fun _ _ h => h) fun _ _ h => h.elim
    refine wpC_mono (E := fun _ _ => False) ?_ (fun _ _ h => h) fun _ _ h => h.elim
    simp only [forTurn]
    refine wpC_bindA (wpAny_standAt (wpC_bindA (wpAny_onRaise (wpAny_mono (turn n s h) (fun r s₁ h₁ => ?_) fun _ _ h' => h'.elim))))
    cases r with
    | none => exact wpC_pure ⟨rfl, codeC_of_any (codeAny_block (wpAny_execs_nil h₁))⟩
    | some v =>
      refine wpC_bindA (wpAny_mono h₁ (fun _ s₁' h₁' => ?_) fun _ _ h' => h')
      refine wpC_bindA (wpAny_mono h₁' (fun _ s₂ h₂ => wpC_bind (wpC_mono h₂ (fun f s₃ h₃ => ?_) fun _ _ h' => h')) fun _ _ h' => h')
      cases f with
      | next => obtain ⟨m, hm, hI⟩ := h₃; exact wpC_pure ⟨rfl, ih m hm hI⟩
      | cont => obtain ⟨m, hm, hI⟩ := h₃; exact wpC_pure ⟨rfl, ih m hm hI⟩
      | brk => exact wpC_pure h₃
      | ret v => exact wpC_pure h₃
theorem codeC_func {body : List Stmt}
    (h : wpC (model prog w) (A.deeper env) (execs body env) (fun f s' => R (.ok (.ret (match f with | .ret v => v | _ => .none))) s') (fun _ _ => False) s) : codeC (model prog w) A (.func body env) R s := by
  refine codeC_of_tree ?_ rfl
  show wpC _ (A.deeper env) (do point; match ← (execs body env).onRaise (leaving env) with | .ret v => ret v | _ => ret .none) _ _ s
  refine wpC_bindA (wpAny_point (wpC_bind (wpC_onRaise (wpC_mono h (fun f s' h' => ?_) fun _ _ h' => h'.elim))))
  cases f <;> exact wpC_pure h'
theorem codeC_call_function {a : Addr} {args : Args} {o : Obj} {fd : FuncData} {body : List Stmt} (hroom : A.depth < recursionLimit) (ho : s.heap.get? a = some o)
    (hd' : o.data = .func fd) (hco : fd.scope.isCoroutine = false) (hgen : fd.scope.isGenerator = false) (hbody : fd.body = .stmts body) (hcd : s.heap.CodeRec fd.code fd.qualname)
    (h : wpAny (model prog w) A.in1 (bindArgs fd args) (fun binds s₁ =>
      wpAny (model prog w) A.in1 (newFunctionEnv fd.scope fd.globals fd.closure binds (fd.qualname ++ ".<locals>.") (some a) fd.code none fd.builtins)
        (fun env s₂ => s₂.heap.NoLimit ∧ codeC (model prog w) A (.func body env) R s₂) (fun _ _ => False) s₁) (fun _ _ => False) s) : codeC (model prog w) A (.call (.ref a) args) R s := by
  refine codeC_of_tree ?_ rfl
  show wpC _ A.in1 (callAny (.ref a) args) _ _ s
  simp only [callAny]
  refine wpC_bindA (wpAny_load ho ?_)
  obtain ⟨c, oc, vs, tq, hc, hoc, hdc, hq⟩ := hcd
  simp only [hd', callFunction, hco, hgen, hbody, hc]
  rw [hc] at h
  refine wpC_bindA (m := field (.ref c) 1) (wpAny_field hoc hdc hq (wpC_bindA (wpAny_pure ?_)))
  refine wpC_bindA (wpAny_mono h (fun binds s₁ h₁ => ?_) fun _ _ h' => h'.elim)
  refine wpC_bindA (wpAny_mono h₁ (fun env s₂ h₂ => ?_) fun _ _ h' => h'.elim)
  exact wpC_bindA (wpAny_enterFrame h₂.1 hroom (wpC_pure ⟨rfl, h₂.2⟩))
theorem codeC_call_def {a : Addr} {o : Obj} {fd : FuncData} {body : List Stmt} {args : Args} {binds : List (Str × Value)}
    (hroom : A.depth < recursionLimit) (ho : s.heap.get? a = some o) (hdata : o.data = .func fd) (hlim : s.heap.NoLimit) (hcd : s.heap.CodeRec fd.code fd.qualname)
    (hbody : fd.body = .stmts body) (hbind : BindsTo s fd args binds)
    (hcell : ∀ x ∈ fd.scope.names, x.2 ≠ .cell) (hloc : ∀ x ∈ binds, fd.scope.names.lookup x.1 = some .local)
    (h : ∀ h₀, h₀.Ns s.heap.objs.size (fun x => binds.reverse.lookup x) → (∀ b o, s.heap.get? b = some o → h₀.get? b = some o) →
      wpC (model prog w) (A.deeper (callEnv fd s.heap.objs.size a)) (execs body (callEnv fd s.heap.objs.size a)) (fun f s' => R (.ok (.ret (match f with | .ret v => v | _ => .none))) s')
        (fun _ _ => False) { s with heap := h₀, toks := s.toks + binds.length })
    (hco : fd.scope.isCoroutine = false := by rfl) (hgen : fd.scope.isGenerator = false := by rfl) (hk : fd.scope.kind = .function := by rfl) :
    codeC (model prog w) A (.call (.ref a) args) R s := by
  refine codeC_call_function hroom ho hdata hco hgen hbody hcd (hbind _ _ _ _ ?_)
  refine wpAny_newFunctionEnv hcell hloc (fun h₀ hns₀ hsb₀ => ⟨hlim.fresh _ hsb₀, codeC_func (h h₀ hns₀ fun b o e => ?_)⟩) hk
  exact hsb₀.extBut b o (Nat.ne_of_lt (Heap.lt_size e)) (Heap.get?_push_of_some _ e)
end
section
variable {prog : Program} {w : World} {A : Around} {s : Shared} {E : Value → Shared → Prop} {Q : Value → Shared → Prop}

theorem enterCl {f : FD} {v dV : Value} {n : Nat} {S : Stab} {vs : List Value} {binds : List (Str × Value)} {G : Vars} (hl : s.heap.NoLimit) (fo : FnOK s.heap v f dV) (rm : Rm A (n + 1)) (hS : SubH S s.heap)
    (hbind : ∀ doc pm an cdv ct, BindsTo s (fnOf f.name f.name f.params f.body f.scope dV .none doc pm an cdv ct) ⟨vs, []⟩ binds)
    (hvars : ∀ L a cd, ∀ x e, G.lookup x = some e → ∃ u, Holds S (envOf f.name f.scope L a cd) (fun y => binds.reverse.lookup y) x u ∧ e.ok S u)
    (h : ∀ L a cd h₁ tk A', Rm A' n → Frm s.heap S S (envOf f.name f.scope L a cd) G [] h₁ →
      wpC (model prog w) A' (execs f.body (envOf f.name f.scope L a cd)) (RetQ Q) (fun _ _ => False) { s with heap := h₁, toks := tk })
    (hcell : ∀ x ∈ f.scope.names, x.2 ≠ .cell := by decide) (hloc : ∀ x ∈ binds, f.scope.names.lookup x.1 = some .local := by exact locs rfl)
    (hco : f.scope.isCoroutine = false := by rfl) (hgen : f.scope.isGenerator = false := by rfl) (hk : f.scope.kind = .function := by rfl) :
    wpC (model prog w) A (call v vs) Q E s := by
  obtain ⟨a, o, doc, pm, an, cdv, ct, rfl, ho, hd, hc⟩ := fo
  refine wpC_call (codeC_call_def (fd := fnOf f.name f.name f.params f.body f.scope dV .none doc pm an cdv ct) (body := f.body) (binds := binds) (by have := rm.dp; omega) ho hd hl hc rfl (hbind doc pm an cdv ct) hcell hloc (fun h₁ hns hk₁ => ?_) hco hgen hk)
  refine wpC_mono (h s.heap.objs.size a cdv h₁ _ _ (rm.deeper _) ?_) (fun f s' q => q) (fun _ _ e => e)
  exact
  { fk := hk, gl := rfl, bl := rfl, base := hk₁, sb := Sb.refl S
    sub := fun b o e => hk₁ b o (hS b o e)
    new := fun b o e => .inl e
    nLB := size_none _
    nLS := by
      cases z : S s.heap.objs.size with
      | none => exact z
      | some o => exact absurd (Heap.lt_size (hS _ _ z)) (Nat.lt_irrefl _)
    mus := fun p hp => nomatch hp
    nd := List.nodup_nil
    vars := ⟨_, hns, hvars _ _ _⟩ }

theorem callEC {B : Heap} {S₀ S : Stab} {env : Env} {G : Vars} {mu : Muts} {mg : Str → Option Value} {x : Str} {p pos : Pos} {e : Expr} {r : List Expr} {fv dV : Value} {f : FD}
    (F : Frm B S₀ S env G mu s.heap) (g : B.Ns mainGlobals mg) (hv : mg x = some fv) (fo : FnOK B fv f dV)
    (h : wpAny (model prog w) A (spliced (plainArgs (e :: r) env)) (fun vs s₁ => Kp B s₁.heap ∧ wpC (model prog w) A (call fv vs) Q E s₁) E s)
    (hx : env.kindOf x = some .globalImplicit := by rfl) (ht : backTo pos (starEach (e :: r) env) = plainArgs (e :: r) env := by rfl)
    (hd : (x == ("__debug__" : Str)) = false := by decide) :
    wpC (model prog w) A (eval (.Call (.Name x p) (e :: r) [] pos) env) Q E s := by
  obtain ⟨a, o, doc, pm, an, cdv, ct, rfl, ho, hdt, hc⟩ := fo
  refine C_Call_Name (Name_function_global F.fk hx (loadGlobal_global (by rw [F.gl]; exact g.keeps F.base) hv ?_) hd)
  rw [ht]
  refine C_callWith_function (evalArgs_plain (wpAny_mono h (fun vs s₁ h₁ => ⟨⟨h₁.1 _ _ ho, hdt⟩, ?_⟩) fun _ _ e => e))
  exact h₁.2
theorem tcallEC {B : Heap} {S₀ S : Stab} {env : Env} {G : Vars} {mu : Muts} {mg mb : Str → Option Value} {x : Str} {p pos : Pos} {e : Expr} {r : List Expr} {T : String}
    (F : Frm B S₀ S env G mu s.heap) (g : B.Ns mainGlobals mg) (b : B.Ns builtinsNs mb) (hm : mg x = none) (hv : mb x = some (.type T))
    (h : wpAny (model prog w) A (spliced (plainArgs (e :: r) env)) (fun vs s₁ => wpC (model prog w) A (call (.type T) vs) Q E s₁) E s)
    (hx : env.kindOf x = some .globalImplicit := by rfl) (ht : backTo pos (starEach (e :: r) env) = plainArgs (e :: r) env := by rfl)
    (hpl : ((plainArgs (e :: r) env).any (·.1)) = false := by rfl)
    (hd : (x == ("__debug__" : Str)) = false := by decide) :
    wpC (model prog w) A (eval (.Call (.Name x p) (e :: r) [] pos) env) Q E s := by
  refine C_Call_Name (Name_function_global F.fk hx (loadGlobal_builtin (by rw [F.gl]; exact g.keeps F.base) hm (by rw [F.bl]; exact b.keeps F.base) hv ?_) hd)
  rw [ht]
  refine C_callWith_type hpl ?_
  exact evalArgs_plain (wpAny_mono h (fun vs s₁ h₁ => h₁) fun _ _ e => e)

theorem getMethod_ba {l : Addr} {o : Obj} {pl : Sem Bool} {Q : Value × List Value → Shared → Prop} (ho : s.heap.get? l = some o) (hc : o.cls = .type "bytearray") (hd : o.dict = none)
    (h : Q (.builtin "bytearray.append", [.ref l]) s) : wpAny (model prog w) A (getMethod (.ref l) "append" pl) Q E s := by
  have hT : s.TypeIs (.ref l) "bytearray" := ⟨o, ho, hc⟩
  unfold getMethod
  refine wpAny_bind (wpAny_specialOf hT BF.getattribute ?_)
  refine wpAny_ite ?_
  rw [show (Manifest.canonical "bytearray.__getattribute__" != "object.__getattribute__") = false from BF.canon_getattribute, if_neg Bool.false_ne_true]
  refine wpAny_bind (wpAny_specialOf hT BF.getattr_none ?_)
  refine wpAny_bind (wpAny_specialOf hT BF.slot_append.lookup ?_)
  refine wpAny_bind (wpAny_of_eq BF.type_append ?_)
  refine wpAny_bind (wpAny_loadPart ho ?_)
  rw [hd]
  exact wpAny_bind (wpAny_rule (wpAny_pure h))

/-- «o.append(elt)» of a bytearray, as a statement -/
theorem appendBC {env : Env} {o elt : Expr} {apos pos epos : Pos} {Q : Flow → Shared → Prop}
    (h : wpAny (model prog w) A (eval o env) (fun ov s₁ => ∃ D ob, ov = .ref D ∧ s₁.heap.get? D = some ob ∧ ob.cls = .type "bytearray" ∧ ob.dict = none ∧
      wpAny (model prog w) A (eval elt env) (fun y s₂ => wpC (model prog w) A (call (.builtin "bytearray.append") [.ref D, y]) (fun _ => Q .next) E s₂) E s₁) E s)
    (hi : interactive env = false := by rfl)
    (hbase : attributeBase o "append" env (eval o env) = eval o env := by rfl)
    (hfew : ((backTo pos (starEach [elt] env)).all (fun x => !x.1) && (backToKw pos (keywordEach [] env)).all (fun x => x.1.isSome)
      && decide (([elt] : List Expr).length + ([] : List Keyword).length + (if ([] : List Keyword).isEmpty then 0 else 1) < 30)) = true := by rfl)
    (hline : (apos.endLine == pos.line) = true := by rfl)
    (htrees : backTo pos (starEach [elt] env) = [(false, eval elt env)] := by rfl) :
    wpC (model prog w) A (exec (.Expr (.Call (.Attribute o "append" apos) [elt] [] pos) epos) env) Q E s := by
  refine C_Expr ?_ hi rfl
  rw [arm_eval_Call, hbase]
  refine wpC_bindA (wpAny_mono h (fun ov s₁ h₁ => ?_) fun _ _ e => e)
  obtain ⟨D, ob, rfl, hob, hc, hd, hcall⟩ := h₁
  refine wpC_bindA (wpAny_standAt ?_)
  have fin : wpC (model prog w) A (callWith pos (.builtin "bytearray.append") [.ref D] (backTo pos (starEach [elt] env)) []) (fun _ => Q .next) E s₁ := by
    rw [htrees]
    exact C_callWith_builtin rfl (Calls.evalArgs_plain (Calls.spliced_cons (wpAny_mono hcall (fun y s₂ h₂ => Calls.spliced_nil h₂) fun _ _ e => e)))
  have hform : methodCallForm (([elt] : List Expr).length + ([] : List Keyword).length) (backTo pos (starEach [elt] env)) (backToKw pos (keywordEach [] env)) = true := hfew
  have hpos : methodCallPos true o env apos pos = pure pos := by unfold methodCallPos; simp [hline]
  unfold methodCall
  rw [hform]
  refine wpC_bindA (wpAny_holding (getMethod_ba hob hc hd ?_))
  exact wpC_bindA (wpAny_of_eq hpos fin)

/-- a for over a source, in clean contexts -/
theorem forSC {B : Heap} {S₀ S : Stab} {env : Env} {G : Vars} {mu : Muts} {R : Result → Shared → Prop} {α : Type} {xs : List α} {enc : α → PyData} {target : Expr} {body : List Stmt} {I : Addr} {P : Nat → Obj → Prop} (hh : A.handled = none) (X : Src prog w S I (xs.map enc) P) (F : Frm B S₀ S env G ((I, P 0) :: mu) s.heap) (J : Nat → Stab → Vars → Muts → Prop) (h0 : J 0 S G mu)
    (turn : ∀ (i : Nat) (a : α) (S' : Stab) (G' : Vars) (mu' : Muts) (p : Addr × (Obj → Prop)) (h : Heap) (tk : Nat) (u : Value), xs[i]? = some a → J i S' G' mu' → Sb S S' → Frm B S₀ S' env G' (mu' ++ [p]) h → Rep S' (enc a) u →
      wpAny (model prog w) A (assign target env u) (fun _ s₂ => wpC (model prog w) A (execs body env) (BodyQ R (LInv J B S₀ S env s p (i + 1))) (fun _ _ => False) s₂) (fun _ _ => False) { s with heap := h, toks := tk })
    (done : ∀ S' G' mu' h tk, J xs.length S' G' mu' → Sb S S' → Frm B S₀ S' env G' mu' h → R (.ok .next) { s with heap := h, toks := tk })
    (ht : tgtOk target = true := by rfl) : codeC (model prog w) A (.forLoop target (.ref I) body [] env) R s := by
  refine codeC_forLoop (fun n s' => ∃ j, n = xs.length - j ∧ j ≤ xs.length ∧ LInv J B S₀ S env s (I, P j) j s') ?_ (xs.length - 0) ⟨0, rfl, Nat.zero_le _, S, G, mu, s.heap, s.toks, rfl, Sb.refl _, h0, F.back⟩
  rintro n s' ⟨j, rfl, hj, S', G', mu', h', tk', rfl, sb, hJ, F'⟩
  rcases Nat.lt_or_ge j xs.length with hlt | hge
  · refine (X.mono sb).item A j (enc xs[j]) _ _ _ (by simp [hlt]) F'.sub F'.front.is fun v h₁ tk₁ hr ho hx => ?_
    obtain ⟨o, ho, hp⟩ := ho
    have F₁ := (F'.front.upd hx ho hp)
    refine X.go A (j + 1) _ _ _ target v ht F₁.is ?_
    refine wpAny_mono (turn j xs[j] S' G' mu' (I, P (j + 1)) h₁ tk₁ v (by simp [hlt]) hJ sb F₁.back hr) (fun _ s₂ h₂ => ?_) fun _ _ e => e
    refine wpC_mono h₂ (fun f s₃ h₃ => ?_) fun _ _ e => e
    have fin : LInv J B S₀ S env s (I, P (j + 1)) (j + 1) s₃ → ∃ m, m < xs.length - j ∧ ∃ j', m = xs.length - j' ∧ j' ≤ xs.length ∧ LInv J B S₀ S env s (I, P j') j' s₃ :=
      fun h => ⟨xs.length - (j + 1), by omega, j + 1, rfl, hlt, h⟩
    cases f with
    | next => exact fin h₃
    | cont => exact fin h₃
    | brk => exact h₃
    | ret z => exact h₃
  · have hj' : j = xs.length := Nat.le_antisymm hj hge
    subst hj'
    refine (X.mono sb).done A _ _ _ hh F'.sub (by simpa using F'.front.is) fun h₁ hx => ?_
    exact done S' G' mu' h₁ tk' hJ sb (F'.front.dropX hx)
theorem forEC {B : Heap} {S₀ S : Stab} {env : Env} {G : Vars} {mu : Muts} {R : Result → Shared → Prop} {α : Type} {xs : List α} {enc : α → PyData} {v : Value} {target : Expr} {body : List Stmt} (hh : A.handled = none) (X : IterOf prog w S v (xs.map enc)) (F : Frm B S₀ S env G mu s.heap) (J : Nat → Stab → Vars → Muts → Prop) (h0 : J 0 S G mu)
    (turn : ∀ (i : Nat) (a : α) (S' : Stab) (G' : Vars) (mu' : Muts) (p : Addr × (Obj → Prop)) (h : Heap) (tk : Nat) (u : Value), xs[i]? = some a → J i S' G' mu' → Sb S S' → Frm B S₀ S' env G' (mu' ++ [p]) h → Rep S' (enc a) u →
      wpAny (model prog w) A (assign target env u) (fun _ s₂ => wpC (model prog w) A (execs body env) (BodyQ R (LInv J B S₀ S env s p (i + 1))) (fun _ _ => False) s₂) (fun _ _ => False) { s with heap := h, toks := tk })
    (done : ∀ S' G' mu' h tk, J xs.length S' G' mu' → Sb S S' → Frm B S₀ S' env G' mu' h → R (.ok .next) { s with heap := h, toks := tk })
    (ht : tgtOk target = true := by rfl) : wpAny (model prog w) A (pyIter v) (fun it s₂ => codeC (model prog w) A (.forLoop target it body [] env) R s₂) E s := by
  refine X A s _ _ F.sub fun I h' P Y k hn ho => ?_
  obtain ⟨o, ho, hp⟩ := ho
  exact forSC hh Y (F.newM k hn ho hp) J h0 turn done ht
end
set_option hygiene false
-- further steps of the walk
local macro_rules | `(tactic| walk_at "tk") => `(tactic| first
  | ((with_reducible show wpAny _ _ (testChain _ _ (_ :: _ :: _) _) _ _ _); refine PyProof.Rows.test_link ?_)
  | (with_reducible first | refine PyProof.Rows.isTrue_chain ?_ | refine PyProof.Rows.Compare_chain ?_ | refine wpAny_Continue ?_ | refine wpAny_Constant_bytes ?_ | refine PyProof.Rows.isTrue_IfExp ?_)
  | ((with_reducible show wpAny _ _ (testChain _ _ [_] _) _ _ _); refine PyProof.Rows.test_last ?_)
  | ((with_reducible show wpAny _ _ (compareChain _ _ (_ :: _ :: _) _) _ _ _); refine PyProof.Rows.chain_link ?_)
  | ((with_reducible show wpAny _ _ (compareChain _ _ [_] _) _ _ _); refine PyProof.Rows.chain_last ?_)
  | ((with_reducible show wpAny _ _ (isTrue (PySem.Expr.Name _ _) _ _) _ _ _); refine wpAny_isTrue_value ?_)
  | ((with_reducible show wpAny _ _ (isTrue (PySem.Expr.Call _ _ _ _) _ _) _ _ _); refine wpAny_isTrue_value ?_))
set_option hygiene true
section
variable {prog : Program} {w : World} {A : Around} {s : Shared} {E : Value → Shared → Prop}
variable {B : Heap} {S₀ S : Stab} {env : Env} {G : Vars} {mu : Muts} {mg mb : Str → Option Value}

theorem ldG {Q : Value → Shared → Prop} {x : Str} {pos : Pos} {v : Value} (F : Frm B S₀ S env G mu s.heap) (g : B.Ns mainGlobals mg) (hv : mg x = some v) (k : Q v s) (hx : env.kindOf x = some .globalImplicit := by rfl) (hd : (x == ("__debug__" : Str)) = false := by decide) :
    wpAny (model prog w) A (eval (.Name x pos) env) Q E s :=
  Name_function_global F.fk hx (loadGlobal_global (by rw [F.gl]; exact g.keeps F.base) hv k) hd
theorem rep_step {x : Step} {u : Value} {h : Heap} (k : SubH S h) (r : Rep S (stepD x) u) : ∃ a t1 t2, u = .ref a ∧ h.IsTuple a [Value.int x.1 t1, .int x.2 t2].toArray := by
  obtain ⟨a, vs, rfl, ht, hr, _⟩ := rep_isTuple k r
  obtain ⟨v1, r1, rfl, h1, hr⟩ := repL_cons.mp hr
  obtain ⟨v2, r2, rfl, h2, hr⟩ := repL_cons.mp hr
  rw [repL_nil] at hr
  subst hr
  obtain ⟨t1, rfl⟩ := rep_int.mp h1
  obtain ⟨t2, rfl⟩ := rep_int.mp h2
  exact ⟨a, t1, t2, rfl, ht⟩
theorem asgStep {Q : Unit → Shared → Prop} {x : Step} {u : Value} {k : Nat} {pos p1 p2 : Pos} (hh : A.handled = none) (F : Frm B S₀ S env G mu s.heap) (r : Rep S (stepD x) u)
    (kk : ∀ h' tk, Frm B S₀ S env (("second", .dat (.int x.2)) :: ("first", .dat (.int x.1)) :: G) mu h' → Q () { s with heap := h', toks := tk })
    (h1 : env.kindOf "first" = some .local := by rfl) (h2 : env.kindOf "second" = some .local := by rfl) :
    wpAny (model prog w) A (assign (.Tuple [.Name "first" p1, .Name "second" p2] k pos) env u) Q E s := by
  obtain ⟨a, t1, t2, rfl, ht⟩ := rep_step F.sub r
  refine asgTup hh ht fun h₁ kp => ?_
  show wpAny _ A (assignInOrder [fun v => assign (.Name "first" p1) env v, fun v => assign (.Name "second" p2) env v] [Value.int x.1 t1, .int x.2 t2]) Q E _
  refine inOrder_cons (wpAny_assign_Name (stI (F.keep kp) (fun h₂ F2 => ?_) h1))
  refine inOrder_cons (wpAny_assign_Name (stI F2 (fun h₃ F3 => ?_) h2))
  exact inOrder_nil (kk h₃ _ F3)
end

section
variable {prog : Program} {w : World} {A : Around} {s : Shared} {E : Value → Shared → Prop} {Q : Value → Shared → Prop}
variable {mg mb : Str → Option Value} {S : Stab}

theorem check_spec {n : Nat} {l : List Step} {v fv : Value} (G : GG mg mb s.heap) (fo : FnOK s.heap fv (fdef 6) .none) (rm : Rm A (n + 1)) (hS : SubH S s.heap) (r : Rep S (stepsD l) v) (hok : StepsOK l)
    (k : ∀ h' tk, Kp s.heap h' → Q .none { s with heap := h', toks := tk }) : wpAny (model prog w) A (call fv [v]) Q E s := by
  refine enter (binds := [("steps", v)]) (G := [("steps", .dat (stepsD l))]) G.lim fo rm hS (fun _ _ _ _ _ => BindsTo.of_eq rfl) (fun L a cd => vars_cons (.inl ⟨rfl, rfl⟩) r vars_nil) ?_
  intro L a cd h₁ tk1 A' E' rm' F
  obtain ⟨tl, hlm⟩ := G.least
  repeat walk_at "tk"
  rename_i v' hv'
  refine forE (xs := l) (enc := stepD) rm'.hh (IterOf.list hv') F (fun _ _ G' mu' => G' = ([("steps", .dat (stepsD l))] : Vars) ∧ mu' = []) ⟨rfl, rfl⟩ ?_ ?_
  · intro i x S' G' mu' p h tk u E'' hx hJ sb F' hu
    obtain ⟨rfl, rfl⟩ := hJ
    obtain ⟨m, hst⟩ := hok.step (List.mem_of_getElem? hx)
    refine asgStep rm'.hh F' hu fun h₂ tk₂ F2 => ?_
    have fin : ∀ tk₂, LInv (fun _ _ G' mu' => G' = ([("steps", .dat (stepsD l))] : Vars) ∧ mu' = []) s.heap S S (envOf (fdef 6).name (fdef 6).scope L a cd) { s with heap := h₁, toks := tk1 } p (i + 1) { s with heap := h₂, toks := tk₂ } :=
      fun tk₂ => ⟨S', _, [], h₂, tk₂, rfl, sb, ⟨rfl, rfl⟩, F2.weak (by walk_at "tk weak")⟩
    rcases hst with ⟨e1, e2, e3⟩ | ⟨e1, e2, e3, e4⟩
    · repeat walk_at "tk"
      refine split_bool (fun hc => ?_) (fun hc => absurd (beq_iff_eq.mpr e1) (by rw [hc]; decide))
      repeat walk_at "tk"
      refine split_bool (fun hc => ?_) (fun hc => absurd (decide_eq_true e2) (by rw [hc]; decide))
      repeat walk_at "tk"
      rw [show decide (x.2 ≤ 255) = true from decide_eq_true e3, show (!true) = false from rfl]
      repeat walk_at "tk"
      refine split_bool (fun hc => absurd e1 (by simpa using hc)) (fun hc => ?_)
      repeat walk_at "tk"
      exact fin _
    · repeat walk_at "tk"
      refine split_bool (fun hc => absurd (beq_iff_eq.mp hc) (by omega)) (fun hc => ?_)
      repeat walk_at "tk"
      refine split_bool (fun hc => ?_) (fun hc => absurd hc (by simp; omega))
      repeat walk_at "tk"
      refine ldG F2 G.g hlm ?_
      repeat walk_at "tk"
      refine split_bool (fun hc => absurd (of_decide_eq_true hc) (by omega)) (fun hc => ?_)
      repeat walk_at "tk"
      exact fin _
  · intro S' G' mu' h tk hJ sb F'
    obtain ⟨rfl, rfl⟩ := hJ
    repeat walk_at "tk"
    rename_i v'' hv''
    refine forE (xs := l) (enc := stepD) rm'.hh (IterOf.list hv'') F' (fun _ _ G' mu' => G' = ([("steps", .dat (stepsD l))] : Vars) ∧ mu' = []) ⟨rfl, rfl⟩ ?_ ?_
    · intro i x S'' G' mu' p h2 tk2 u E'' hx hJ sb2 F2 hu
      obtain ⟨rfl, rfl⟩ := hJ
      obtain ⟨m, hst⟩ := hok.step (List.mem_of_getElem? hx)
      refine asgStep rm'.hh F2 hu fun h₃ tk₃ F3 => ?_
      have fin : ∀ tk₂, LInv (fun _ _ G' mu' => G' = ([("steps", .dat (stepsD l))] : Vars) ∧ mu' = []) s.heap S S' (envOf (fdef 6).name (fdef 6).scope L a cd) { s with heap := h, toks := tk } p (i + 1) { s with heap := h₃, toks := tk₂ } :=
        fun tk₂ => ⟨S'', _, [], h₃, tk₂, rfl, sb2, ⟨rfl, rfl⟩, F3.weak (by walk_at "tk weak")⟩
      rcases hst with ⟨e1, e2, e3⟩ | ⟨e1, e2, e3, e4⟩
      · repeat walk_at "tk"
        refine split_bool (fun hc => absurd e1 (by simpa using hc)) (fun hc => ?_)
        repeat walk_at "tk"
        exact fin _
      · repeat walk_at "tk"
        refine split_bool (fun hc => ?_) (fun hc => absurd hc (by simp; omega))
        repeat walk_at "tk"
        refine split_bool (fun hc => absurd (of_decide_eq_true hc) (by omega)) (fun hc => ?_)
        repeat walk_at "tk"
        exact fin _
    · intro S'' G' mu' h2 tk2 hJ sb2 F2
      obtain ⟨rfl, rfl⟩ := hJ
      repeat walk_at "tk"
      exact k _ _ F2.base
end
section
variable {prog : Program} {w : World} {A : Around} {s : Shared} {E : Value → Shared → Prop} {Q : Value → Shared → Prop}
variable {mg mb : Str → Option Value} {S : Stab}

theorem C_nil {M : Model} {env : Env} {Q : Flow → Shared → Prop} (h : Q .next s) : wpC M A (execs [] env) Q E s := fun _ _ _ _ => h
theorem sizeOf_le9 {l : List Step} (h : StepsOK l) : ∀ i, 0 ≤ sizeOf (l.take i) ∧ sizeOf (l.take i) ≤ 9 * (l.take i).length := by
  intro i
  induction i with
  | zero => simp [sizeOf]
  | succ i ih =>
    cases hx : l[i]? with
    | none =>
      have e : l.take (i + 1) = l.take i := by
        rw [List.take_add_one, hx]; simp
      rw [e]; exact ih
    | some x =>
      obtain ⟨_, h1, h2⟩ := (h i x hx).size
      rw [take_snoc hx, sizeOf_snoc]
      simp only [List.length_append, List.length_singleton]
      push_cast
      omega

theorem unparse_spec {n : Nat} {l : List Step} {v fv : Value} {b : Array UInt8} {t : Tok} {T : Addr} {oT : Obj} {nT : Nat} {tT : Tok} (G : GG mg mb s.heap) (fo : FnOK s.heap fv (fdef 9) (.ref T)) (hoT : s.heap.get? T = some oT) (hdT : oT.data = .seq #[.bytes #[] tT] nT) (rm : Rm A (n + 2)) (hS : SubH S s.heap) (r : Rep S (stepsD l) v) (hok : StepsOK l) (hlen : l.length ≤ 20) (hb : b.size = 3)
    (k : ∀ b' t' h' tk, Kp s.heap h' → ((b' : Array UInt8).size : Int) = sizeOf l → Q (.bytes b' t') { s with heap := h', toks := tk }) : wpC (model prog w) A (call fv [v, .bytes b t]) Q E s := by
  refine enterCl (binds := [("steps", v), ("history", .bytes b t)]) (G := [("steps", .dat (stepsD l)), ("history", .val (.bytes b t))]) G.lim fo rm hS (fun _ _ _ _ _ => BindsTo.of_defaults rfl hoT hdT rfl rfl)
    (fun L a cd => vars_cons (.inl ⟨rfl, rfl⟩) r (vars_cons (.inl ⟨rfl, rfl⟩) rfl vars_nil)) ?_
  intro L a cd h₁ tk1 A' rm' F
  refine A_execs (wpAny_Expr_any ?_)
  obtain ⟨fc, hfc, foc⟩ := G.fn 6 (by decide)
  refine callE F G.g hfc foc ?_
  repeat walk_at "tk"
  rename_i v' hv'
  refine ⟨F.base, check_spec (n := n) (G.keeps F.base) (foc.keeps F.base) rm' F.sub hv' hok fun h₂ tk₂ kp₂ => ?_⟩
  have F2 := F.keep kp₂
  refine C_execs (C_Assign ?_)
  refine tcallEC F2 G.g G.b (G.ng _ (by decide)) G.b_bytearray ?_
  repeat walk_at "tk"
  refine call_ba (by omega) fun h₃ kp₃ hn₃ ho₃ => ?_
  obtain ⟨o₃, ho₃, hp₃⟩ := ho₃
  have F3 := F2.newM kp₃ hn₃ ho₃ hp₃
  generalize ({ heap := h₂, gens := s.gens, drawn := s.drawn, toks := tk₂, os := s.os } : Shared).heap.objs.size = aM at *
  repeat walk_at "tk"
  rename Frm _ _ _ _ _ _ _ => F4
  refine C_execs (C_For ?_)
  repeat walk_at "tk"
  rename_i v₂ hv₂
  refine forEC (xs := l) (enc := stepD) rm'.hh (IterOf.list hv₂) F4 (fun i _ G' mu' => ∃ m : Nat, (m : Int) = 3 + sizeOf (l.take i) ∧ G' = ([("made", .val (.ref aM)), ("steps", .dat (stepsD l)), ("history", .val (.bytes b t))] : Vars) ∧ mu' = [(aM, isBA m)])
    ⟨3, by simp [sizeOf], rfl, by rw [hb]⟩ ?_ ?_
  · intro i x S' G' mu' p h tk u hx hJ sb F' hu
    obtain ⟨m, hm, rfl, rfl⟩ := hJ
    have hst := hok i x hx
    obtain ⟨hs0, hs9⟩ := sizeOf_le9 hok i
    have hl20 : (l.take i).length ≤ 20 := by rw [List.length_take]; omega
    have hm1 : m ≤ 500 := by omega
    refine asgStep rm'.hh F' hu fun h₅ tk₅ F5 => ?_
    have F6 : Frm _ _ _ _ _ ((aM, isBA m) :: [p]) _ := F5
    refine C_execs (A_If ?_)
    repeat walk_at "tk"
    refine split_bool (fun hc => ?_) (fun hc => ?_)
    · have e1 : x.1 = 0 := beq_iff_eq.mp hc
      have h2 : 0 ≤ x.2 ∧ x.2 ≤ 255 := by rcases hst with h | h <;> omega
      refine C_execs (appendBC ?_)
      repeat walk_at "tk"
      obtain ⟨ob, hob, bb, rfl, hbb⟩ := F6.is
      refine ⟨aM, _, rfl, hob, rfl, rfl, ?_⟩
      repeat walk_at "tk"
      refine append_ba F6.is (by omega) h2.1 (by omega) fun h₆ ho₆ hs₆ => ?_
      obtain ⟨o₆, ho₆, hp₆⟩ := ho₆
      have F7 := F6.upd hs₆.extBut ho₆ hp₆
      refine A_execs ?_
      repeat walk_at "tk"
      have hz : sizeOf1 x = 1 := by unfold sizeOf1; rw [if_pos e1]
      exact ⟨S', _, _, h₆, _, rfl, sb, ⟨m + 1, by rw [take_snoc hx, sizeOf_snoc, hz]; push_cast; omega, rfl, rfl⟩, F7.weak (by walk_at "tk weak")⟩
    · have e1 : x.1 ≠ 0 := by simpa using hc
      have h2 : 2 ≤ x.1 ∧ x.1 ≤ 9 ∧ 1 ≤ x.2 ∧ x.2 ≤ 3 + sizeOf (l.take i) := by rcases hst with h | h <;> omega
      refine C_nil ?_
      refine A_execs ?_
      repeat walk_at "tk"
      refine split_bool (fun hc => ?_) (fun hc => absurd (decide_eq_true h2.2.2.1) (by rw [hc]; decide))
      repeat walk_at "tk"
      refine bcallE F6 G.g G.b (G.ng _ (by decide)) G.b_len ?_
      repeat walk_at "tk"
      refine len_ba F6.is (by omega) fun t₇ tk₇ => ?_
      repeat walk_at "tk"
      rw [show decide (x.2 ≤ (m : Int)) = true from decide_eq_true (by omega), show (!true) = false from rfl]
      repeat walk_at "tk"
      refine C_execs (C_For ?_)
      refine tcallE F6 G.g G.b (G.ng _ (by decide)) G.b_range ?_
      repeat walk_at "tk"
      refine rangeE1 F6 (by omega) (by omega) fun rr h₈ tk₈ S8 sb8 kp8 F8 X => ?_
      have F8w : Frm _ _ _ _ ([("second", .dat (.int x.2)), ("made", .val (.ref aM)), ("steps", .dat (stepsD l)), ("history", .val (.bytes b t))] : Vars) _ _ := F8.weak (by walk_at "tk weak")
      refine forEC (xs := List.range x.1.toNat) (enc := fun i : Nat => PyData.int (0 + (i : Int))) rm'.hh X F8w (fun j _ G' mu' => G' = ([("second", .dat (.int x.2)), ("made", .val (.ref aM)), ("steps", .dat (stepsD l)), ("history", .val (.bytes b t))] : Vars) ∧ mu' = [(aM, isBA (m + j)), p])
        ⟨rfl, rfl⟩ ?_ ?_
      · intro j c S9 G' mu' q h₉ tk₉ u₉ hxj hJ sb9 F9 hu9
        obtain ⟨rfl, rfl⟩ := hJ
        have hj : j < x.1.toNat := by
          rcases Nat.lt_or_ge j x.1.toNat with z | z
          · exact z
          · rw [List.getElem?_eq_none (by simpa using z)] at hxj; cases hxj
        obtain ⟨t9, rfl⟩ := rep_int.mp hu9
        repeat walk_at "tk"
        rename Frm _ _ _ _ _ _ _ => F10
        refine C_execs (appendBC ?_)
        repeat walk_at "tk"
        obtain ⟨ob, hob, bb, rfl, hbb⟩ := F10.is
        refine ⟨aM, _, rfl, hob, rfl, rfl, ?_⟩
        repeat walk_at "tk"
        refine bcallE F10 G.g G.b (G.ng _ (by decide)) G.b_len ?_
        repeat walk_at "tk"
        refine len_ba F10.is (by omega) fun t11 tk11 => ?_
        repeat walk_at "tk"
        refine tail_any (T := "bytearray") ⟨_, hob, rfl⟩ BF.slot_getitem.lookup (item_ba F10.is (by omega) (by push_cast; omega) (by push_cast; omega) fun c t12 tk12 => ?_) (by with_unfolding_all rfl)
        refine append_ba F10.is (by omega) (by omega) (by have := c.toNat_lt; omega) fun h₆ ho₆ hs₆ => ?_
        obtain ⟨o₆, ho₆, hp₆⟩ := ho₆
        have F7 := F10.upd hs₆.extBut ho₆ hp₆
        refine C_nil ?_
        exact ⟨S9, _, _, h₆, _, rfl, sb9, ⟨rfl, rfl⟩, F7.weak (by walk_at "tk weak")⟩
      · intro S9 G' mu' h₉ tk₉ hJ sb9 F9
        obtain ⟨rfl, rfl⟩ := hJ
        refine C_nil ?_
        have hz : sizeOf1 x = x.1 := by unfold sizeOf1; rw [if_neg e1]
        exact ⟨S9, _, [(aM, isBA (m + (List.range x.1.toNat).length))], h₉, _, rfl, sb.trans (sb8.trans sb9), ⟨_, by rw [take_snoc hx, sizeOf_snoc, hz, List.length_range]; push_cast; omega, rfl, rfl⟩, F9.weak (by walk_at "tk weak")⟩
  · intro S' G' mu' h tk hJ sb F'
    obtain ⟨m, hm, rfl, rfl⟩ := hJ
    rw [List.take_length] at hm
    obtain ⟨hs0, hs9⟩ := sizeOf_le9 hok l.length
    rw [List.take_length] at hs0 hs9
    refine A_execs ?_
    repeat walk_at "tk"
    refine tcallE F' G.g G.b (G.ng _ (by decide)) G.b_bytes ?_
    repeat walk_at "tk"
    refine bcallE F' G.g G.b (G.ng _ (by decide)) G.b_len ?_
    repeat walk_at "tk"
    refine len_b (by omega) fun t2 tk2 => ?_
    repeat walk_at "tk"
    rw [hb]
    have F8 := F'.keep (kp_push h { cls := .type "slice", data := .fields #[.int (3 : Nat) t2, .none, .none] })
    obtain ⟨ob, hob, bb, rfl, hbb⟩ := F8.is
    refine tail_any (T := "bytearray") ⟨_, hob, rfl⟩ BF.slot_getitem.lookup (slice_ba (k := 3) (n := m) F8.is (Heap.IsSliceOf.new _ _ _ _) (by omega) (by omega) fun b' hb' => ?_) (by first | rfl | with_unfolding_all rfl)
    repeat walk_at "tk"
    refine call_b (n := m - 3) ⟨_, Heap.get?_push_size _ rfl, b', rfl, hb'⟩ (by omega) fun b2 t3 tk3 hb2 => ?_
    refine k b2 t3 _ _ ?_ (by omega)
    exact F8.base.trans (kp_push _ _)
end
/-! the head, over clean contexts: the caller's own stack is clean -/
theorem ends_C {prog : Program} {w : World} {t : Sem Fin} {s : Shared} {R : Result → Shared → Prop} (hreg : s.asleep)
    (h : wpC (model prog w) callerA t (fun fin s' => ∃ f, fin = .done f ∧ (R (.ok f) s' ∧ leftWithCleanup s'.gens = false)) (fun e s' => R (.error e) s' ∧ leftWithCleanup s'.gens = false) s) :
    ∃ n r s' s'', runN (denote table) prog w n s ⟨t, .builtin "claim.caller" {}, default, []⟩ = .halted (outcomeOf r) s' ∧
      schedN (denote table) prog w n (.single s ⟨t, .builtin "claim.caller" {}, default, []⟩) = .halted (outcomeOf r) s' ∧ s'.forget = s''.forget ∧ R r s'' := by
  have hc : Clean ⟨.builtin "claim.caller" {}, none, none, [], none⟩ := ⟨by decide +kernel, fun _ hx => (nomatch hx)⟩
  have h0 := h _ default caller_in hc
  obtain ⟨n, r, s₁, s₂, hs, hn, hfo, hR⟩ := wp_halts_full (M := model prog w) (R := R) hreg (Sem.wp_mono _ _ _ (fun fin p' s' hf => by
    obtain ⟨f, rfl, hf⟩ := hf
    exact hf) (fun _ _ _ e => e) _ _ h0)
  exact ⟨n, r, s₂, s₁, hn, hs, hfo, hR⟩

abbrev WalkC (q : Program) (loose : List Str) (XP : (Str → Option Value) → Heap → Prop) (YP : World → Heap → Prop) (r : PySem.W.RowW) (d : DefRec) (kwd : List (Str × Expr)) : Prop :=
  ∀ (w : World) (s₀ s₁ : Shared) (mg mb : Str → Option Value), PySem.W.Ground q loose r.records XP w s₀ mg mb s₁.heap → YP w s₁.heap → ∀ (a : Addr) (o : Obj) (pm cd doc dV kV : Value), s₁.heap.get? a = some o →
    o.data = .func { docDef d.name d.params d.body d.scope pm cd doc with defaults := dV, kwdefaults := kV } → s₁.heap.CodeRec cd d.name → PySem.W.Dflts mg s₁.heap d.params kwd dV kV → mg d.name = some (.ref a) → s₁.gens = #[] →
    ∀ (args : List WData) (vals : List Value) (as : List Addr), r.claim.pre args = true → WData.layableAll args = true → PySem.W.ReadsAllW r.records (classAt s₀.heap) s₁.heap vals args as → PySem.W.WellAll w.params s₁.heap vals args → (∀ a ∈ as, (a == sysModules) = false) →
      wpC (model r.prog w) callerA (PySem.call (.ref a) vals) (fun v s' => PySem.W.GoodWG r.claim (classAt s₀.heap) (ExcName.means s₀.heap) args s₁ (.ok (.ret v)) s')
        (fun e s' => PySem.W.GoodWG r.claim (classAt s₀.heap) (ExcName.means s₀.heap) args s₁ (.error e) s') s₁

open PySem.W in
/-- the head of an open row, where the call is shown in clean contexts alone -/
theorem PySem.W.holds_open {r : OpenRow} {q : Program} {loose : List Str} {Xt : Shared → Bool} {XP : (Str → Option Value) → Heap → Prop} {α : Type} {Yf : Shared → α} {Ya : World → α} {YP : World → Heap → Prop} {d : DefRec} {kwd : List (Str × Expr)} {N : Nat}
    (left : LeftO r.prog q loose Xt Yf Ya N) (hY : ∀ w s, Yf s = Ya w → YP w s.heap) (hYk : ∀ w h h', YP w h → (∀ b o, h.get? b = some o → h'.get? b = some o) → YP w h')
    (hX : ∀ s, Xt s = true → XP (s.heap.nsMap mainGlobals) s.heap) (hXk : ∀ mg h h', XP mg h → (∀ b o, h.get? b = some o → h'.get? b = some o) → XP mg h')
    (hdef : defOf q r.name = some (d, kwd)) (hp : r.prog.theDef r.name = some (d.params, d.body, d.scope)) (hk : kwWritten? d.params.kwonlyargs d.params.kw_defaults = some kwd) (hRf : ∀ s, Xt s = true → RecFacts r.records s.heap) (hwr : (!r.writes || r.records.isEmpty) = true)
    (k1 : r.wellSaid = true) (ok : (chainsOk q && opensWell r.prog && (frees r.toRowW && r.within.isEmpty)) = true) (hb : r.prog.bare) (hw : r.toRowW.promised)
    (call : WalkC q loose XP YP r.toRowW d kwd) : r.Holds := by
  simp only [Bool.and_eq_true] at ok
  obtain ⟨⟨hch, hop⟩, hfr, hwi⟩ := ok
  obtain ⟨hsame, hu, ha, hap, hm⟩ := frees_parts hfr
  have hwi' : r.toRowW.claim.within = [] := List.isEmpty_iff.mp hwi
  refine ⟨k1, hw, ⟨hb, hop, by show r.makers.map _ = []; rw [hm]; rfl⟩, hw.witness, fun w => ⟨(left.behind hX hch w).1, fun s' hs' => ?_⟩⟩
  obtain ⟨s₀, hf, hg0, s, hT, hz, hgens, hg, GR, hy⟩ := (left.behind (XP := fun mg h => XP mg h ∧ RecFacts r.records h) (fun s hs => ⟨hX s hs, hRf s hs⟩) hch w).2 s' hs'
  have G0 : Ground q loose [] XP w s (s.heap.nsMap mainGlobals) (s.heap.nsMap builtinsNs) s.heap := { GR with X := GR.X.1 }
  have RF := GR.X.2
  have hgens : s.gens = #[] := Array.eq_empty_of_size_eq_zero (beq_iff_eq.mp hgens)
  have G : Ground q loose r.records XP w s _ _ s.heap := RF.ground G0
  refine ⟨s₀, hf, hg0, s, hT, fun n hn => ?_, RF.1, RF.2.1, fun args hpre hlay ord hord => ?_⟩
  · obtain rfl : n = r.name := by split at hn <;> simp_all
    exact pinned_of_view hg G0 hdef hp hk
  obtain ⟨⟨vs, s₁⟩, hlaid⟩ := Option.isSome_iff_exists.mp (layAllW_isSome (P := w.params) (ord := ord) G.has args r.args s (pre_splitW hpre).1)
  have keeps := layAllW_keeps _ _ _ hlaid
  have rest := layAllW_rest _ _ _ hlaid
  obtain ⟨as, hrd, hin, hold⟩ := reads_layAllW hord _ _ _ hlaid hlay s₁.heap (fun _ _ e => e)
  have L : Laid r.records w s s₁ args vs as := ⟨⟨ord, hord, hlaid⟩, hrd, hin, hold, keeps, rest.1.trans hgens, rest.2.2.1⟩
  have G₁ := G.keeps hXk keeps
  obtain ⟨a, o, pm, cd, doc, dV, kV, h1, h2, h3, h4, h5⟩ := G₁.fn hdef
  have hwalk := call w s s₁ _ _ G₁ (hYk _ _ _ (hY w s hy) keeps) a o pm cd doc dV kV h2 h3 h4 h5 (defOf_name hdef ▸ h1) L.gens args vs as hpre hlay L.reads L.well (L.low G.low)
  have hi := ident_freeW hu ha hap
  let fin : Result → Shared → Prop := fun x s' => r.toRowW.claim.Ends s args vs s₁ x s' ∧ s'.os = s.os ∧ (r.writes = true → namesKept r.prog r.keeps s.heap s'.heap ∧ ∀ x ∈ r.records, ∀ a, classAt s.heap x.1 = some a → recordClass s'.heap a x.1 (x.2.map (·.1)) = true)
  have hgood : ∀ x s', GoodWG r.toRowW.claim (classAt s.heap) (ExcName.means s.heap) args s₁ x s' → fin x s' ∧ leftWithCleanup s'.gens = false := fun x s' g => by
    have z := g.laid (c := r.toRowW.claim) hsame hwi' hi L
    exact ⟨⟨z.1, z.2.1, fun q => ⟨namesKept_of hT hg r.keeps keeps g.2.1.old, noTable hwr q⟩⟩, leftWithCleanup_false_of_bare z.2.2⟩
  obtain ⟨k, x, s2, s3, hrun, hsched, hfo, hcase, hos, hkp⟩ := ends_C (prog := r.prog) (w := w) (s := s₁) (R := fin) (Shared.asleep_of_life rest.2.2.2 hz)
    (t := (callStub r.name vs).cur) (wpC_bindA (wpAny_nsGet G₁.T.g (by
      rw [← defOf_name hdef]
      rw [defOf_name hdef, h1]
      exact wpC_bind (wpC_mono hwalk (fun v s' g => wpC_pure ⟨_, rfl, hgood _ _ g⟩) fun e s' g => hgood _ _ g))))
  obtain ⟨eh, _, _, eo, _⟩ := Shared.forget_eq hfo
  have hcase := hcase.congr eh
  rw [← eh] at hkp
  rw [← eo] at hos
  have hlife : s2.heap.life = s.heap.life := (runN_life _ _ _ hrun).trans rest.2.2.2
  refine ⟨vs, s₁, hlaid, k, _, s2, hsched, ?_, (fun _ i x hx => by rw [hgens] at hx; simp at hx), hkp, by rw [hlife], Shared.rest_eq hos⟩
  rcases hcase with ⟨v, rfl, d1, d2, d3, d4, d5⟩ | ⟨e, ob, cls, rfl, d1, d2, d3, d4, d5⟩
  · exact .inl ⟨v, rfl, d1, d2, d3, fun b o y _ => d4 b o y, d5⟩
  · exact .inr ⟨e, ob, cls, rfl, d1, d2, d3, d4, fun b o y _ => d5 b o y⟩
section
variable {prog : Program} {w : World} {A : Around} {s : Shared} {E : Value → Shared → Prop} {Q : Value → Shared → Prop}
variable {B : Heap} {S₀ S : Stab} {env : Env} {G : Vars} {mu : Muts} {mg mb : Str → Option Value}

noncomputable def WInv (J : Nat → Stab → Vars → Muts → Prop) (B : Heap) (S₀ S : Stab) (env : Env) (s : Shared) (n : Nat) (s₃ : Shared) : Prop :=
  ∃ S' G' mu' h' tk', s₃ = { s with heap := h', toks := tk' } ∧ Sb S S' ∧ J n S' G' mu' ∧ Frm B S₀ S' env G' mu' h'
/-- a while -/
theorem whileE {R : Result → Shared → Prop} {test : Expr} {body : List Stmt} (n : Nat) (F : Frm B S₀ S env G mu s.heap) (J : Nat → Stab → Vars → Muts → Prop) (h0 : J n S G mu)
    (turn : ∀ (n : Nat) (S' : Stab) (G' : Vars) (mu' : Muts) (h : Heap) (tk : Nat) (E' : Value → Shared → Prop), J n S' G' mu' → Sb S S' → Frm B S₀ S' env G' mu' h →
      wpAny (model prog w) A (isTrue test env (eval test env)) (fun b s₂ =>
        if b then wpAny (model prog w) A (execs body env) (fun f s₃ => match f with
            | .next | .cont => ∃ m, m < n ∧ WInv J B S₀ S env s m s₃
            | .brk => R (.ok .next) s₃
            | .ret v => R (.ok (.ret v)) s₃) E' s₂
        else R (.ok .next) s₂) E' { s with heap := h, toks := tk }) : codeAny (model prog w) A (.whileLoop test body [] env) R s := by
  refine codeAny_whileLoop (fun n s' => WInv J B S₀ S env s n s') ?_ n ⟨S, G, mu, s.heap, s.toks, rfl, Sb.refl _, h0, F⟩
  rintro n s' ⟨S', G', mu', h', tk', rfl, sb, hJ, F'⟩
  refine wpAny_mono (turn n S' G' mu' h' tk' _ hJ sb F') (fun b s₂ h₂ => ?_) fun _ _ e => e
  cases b with
  | true => exact h₂
  | false => exact wpAny_execs_nil h₂

theorem put_spec {n : Nat} {aR : Addr} {vs : List Value} {x : Step} {b : Array UInt8} {t t1 t2 t3 t4 : Tok} {pl : Int} {fv : Value} {B₀ : Heap} (kB : Kp B₀ s.heap) (nb : B₀.get? aR = none) (GB : GG mg mb B₀) (fo : FnOK B₀ fv (fdef 10) .none) (rm : Rm A (n + 1)) (hS : SubH S s.heap) (hSb : S aR = none)
    (hb : ∃ o, s.heap.get? aR = some o ∧ isL vs o) (hv : vs.length ≤ 1000) (hx : 2 ≤ x.1)
    (k : ∀ h' tk S' u, RetX aR S s.heap h' S' → (∃ o, h'.get? aR = some o ∧ isL (vs ++ [u]) o) → Rep S' (stepD x) u → Q .none { s with heap := h', toks := tk }) :
    wpAny (model prog w) A (call fv [.ref aR, .bytes b t, .int pl t1, .int x.1 t2, .int x.2 t3, .int 2 t4]) Q E s := by
  have hide : Kp B₀ (s.heap.hide aR) := fun c o e => by
    rw [Heap.hide_ne _ (fun q : c = aR => by rw [q, nb] at e; cases e)]; exact kB c o e
  refine enterM (S := S) (B := s.heap.hide aR) (mu := [(aR, isL vs)]) (binds := [("row", .ref aR), ("made", .bytes b t), ("place", .int pl t1), ("size", .int x.1 t2), ("distance", .int x.2 t3), ("shortest", .int 2 t4)])
    (G := [("row", .val (.ref aR)), ("size", .dat (.int x.1)), ("distance", .dat (.int x.2)), ("shortest", .dat (.int 2))]) (GB.lim.keeps kB) (fo.keeps kB) rm hS
    (fun c o e => Heap.of_hide e) (fun p hp => by rw [List.mem_singleton.mp hp]; exact ⟨hb, hSb, Heap.hide_self _ _⟩) (by simp) (fun _ _ _ _ _ => BindsTo.of_eq rfl)
    (fun L a cd => vars_cons (.inl ⟨rfl, rfl⟩) rfl (vars_cons (.inl ⟨rfl, rfl⟩) (repI S _ _) (vars_cons (.inl ⟨rfl, rfl⟩) (repI S _ _) (vars_cons (.inl ⟨rfl, rfl⟩) (repI S _ _) vars_nil)))) ?_
  intro L a cd h₁ tk A' E' rm' F
  repeat walk_at "tk"
  refine split_bool (fun hc => ?_) (fun hc => absurd (of_decide_eq_false hc) (by omega))
  repeat walk_at "tk"
  refine ⟨aR, _, rfl, F.plain (.head _), ?_⟩
  repeat walk_at "tk"
  refine tupE F (RepL.cons (repI _ _ _) (RepL.cons (repI _ _ _) (RepL.nil _))) fun at₂ h₈ S8 sb8 kp8 F8 hr8 => ?_
  refine appM F8 (Nat.le_trans hv (by decide)) fun h₉ F9 => ?_
  repeat walk_at "tk"
  refine k _ _ S8 _ ⟨fun c o hcb e => F9.base c o (by rw [Heap.hide_ne _ hcb]; exact e), F9.sb, F9.sub, ?_⟩ F9.is hr8
  intro c o e
  rcases F9.new c o e with q | q
  · exact .inl q
  · by_cases hcb : c = aR
    · subst hcb
      have := (F9.mus _ (.head _)).2.2.1
      rw [show S8 c = none from this] at e; cases e
    · rw [Heap.hide_ne _ hcb] at q; exact .inr q
end
theorem sizeOf_append (a b : List Step) : sizeOf (a ++ b) = sizeOf a + sizeOf b := by simp [sizeOf]
theorem sizeOf_nil : sizeOf [] = 0 := rfl
theorem sizeOf_flatten (rs : List (List Step)) : (rs.map sizeOf).sum = sizeOf rs.flatten := by
  induction rs with
  | nil => rfl
  | cons r rs ih => simp only [List.map_cons, List.sum_cons, List.flatten_cons, sizeOf_append, ih]
/-- all steps count one at least -/
noncomputable def Pos1 (l : List Step) : Prop := ∀ x ∈ l, 1 ≤ sizeOf1 x
theorem StepsOK.pos1 {l : List Step} (h : StepsOK l) : Pos1 l := fun x hx => by
  obtain ⟨m, hm⟩ := h.step hx
  exact hm.size.2.1
theorem Pos1.nonneg {l : List Step} (h : Pos1 l) : 0 ≤ sizeOf l ∧ (l.length : Int) ≤ sizeOf l := by
  induction l with
  | nil => exact ⟨Int.le_refl 0, Int.le_refl 0⟩
  | cons x l ih =>
    have h1 := h x (.head _)
    have h2 := ih fun y hy => h y (.tail _ hy)
    have e : sizeOf (x :: l) = sizeOf1 x + sizeOf l := by simp [sizeOf]
    rw [e, List.length_cons]
    push_cast
    omega
theorem Pos1.take_lt {l : List Step} (h : Pos1 l) {j : Nat} {x : Step} (hx : l[j]? = some x) : sizeOf (l.take j) + sizeOf1 x ≤ sizeOf l ∧ 1 ≤ sizeOf1 x := by
  have hj : j < l.length := by
    rcases Nat.lt_or_ge j l.length with z | z
    · exact z
    · rw [List.getElem?_eq_none z] at hx; cases hx
  have e : l = l.take j ++ (x :: l.drop (j + 1)) := by
    rw [List.getElem?_eq_getElem hj] at hx
    cases hx
    simp
  have h2 : 0 ≤ sizeOf (l.drop (j + 1)) := (Pos1.nonneg fun y hy => h y (List.mem_of_mem_drop hy)).1
  have h3 : sizeOf (x :: l.drop (j + 1)) = sizeOf1 x + sizeOf (l.drop (j + 1)) := by simp [sizeOf]
  have h4 : sizeOf l = sizeOf (l.take j) + sizeOf (x :: l.drop (j + 1)) := by
    conv => lhs; rw [e]
    rw [sizeOf_append]
  exact ⟨by omega, h x (List.mem_of_getElem? hx)⟩
theorem flat_get {rs : List (List Step)} {i j : Nat} {row : List Step} {x : Step} (hr : rs[i]? = some row) (hx : row[j]? = some x) : rs.flatten[(rs.take i).flatten.length + j]? = some x := by
  induction rs generalizing i with
  | nil => simp at hr
  | cons r rs ih =>
    cases i with
    | zero =>
      simp at hr
      subst hr
      have hj : j < r.length := by
        rcases Nat.lt_or_ge j r.length with z | z
        · exact z
        · rw [List.getElem?_eq_none z] at hx; cases hx
      simp only [List.take_zero, List.flatten_nil, List.length_nil, Nat.zero_add, List.flatten_cons]
      rw [List.getElem?_append_left hj]; exact hx
    | succ i =>
      simp at hr
      simp only [List.take_succ_cons, List.flatten_cons, List.length_append]
      rw [Nat.add_assoc, List.getElem?_append_right (by omega)]
      rw [show r.length + ((rs.take i).flatten.length + j) - r.length = (rs.take i).flatten.length + j by omega]
      exact ih hr
theorem flat_snoc {rs : List (List Step)} {i : Nat} {row : List Step} (hr : rs[i]? = some row) : (rs.take (i + 1)).flatten = (rs.take i).flatten ++ row := by
  rw [take_snoc hr, List.flatten_append]; simp

section
variable {prog : Program} {w : World} {A : Around} {s : Shared} {E : Value → Shared → Prop} {Q : Value → Shared → Prop}
variable {mg mb : Str → Option Value} {S : Stab}

noncomputable def cutG (aRows aRow : Addr) (place taken en : Int) (l : List Step) (b : Array UInt8) (t : Tok) : Vars :=
  [("rows", .val (.ref aRows)), ("place", .dat (.int place)), ("taken", .dat (.int taken)), ("left", .dat (.int 0)), ("end", .dat (.int en)), ("row", .val (.ref aRow)), ("steps", .dat (stepsD l)), ("made", .val (.bytes b t)), ("shortest", .dat (.int 2))]
noncomputable def CutJ (aRows aRow : Addr) (P : Int) (tk0 : Nat) (row l : List Step) (b : Array UInt8) (t : Tok) (rsv : List Value) (p : Addr × (Obj → Prop)) (m : Nat) (S1 : Stab) (G1 : Vars) (mu1 : Muts) : Prop :=
  ∃ j vs, m = row.length - j ∧ j ≤ row.length ∧ G1 = cutG aRows aRow (P + sizeOf (row.take j)) ((tk0 : Int) + j) (P + sizeOf row) l b t ∧ mu1 = [(aRow, isL vs), (aRows, isL rsv), p] ∧ RepL S1 ((row.take j).map stepD) vs
set_option maxHeartbeats 4000000 in
theorem cut_spec {n : Nat} {l : List Step} {rs : List (List Step)} {v u fv : Value} {b : Array UInt8} {t : Tok} {T : Addr} {oT : Obj} {nT : Nat} {tT tT' : Tok} (G : GG mg mb s.heap) (fo : FnOK s.heap fv (fdef 11) (.ref T)) (hoT : s.heap.get? T = some oT) (hdT : oT.data = .seq #[.bytes #[] tT, .int 2 tT'] nT)
    (rm : Rm A (n + 4)) (hS : SubH S s.heap) (r : Rep S (stepsD l) v) (r2 : Rep S (intsD (rs.map sizeOf)) u) (hok : StepsOK l) (hlen : l.length ≤ 20) (hrl : rs.length ≤ 20) (hrs : rs.flatten = l) (hb : b.size = 3)
    (k : ∀ v' h' tk S', Ret S s.heap h' S' → Rep S' (rowsD rs) v' → Q v' { s with heap := h', toks := tk }) : wpC (model prog w) A (call fv [v, u, .bytes b t]) Q E s := by
  refine enterCl (binds := [("steps", v), ("sizes", u), ("history", .bytes b t), ("shortest", .int 2 tT')]) (G := [("steps", .dat (stepsD l)), ("sizes", .dat (intsD (rs.map sizeOf))), ("history", .val (.bytes b t)), ("shortest", .dat (.int 2))]) G.lim fo rm hS (fun _ _ _ _ _ => BindsTo.of_defaults rfl hoT hdT rfl rfl)
    (fun L a cd => vars_cons (.inl ⟨rfl, rfl⟩) r (vars_cons (.inl ⟨rfl, rfl⟩) r2 (vars_cons (.inl ⟨rfl, rfl⟩) rfl (vars_cons (.inl ⟨rfl, rfl⟩) (repI S _ _) vars_nil)))) ?_
  intro L a cd h₁ tk1 A' rm' F
  obtain ⟨tl, hlm⟩ := G.least
  refine A_execs ?_
  repeat walk_at "tk"
  refine ldG F G.g hlm ?_
  repeat walk_at "tk"
  rw [show decide ((2 : Int) < 2) = false from rfl]
  repeat walk_at "tk"
  obtain ⟨f9, T9, o9, n9, t9, hf9, fo9, hT9, hd9⟩ := G.fn9
  refine C_execs (C_Assign ?_)
  refine callEC F G.g hf9 fo9 ?_
  repeat walk_at "tk"
  rename_i v' hv'
  refine ⟨F.base, unparse_spec (n := n + 1) (G.keeps F.base) (fo9.keeps F.base) (F.base _ _ hT9) hd9 rm' F.sub hv' hok hlen hb fun b' t' h₂ tk₂ kp₂ hb' => ?_⟩
  have F2 := F.keep kp₂
  obtain ⟨hn0, hn1⟩ := hok.pos1.nonneg
  have hs9 := (sizeOf_le9 hok l.length).2
  rw [List.take_length] at hs9
  repeat walk_at "tk"
  rename Frm _ _ _ _ _ _ _ => F3
  refine A_execs ?_
  repeat walk_at "tk"
  refine bcallE F3 G.g G.b (G.ng _ (by decide)) G.b_sum ?_
  repeat walk_at "tk"
  rename_i u' hu'
  refine sumE rm'.hh F3.sub hu' fun t₄ h₄ tk₄ kp₄ => ?_
  have F4 := F3.keep kp₄
  repeat walk_at "tk"
  refine bcallE F4 G.g G.b (G.ng _ (by decide)) G.b_len ?_
  repeat walk_at "tk"
  refine len_b (by omega) fun t₅ tk₅ => ?_
  repeat walk_at "tk"
  rw [sizeOf_flatten, hrs, hb', show (sizeOf l != sizeOf l) = false from by simp]
  repeat walk_at "tk"
  refine compA (cl := []) (by with_unfolding_all rfl) ?_
  walk_at "tk"
  rename_i u₂ hu₂
  have hszs : ∀ y ∈ rs.map sizeOf, ¬ y < 0 := fun y hy => by
    obtain ⟨row, hrow, rfl⟩ := List.mem_map.mp hy
    have := (Pos1.nonneg (l := row) fun x hx => hok.pos1 x (by rw [← hrs]; exact List.mem_flatten.mpr ⟨row, hrow, hx⟩)).1
    omega
  refine compB (xs := rs.map sizeOf) (enc := .int) (fun i => decide (i < 0)) .int [] rm'.hh F4 (IterOf.list hu₂) (by rw [List.length_map]; exact Nat.le_trans hrl (by decide)) cap_nil ?_ ?_
  · intro C i x S' mu' h tk E'' hx sb F'
    refine test1 ?_
    repeat walk_at "tk"
    have hxn := hszs x (List.mem_of_getElem? hx)
    rw [show decide (x < 0) = false from decide_eq_false hxn]
    refine ifF ⟨rfl, ?_⟩
    exact ⟨_, _, S', rfl, Sb.refl _, F'⟩
  · intro u₃ h₅ tk₅ S5 sb5 kp5 F5 hr5
    rw [show (rs.map sizeOf).filter (fun i => decide (i < 0)) = [] from by rw [List.filter_eq_nil_iff]; intro y hy; simpa using hszs y hy] at hr5
    repeat walk_at "tk"
    refine listE F5 (ds := []) (RepL.nil _) fun a₆ h₆ S6 sb6 kp6 F6 hr6 => ?_
    refine neE (x := ([] : List Int)) (y := []) cmp_ints rm' (by decide) F6.sub (hr5.mono sb6) hr6 ?_
    rw [show (!decide (([] : List Int) = [])) = false from rfl]
    repeat walk_at "tk"
    refine wpC_of_any ?_
    walk_at "tk"
    refine asgSwap rm'.hh ?_ rfl
    repeat walk_at "tk"
    refine listM F6 fun aRows h₇ F7 => ?_
    repeat walk_at "tk"
    refine tupTmp F7 fun at₁ h₈ kp F8 ht => ⟨at₁, _, rfl, ht, rfl, fun h₉ kp9 => ?_⟩
    have F9 := F8.keep kp9
    dsimp only [List.reverse, List.reverseAux, List.map]
    repeat walk_at "tk"
    rename Frm _ _ _ _ _ _ _ => F10
    refine Assign_Tuple ?_
    repeat walk_at "tk"
    refine tupTmp F10 fun at₂ h₁₁ kp11 F11 ht2 => ?_
    refine asgTup rm'.hh ht2 fun h₁₂ kp12 => ?_
    have F12 := F11.keep kp12
    repeat walk_at "tk"
    rename Frm _ _ _ _ _ _ _ => F13
    rename_i u₄ hu₄
    have F14 : Frm _ _ _ _ ([("rows", .val (.ref aRows)), ("place", .dat (.int 0)), ("taken", .dat (.int 0)), ("left", .dat (.int 0)), ("steps", .dat (stepsD l)), ("made", .val (.bytes b' t')), ("shortest", .dat (.int 2))] : Vars) _ _ := F13.weak (by walk_at "tk weak")
    have hu₅ : Rep S6 (.list (rs.map fun row => PyData.int (sizeOf row))) u₄ := by
      have := hu₄
      unfold intsD at this
      rwa [List.map_map] at this
    refine forE (xs := rs) (enc := fun row => PyData.int (sizeOf row)) rm'.hh (IterOf.list hu₅) F14 (fun i S' G' mu' => ∃ rsv, G' = ([("rows", .val (.ref aRows)), ("place", .dat (.int (sizeOf (rs.take i).flatten))), ("taken", .dat (.int (rs.take i).flatten.length)), ("left", .dat (.int 0)), ("steps", .dat (stepsD l)), ("made", .val (.bytes b' t')), ("shortest", .dat (.int 2))] : Vars) ∧
        mu' = [(aRows, isL rsv)] ∧ RepL S' ((rs.take i).map stepsD) rsv) ⟨[], rfl, rfl, RepL.nil _⟩ ?_ ?_
    · intro i row S' G' mu' p h tk u E'' hx hJ sb F' hu
      obtain ⟨rsv, rfl, rfl, hrsv⟩ := hJ
      obtain ⟨tu, rfl⟩ := rep_int.mp hu
      have hpos : Pos1 row := fun x hxr => hok.pos1 x (by rw [← hrs]; exact List.mem_flatten.mpr ⟨row, List.mem_of_getElem? hx, hxr⟩)
      generalize hP : sizeOf (rs.take i).flatten = P at *
      generalize hTk : (rs.take i).flatten.length = tk0 at *
      repeat walk_at "tk"
      refine asgSwap rm'.hh ?_ rfl
      repeat walk_at "tk"
      rename Frm _ _ _ _ _ _ _ => F15
      refine listM F15 fun aRow h₁₆ F16 => ?_
      repeat walk_at "tk"
      refine tupTmp F16 fun at₃ h₁₇ kp17 F17 ht3 => ⟨at₃, _, rfl, ht3, rfl, fun h₁₈ kp18 => ?_⟩
      have F18 := F17.keep kp18
      dsimp only [List.reverse, List.reverseAux, List.map]
      repeat walk_at "tk"
      rename Frm _ _ _ _ _ _ _ => F19
      have F20 : Frm _ _ _ _ (cutG aRows aRow P tk0 (P + sizeOf row) l b' t') _ _ := F19.weak (by walk_at "tk weak")
      refine wpAny_While ?_
      refine whileE row.length F20 (CutJ aRows aRow P tk0 row l b' t' rsv p) ⟨0, [], rfl, Nat.zero_le _, by simp [sizeOf], rfl, RepL.nil _⟩ ?_
      rintro m S1 G1 mu1 h1 tk1 E1 ⟨j, vs, rfl, hj, rfl, rfl, hvs⟩ sb1 F1
      have F1 : Frm _ _ _ _ ([("rows", .val (.ref aRows)), ("place", .dat (.int (P + sizeOf (row.take j)))), ("taken", .dat (.int ((tk0 : Int) + j))), ("left", .dat (.int 0)), ("end", .dat (.int (P + sizeOf row))), ("row", .val (.ref aRow)), ("steps", .dat (stepsD l)), ("made", .val (.bytes b' t')), ("shortest", .dat (.int 2))] : Vars) _ _ := F1
      repeat walk_at "tk"
      refine split_bool (fun hc => ?_) (fun hc => ?_)
      · have hlt : sizeOf (row.take j) < sizeOf row := by have := of_decide_eq_true hc; omega
        have hjl : j < row.length := by
          rcases Nat.lt_or_ge j row.length with z | z
          · exact z
          · rw [List.take_of_length_le z] at hlt; omega
        obtain ⟨x, hxj⟩ : ∃ x, row[j]? = some x := ⟨row[j], by simp [hjl]⟩
        obtain ⟨hsz, hsz1⟩ := hpos.take_lt hxj
        have hlx : l[tk0 + j]? = some x := by rw [← hTk, ← hrs]; exact flat_get hx hxj
        obtain ⟨mm, hst⟩ := hok.step (List.mem_of_getElem? hlx)
        have hlj : tk0 + j < l.length := by
          rcases Nat.lt_or_ge (tk0 + j) l.length with z | z
          · exact z
          · rw [List.getElem?_eq_none z] at hlx; cases hlx
        have hvl : vs.length ≤ 20 := by
          have := hvs.length
          rw [List.length_map, List.length_take] at this
          have h5 : row.length ≤ l.length := by
            rw [← hrs]; exact (List.sublist_flatten_of_mem (List.mem_of_getElem? hx)).length_le
          omega
        have hnext : ∀ (s0 : Shared) h' tk' S2 u2, Sb S1 S2 → Rep S2 (stepD x) u2 → Frm s.heap S S2 (envOf (fdef 11).name (fdef 11).scope L a cd) (cutG aRows aRow (P + sizeOf (row.take j) + sizeOf1 x) ((tk0 : Int) + j + 1) (P + sizeOf row) l b' t') [(aRow, isL (vs ++ [u2])), (aRows, isL rsv), p] h' →
            ∃ m', m' < row.length - j ∧ WInv (CutJ aRows aRow P tk0 row l b' t' rsv p) s.heap S S' (envOf (fdef 11).name (fdef 11).scope L a cd) s0 m' { s0 with heap := h', toks := tk' } := fun s0 h' tk' S2 u2 sb2 hu2 F2 =>
          ⟨row.length - (j + 1), by omega, S2, _, _, h', tk', rfl, sb1.trans sb2, ⟨j + 1, vs ++ [u2], rfl, hjl, by rw [take_snoc hxj, sizeOf_snoc]; simp only [cutG]; push_cast; rw [Int.add_assoc, Int.add_assoc], rfl, by rw [take_snoc hxj]; simpa using (hvs.mono sb2).snoc hu2⟩, F2⟩
        repeat walk_at "tk"
        rw [show ((0 : Int) == 0) = true from rfl]
        repeat walk_at "tk"
        refine Assign_Tuple ?_
        repeat walk_at "tk"
        rename_i u₆ hu₆ _
        refine listItem F1 hu₆ (by omega) (by omega) (d := stepD x) (by rw [show ((tk0 : Int) + j).toNat = tk0 + j by omega, List.getElem?_map, hlx]; rfl) fun u₇ hu₇ => ?_
        refine asgStep rm'.hh F1 hu₇ fun h₂₁ tk₂₁ F21 => ?_
        repeat walk_at "tk"
        rename Frm _ _ _ _ _ _ _ => F22
        rcases hst with ⟨e1, e2, e3⟩ | ⟨e1, e2, e3, e4⟩
        · refine split_bool (fun hc => ?_) (fun hc => absurd e1 (by simpa using hc))
          repeat walk_at "tk"
          refine ⟨aRow, _, rfl, F22.plain (.head _), ?_⟩
          repeat walk_at "tk"
          refine tupE F22 (RepL.cons (repI _ _ _) (RepL.cons (repI _ _ _) (RepL.nil _))) fun at₄ h₂₃ S23 sb23 kp23 F23 hr23 => ?_
          refine appM F23 (Nat.le_trans hvl (by decide)) fun h₂₄ F24 => ?_
          repeat walk_at "tk"
          rename Frm _ _ _ _ _ _ _ => F25
          have hxe : x = (0, x.2) := Prod.ext e1 rfl
          refine hnext _ _ _ S23 _ sb23 (by rw [hxe]; exact hr23) (F25.weak ?_)
          rw [show sizeOf1 x = 1 by unfold sizeOf1; rw [if_pos e1]]
          walk_at "tk weak"
        · refine split_bool (fun hc => absurd (beq_iff_eq.mp hc) (by omega)) (fun hc => ?_)
          repeat walk_at "tk"
          refine asgSwap rm'.hh ?_ rfl
          repeat walk_at "tk"
          refine tupTmp F22 fun at₄ h₂₃ kp23 F23 ht4 => ⟨at₄, _, rfl, ht4, rfl, fun h₂₄ kp24 => ?_⟩
          have F24 := F23.keep kp24
          dsimp only [List.reverse, List.reverseAux, List.map]
          repeat walk_at "tk"
          rename Frm _ _ _ _ _ _ _ => F25
          refine bcallE F25 G.g G.b (G.ng _ (by decide)) G.b_min ?_
          repeat walk_at "tk"
          refine minE rm'.hh fun h₂₆ tk₂₆ t₂₆ kp₂₆ => ?_
          have F26 := F25.keep kp₂₆
          have hz : sizeOf1 x = x.1 := by unfold sizeOf1; rw [if_neg (by omega)]
          rw [show min x.1 (P + sizeOf row - (P + sizeOf (row.take j))) = x.1 by omega]
          repeat walk_at "tk"
          rename Frm _ _ _ _ _ _ _ => F27
          refine wpAny_Expr_any ?_
          obtain ⟨fp, hfp, fop⟩ := G.fn 10 (by decide)
          refine callE F27 G.g hfp fop ?_
          repeat walk_at "tk"
          obtain ⟨_, hnL, hnS, hnB⟩ := F27.mus _ (.head _)
          refine ⟨F27.base, put_spec (n := n + 2) F27.base hnB G fop rm' F27.sub hnS F27.is (by omega) e1 fun h₂₈ tk₂₈ S28 u28 hrx ho28 hr28 => ?_⟩
          have F28 := F27.retX hrx.keep ho28 hrx.sb hrx.sub hrx.new
          repeat walk_at "tk"
          refine asgSwap rm'.hh ?_ rfl
          repeat walk_at "tk"
          refine tupTmp F28 fun at₅ h₂₉ kp29 F29 ht5 => ⟨at₅, _, rfl, ht5, rfl, fun h₃₀ kp30 => ?_⟩
          have F30 := F29.keep kp30
          dsimp only [List.reverse, List.reverseAux, List.map]
          repeat walk_at "tk"
          rename Frm _ _ _ _ _ _ _ => F31
          refine hnext _ _ _ S28 _ hrx.sb hr28 (F31.weak ?_)
          rw [hz]
          unfold cutG
          refine weak_cons (by rfl) (weak_cons (by rfl) (weak_cons (by rfl) (weak_cons ?_ (weak_cons (by rfl) (weak_cons (by rfl) (weak_cons (by rfl) (weak_cons (by rfl) (weak_cons (by rfl) weak_nil))))))))
          rw [show x.1 - x.1 = 0 by omega]; rfl
      · have hje : j = row.length := by
          rcases Nat.lt_or_ge j row.length with z | z
          · have hxj : row[j]? = some row[j] := by simp [z]
            obtain ⟨hsz, hsz1⟩ := hpos.take_lt hxj
            exact absurd (of_decide_eq_false hc) (by omega)
          · omega
        subst hje
        rw [List.take_length] at hvs
        have hrv : rsv.length ≤ 20 := by
          have := hrsv.length
          rw [List.length_map, List.length_take] at this
          omega
        repeat walk_at "tk"
        refine ⟨aRows, _, rfl, F1.plain (.tail _ (.head _)), ?_⟩
        repeat walk_at "tk"
        refine appM F1.swap (Nat.le_trans hrv (by decide)) fun h₃₁ F31 => ?_
        repeat walk_at "tk"
        obtain ⟨S2, sb2, hr2, F32⟩ := F31.swap.rest hvs
        refine ⟨S2, _, _, h₃₁, _, rfl, sb.trans (sb1.trans sb2), ⟨rsv ++ [.ref aRow], rfl, rfl, ?_⟩, F32.weak ?_⟩
        · rw [take_snoc hx]
          rw [List.map_append]
          exact (hrsv.mono (sb1.trans sb2)).snoc hr2
        · rw [flat_snoc hx, sizeOf_append, hP, List.length_append, hTk]
          rw [List.take_length]
          push_cast
          walk_at "tk weak"
    · intro S' G' mu' h tk hJ sb F'
      obtain ⟨rsv, rfl, rfl, hrsv⟩ := hJ
      rw [List.take_length] at hrsv
      repeat walk_at "tk"
      obtain ⟨S2, sb2, hr2, F2'⟩ := F'.rest hrsv
      exact k _ _ _ S2 F2'.toRet hr2
end
/-! calls of a def with cells -/
noncomputable def isCell (v : Option Value) : Obj → Prop := fun o => o.data = .cell v
noncomputable def cellMu (scope : Scope) (L : Addr) (cm : Str → Option Value) : Muts := (cellsFrom (L + 1) scope.names []).map fun x => (x.2, isCell (cm x.1))

section
variable {prog : Program} {w : World} {A : Around} {s : Shared} {E : Value → Shared → Prop} {Q : Value → Shared → Prop}

theorem frm_cells {f : FD} {L a : Addr} {cd : Value} {S : Stab} {G : Vars} {m cm : Str → Option Value} {s₁ : Shared} (hS : SubH S s.heap) (hL : L = s.heap.objs.size)
    (x : InCallC s L m (cellsFrom (L + 1) f.scope.names []) cm s₁) (hvars : ∀ x e, G.lookup x = some e → ∃ u, Holds S (envOfC f.name f.scope L a cd) m x u ∧ e.ok S u) (hk : f.scope.kind = .function)
    (hlk : ∀ y ∈ cellsFrom (L + 1) f.scope.names [], (cellsFrom (L + 1) f.scope.names []).lookup y.1 = some y.2) :
    Frm s.heap S S (envOfC f.name f.scope L a cd) G (cellMu f.scope L cm) s₁.heap := by
  have new : ∀ c, L ≤ c → s.heap.get? c = none := fun c hc => Heap.get?_none_of_le (by rw [← hL]; exact hc)
  have newS : ∀ c, L ≤ c → S c = none := fun c hc => by
    cases z : S c with
    | none => rfl
    | some o => have := hS _ _ z; rw [new c hc] at this; cases this
  exact
  { fk := hk, gl := rfl, bl := rfl, base := x.toInCall.keep, sb := Sb.refl S
    sub := fun b o e => x.toInCall.keep b o (hS b o e)
    new := fun b o e => .inl e
    nLB := new L (Nat.le_refl _)
    nLS := newS L (Nat.le_refl _)
    mus := fun p hp => by
      obtain ⟨⟨y, c⟩, hy, rfl⟩ := List.mem_map.mp hp
      have hc := x.above y c hy
      obtain ⟨o, ho, hd⟩ := x.cell y c (hlk _ hy)
      exact ⟨⟨o, ho, hd⟩, fun e => by have e' : c = L := e; rw [e'] at hc; exact Nat.lt_irrefl _ hc, newS c (Nat.le_of_lt hc), new c (Nat.le_of_lt hc)⟩
    nd := by
      show ((List.map _ _).map _).Nodup
      rw [List.map_map]
      exact List.pairwise_map.mpr x.apart
    vars := ⟨m, x.toInCall.ns, hvars⟩ }

/-- a call of a def with cells -/
theorem enterK {f : FD} {v dV : Value} {n : Nat} {S : Stab} {vs : List Value} {binds : List (Str × Value)} {G : Vars} (hl : s.heap.NoLimit) (fo : FnOK s.heap v f dV) (rm : Rm A (n + 1)) (hS : SubH S s.heap)
    (hbind : ∀ doc pm an cdv ct, bindArgs (fnOf f.name f.name f.params f.body f.scope dV .none doc pm an cdv ct) ⟨vs, []⟩ = pure binds)
    (hvars : ∀ L a cd, ∀ x e, G.lookup x = some e → ∃ u, Holds S (envOfC f.name f.scope L a cd) (bindL (fun y => f.scope.names.lookup y) binds fun _ => none) x u ∧ e.ok S u)
    (h : ∀ L a cd h₁ tk A' E', Rm A' n → Frm s.heap S S (envOfC f.name f.scope L a cd) G (cellMu f.scope L (bindC (fun y => f.scope.names.lookup y) binds fun _ => none)) h₁ →
      wpAny (model prog w) A' (execs f.body (envOfC f.name f.scope L a cd)) (RetQ Q) E' { s with heap := h₁, toks := tk })
    (hkind : ∀ L, ∀ x ∈ binds, f.scope.names.lookup x.1 = some .local ∨ (f.scope.names.lookup x.1 = some .cell ∧ ((cellsFrom L f.scope.names []).lookup x.1).isSome = true))
    (hlk : ∀ L, ∀ y ∈ cellsFrom L f.scope.names [], (cellsFrom L f.scope.names []).lookup y.1 = some y.2)
    (hco : f.scope.isCoroutine = false := by rfl) (hgen : f.scope.isGenerator = false := by rfl) (hk : f.scope.kind = .function := by rfl) :
    wpAny (model prog w) A (call v vs) Q E s := by
  obtain ⟨a, o, doc, pm, an, cdv, ct, rfl, ho, hd, hc⟩ := fo
  refine wpAny_call (codeAny_call_cells (fd := fnOf f.name f.name f.params f.body f.scope dV .none doc pm an cdv ct) (body := f.body) (binds := binds) (by have := rm.dp; omega) ho hd hl hc rfl (hbind doc pm an cdv ct) rfl (hkind _) (fun s₁ hx => ?_) hco hgen hk)
  obtain ⟨h₁, tk, e⟩ := hx.toInCall.same
  have F := frm_cells (f := f) (a := a) (cd := cdv) hS rfl hx (hvars _ _ _) hk (hlk _)
  subst e
  exact wpAny_mono (h s.heap.objs.size a cdv h₁ tk _ _ (rm.deeper _) F) (fun f s' q => q) (fun _ _ e => e)
/-- such a call in clean contexts -/
theorem enterKC {f : FD} {v dV : Value} {n : Nat} {S : Stab} {vs : List Value} {binds : List (Str × Value)} {G : Vars} (hl : s.heap.NoLimit) (fo : FnOK s.heap v f dV) (rm : Rm A (n + 1)) (hS : SubH S s.heap)
    (hbind : ∀ doc pm an cdv ct, bindArgs (fnOf f.name f.name f.params f.body f.scope dV .none doc pm an cdv ct) ⟨vs, []⟩ = pure binds)
    (hvars : ∀ L a cd, ∀ x e, G.lookup x = some e → ∃ u, Holds S (envOfC f.name f.scope L a cd) (bindL (fun y => f.scope.names.lookup y) binds fun _ => none) x u ∧ e.ok S u)
    (h : ∀ L a cd h₁ tk A', Rm A' n → Frm s.heap S S (envOfC f.name f.scope L a cd) G (cellMu f.scope L (bindC (fun y => f.scope.names.lookup y) binds fun _ => none)) h₁ →
      wpC (model prog w) A' (execs f.body (envOfC f.name f.scope L a cd)) (RetQ Q) (fun _ _ => False) { s with heap := h₁, toks := tk })
    (hkind : ∀ L, ∀ x ∈ binds, f.scope.names.lookup x.1 = some .local ∨ (f.scope.names.lookup x.1 = some .cell ∧ ((cellsFrom L f.scope.names []).lookup x.1).isSome = true))
    (hlk : ∀ L, ∀ y ∈ cellsFrom L f.scope.names [], (cellsFrom L f.scope.names []).lookup y.1 = some y.2)
    (hco : f.scope.isCoroutine = false := by rfl) (hgen : f.scope.isGenerator = false := by rfl) (hk : f.scope.kind = .function := by rfl) :
    wpC (model prog w) A (call v vs) Q E s := by
  obtain ⟨a, o, doc, pm, an, cdv, ct, rfl, ho, hd, hc⟩ := fo
  refine wpC_call (codeC_call_function (fd := fnOf f.name f.name f.params f.body f.scope dV .none doc pm an cdv ct) (body := f.body) (by have := rm.dp; omega) ho hd hco hgen rfl hc ?_)
  rw [hbind doc pm an cdv ct]
  refine wpAny_pure (wpAny_newFunctionEnv_cells hk (hkind _) fun env he s' hx => ?_)
  subst he
  refine ⟨hl.keeps hx.toInCall.keep, codeC_func ?_⟩
  obtain ⟨h₁, tk, e⟩ := hx.toInCall.same
  have F := frm_cells (f := f) (a := a) (cd := cdv) hS rfl hx (hvars _ _ _) hk (hlk _)
  subst e
  exact wpC_mono (h s.heap.objs.size a cdv h₁ tk _ (rm.deeper _) F) (fun f s' q => q) (fun _ _ e => e)
end

section
variable {prog : Program} {w : World} {A : Around} {s : Shared} {E : Value → Shared → Prop}
variable {B : Heap} {S₀ S : Stab} {env : Env} {G : Vars} {mu : Muts}

theorem Frm.cellIn {h : Heap} {c : Addr} {x : Str} {v : Value} (e : Ent) (F : Frm B S₀ S env G ((c, isCell (some v)) :: mu) h) (hc : env.cells.lookup x = some c) (hk : env.kindOf x = some .cell) (he : e.ok S v) :
    ∃ S', Sb S S' ∧ Frm B S₀ S' env ((x, e) :: G) mu h := by
  obtain ⟨o, hp, ho, sb, hs, F'⟩ := F.freeze
  refine ⟨_, sb, { F' with vars := ?_ }⟩
  obtain ⟨m, hn, hv⟩ := F'.vars
  refine ⟨m, hn, fun y d hy => ?_⟩
  rw [List.lookup_cons] at hy
  cases z : (y == x) with
  | true =>
    rw [z] at hy
    cases hy
    have : y = x := by simpa using z
    subst this
    exact ⟨v, .inr ⟨.inl hk, c, o, hc, hs, hp⟩, Ent.mono sb he⟩
  | false => rw [z] at hy; exact hv y d hy
theorem stCell {Q : Unit → Shared → Prop} {c : Addr} {x : Str} {v : Value} (e : Ent) (F : Frm B S₀ S env G ((c, isCell none) :: mu) s.heap) (he : e.ok S v)
    (k : ∀ h' S', Sb S S' → Frm B S₀ S' env ((x, e) :: G) mu h' → Q () { s with heap := h' }) (hc : env.cells.lookup x = some c := by rfl) (hk : env.kindOf x = some .cell := by rfl) :
    wpAny (model prog w) A (storeName env x v) Q E s := by
  obtain ⟨o, ho, hp⟩ := F.is
  refine wpAny_storeName_cell F.fk hk hc ⟨o, ho, hp⟩ fun h' hc' hs => ?_
  obtain ⟨o', ho', hp'⟩ := hc'
  obtain ⟨S', sb, F'⟩ := (F.upd (P' := isCell (some v)) hs.extBut ho' hp').cellIn e hc hk he
  exact k h' S' sb F'
end
noncomputable def isFull (block : Int) (r : List Step) : Bool := decide (block ≤ sizeOf r)
noncomputable def fullN (block : Int) (l : List Step) : Int := ((splitRows block l).filter (isFull block)).length

section
variable {prog : Program} {w : World} {A : Around} {s : Shared} {E : Value → Shared → Prop} {Q : Value → Shared → Prop}
variable {mg mb : Str → Option Value} {S : Stab}

theorem splitRows_len (block : Int) (l : List Step) : (splitRows block l).length ≤ l.length + 1 := by
  unfold splitRows
  rw [List.length_append]
  have := splitSt_len1 block l
  simp; omega
/-- the rows' own steps -/
theorem splitSt_flat (block : Int) (l : List Step) : (splitSt block l).1.flatten ++ (splitSt block l).2.1 = l := by
  suffices h : ∀ (r : List Step) (d : List (List Step) × List Step × Int), (r.foldl (splitF block) d).1.flatten ++ (r.foldl (splitF block) d).2.1 = d.1.flatten ++ d.2.1 ++ r by
    have := h l ([], [], 0); simpa [splitSt] using this
  intro r
  induction r with
  | nil => intro d; simp
  | cons x r ih =>
    intro d
    rw [List.foldl_cons, ih]
    unfold splitF; split <;> simp
theorem splitRows_flat (block : Int) (l : List Step) : (splitRows block l).flatten = l := by
  unfold splitRows
  rw [List.flatten_append]
  simpa using splitSt_flat block l
theorem splitRows_row {block : Int} {l r : List Step} (h : r ∈ splitRows block l) : r.length ≤ l.length ∧ ∀ x ∈ r, x ∈ l := by
  have e := splitRows_flat block l
  refine ⟨?_, fun x hx => ?_⟩
  · have h5 := (List.sublist_flatten_of_mem h).length_le
    rwa [e] at h5
  · rw [← e]; exact List.mem_flatten.mpr ⟨r, h, hx⟩

theorem full_spec {n : Nat} {l : List Step} {block : Int} {v u fv : Value} (G : GG mg mb s.heap) (fo : FnOK s.heap fv (fdef 21) .none) (rm : Rm A (n + 3)) (hS : SubH S s.heap) (r : Rep S (stepsD l) v) (r2 : Rep S (.int block) u) (hlen : l.length ≤ 100)
    (k : ∀ t h' tk, Kp s.heap h' → Q (.int (fullN block l) t) { s with heap := h', toks := tk }) : wpAny (model prog w) A (call fv [v, u]) Q E s := by
  refine enterK (hkind := by intro L x hx; (repeat (rcases List.mem_cons.mp hx with rfl | hx; · first | exact .inl rfl | exact .inr ⟨rfl, rfl⟩)); exact nomatch hx) (hlk := by intro L x hx; (repeat (rcases List.mem_cons.mp hx with rfl | hx; · rfl)); exact nomatch hx) (binds := [("steps", v), ("block", u)]) (G := [("steps", .dat (stepsD l))]) G.lim fo rm hS (fun _ _ _ _ _ => rfl) (fun L a cd => vars_cons (.inl ⟨rfl, rfl⟩) r vars_nil) ?_
  intro L a cd h₁ tk A' E' rm' F
  obtain ⟨S1, sb1, F1⟩ := Frm.cellIn (x := "block") (c := L + 1) (.dat (.int block)) (show Frm _ _ _ _ _ [(L + 1, isCell (some u))] _ from F) rfl rfl r2
  repeat walk_at "tk"
  refine bcallE F1 G.g G.b (G.ng _ (by decide)) G.b_len ?_
  walk_at "tk"
  refine compA (cl := [("block", L + 1)]) (by with_unfolding_all rfl) ?_
  obtain ⟨fs, hfs, fos⟩ := G.fn 13 (by decide)
  refine callE F1 G.g hfs fos ?_
  repeat walk_at "tk"
  rename_i v₂ hv₂ _
  have hi10 : ∀ y ∈ splitRows block l, y.length ≤ 100 := fun y hy => Nat.le_trans (splitRows_row hy).1 hlen
  refine ⟨F1.base, split_steps_spec (n := n) (G.keeps F1.base) (fos.keeps F1.base) rm' F1.sub hv₂ (repI _ _ _) (Nat.le_trans hlen (by decide)) fun v₃ h₃ tk₃ S3 ret3 hr3 => ?_⟩
  have F3 := F1.ret ret3
  refine compB (xs := splitRows block l) (enc := stepsD) (isFull block) stepsD [("block", .dat (.int block))] rm'.hh F3 (IterOf.list hr3) (by have := splitRows_len block l; exact Nat.le_trans (by omega : _ ≤ 101) (by decide)) (cap_cons F3 rfl rfl rfl rfl cap_nil) ?_ ?_
  · intro C i y S' mu' h tk E'' hx sb F'
    refine test1 ?_
    obtain ⟨fz, hfz, foz⟩ := G.fn 8 (by decide)
    have G3 := G.keeps F3.base
    repeat walk_at "tk"
    refine callE F' G3.g hfz (foz.keeps F3.base) ?_
    repeat walk_at "tk"
    rename_i v₅ hv₅
    refine ⟨F'.base, size_of_spec (n := n) (G3.keeps F'.base) ((foz.keeps F3.base).keeps F'.base) rm' F'.sub hv₅ (Nat.le_trans (hi10 y (List.mem_of_getElem? hx)) (by decide)) fun t₆ h₆ tk₆ kp₆ => ?_⟩
    have F6 := F'.keep kp₆
    repeat walk_at "tk"
    refine split_bool (fun hc => ?_) (fun hc => ?_)
    · refine ⟨hc, ?_⟩
      repeat walk_at "tk"
      rename_i v₇ hv₇
      exact ⟨_, _, S', rfl, Sb.refl _, hv₇, F6⟩
    · exact ⟨hc, _, _, S', rfl, Sb.refl _, F6⟩
  · intro u₇ h₇ tk₇ S7 sb7 kp7 F7 hr7
    repeat walk_at "tk"
    refine lenE F7 hr7 (by have := splitRows_len block l; have := List.length_filter_le (isFull block) (splitRows block l); rw [List.length_map]; omega) fun t₈ tk₈ => ?_
    rw [List.length_map]
    exact k _ _ _ F7.base
end
noncomputable def natD (n : Nat) : PyData := .int (n : Int)
noncomputable def natsD (l : List Nat) : PyData := .list (l.map natD)
noncomputable def natRowsD (l : List (List Nat)) : PyData := .list (l.map natsD)
theorem cmp_nat : Cmp natD 0 := ⟨fun n => cmp_int.lay n, fun n => cmp_int.dep n, fun x y => by unfold natD; rw [cmp_int.inj]; omega⟩
theorem cmp_nats : Cmp natsD 1 := cmp_list cmp_nat
noncomputable def wholeOf (sizes : List Int) (b e : Nat) : Int := ((sizes.drop b).take (e - b)).sum
noncomputable def reachB (sizes : List Int) (block : Int) (full : Bool) (e b : Nat) : Bool :=
  decide (b < e) && (if full then decide (block ≤ wholeOf sizes b e) else decide (wholeOf sizes b e - sizes.getD (e - 1) 0 < block))
noncomputable def reachF (sizes : List Int) (block : Int) (full : Bool) (begins : List Nat) (e : Nat) : Bool := begins.any (reachB sizes block full e)

section
variable {prog : Program} {w : World} {A : Around} {s : Shared} {E : Value → Shared → Prop} {Q : Value → Shared → Prop}
variable {mg mb : Str → Option Value} {S : Stab}

theorem reached_spec {n : Nat} {sizes : List Int} {block : Int} {full : Bool} {begins : List Nat} {e : Nat} {v1 v2 v3 v4 v5 fv : Value} (G : GG mg mb s.heap) (fo : FnOK s.heap fv (fdef 18) .none) (rm : Rm A (n + 1)) (hS : SubH S s.heap)
    (r1 : Rep S (intsD sizes) v1) (r2 : Rep S (.int block) v2) (r3 : Rep S (.bool full) v3) (r4 : Rep S (natsD begins) v4) (r5 : Rep S (natD e) v5) (hlen : sizes.length ≤ 100) (he : 1 ≤ e ∧ e ≤ sizes.length) (hbg : ∀ b ∈ begins, b ≤ sizes.length)
    (k : ∀ h' tk, Kp s.heap h' → Q (.bool (reachF sizes block full begins e)) { s with heap := h', toks := tk }) : wpAny (model prog w) A (call fv [v1, v2, v3, v4, v5]) Q E s := by
  refine enter (binds := [("sizes", v1), ("block", v2), ("full", v3), ("begins", v4), ("end", v5)]) (G := [("sizes", .dat (intsD sizes)), ("block", .dat (.int block)), ("full", .dat (.bool full)), ("begins", .dat (natsD begins)), ("end", .dat (.int e))]) G.lim fo rm hS (fun _ _ _ _ _ => BindsTo.of_eq rfl)
    (fun L a cd => vars_cons (.inl ⟨rfl, rfl⟩) r1 (vars_cons (.inl ⟨rfl, rfl⟩) r2 (vars_cons (.inl ⟨rfl, rfl⟩) r3 (vars_cons (.inl ⟨rfl, rfl⟩) r4 (vars_cons (.inl ⟨rfl, rfl⟩) r5 vars_nil))))) ?_
  intro L a cd h₁ tk1 A' E' rm' F
  repeat walk_at "tk"
  rename_i v' hv'
  refine forE (xs := begins) (enc := natD) rm'.hh (IterOf.list hv') F (fun i _ G' mu' => (begins.take i).any (reachB sizes block full e) = false ∧ G' = ([("sizes", .dat (intsD sizes)), ("block", .dat (.int block)), ("full", .dat (.bool full)), ("begins", .dat (natsD begins)), ("end", .dat (.int e))] : Vars) ∧ mu' = []) ⟨rfl, rfl, rfl⟩ ?_ ?_
  · intro i b S' G' mu' p h tk u E'' hx hJ sb F' hu
    obtain ⟨hno, rfl, rfl⟩ := hJ
    obtain ⟨t, rfl⟩ := rep_int.mp hu
    have hbl := hbg b (List.mem_of_getElem? hx)
    repeat walk_at "tk"
    rename Frm _ _ _ _ _ _ _ => F2
    refine bcallE F2 G.g G.b (G.ng _ (by decide)) G.b_sum ?_
    repeat walk_at "tk"
    rename_i v₃ hv₃ _ _
    refine sliceTail (hs := by first | exact .inl (fun _ _ => rfl) | exact .inr (fun _ _ => rfl)) F2 hv₃ (by rw [List.length_map]; exact Nat.le_trans hlen (by decide)) (.int _ _) (.int _ _) .none (by decide) (pickRun (by rw [List.length_map]; exact hbl) (by rw [List.length_map]; exact he.2)) fun u₃ h₃ S3 sb3 kp3 F3 hr3 => ?_
    rw [← List.map_drop, ← List.map_take] at hr3
    repeat walk_at "tk"
    refine sumE rm'.hh F3.sub hr3 fun t₄ h₄ tk₄ kp₄ => ?_
    have F4 := F3.keep kp₄
    have fin : ∀ h' tk', reachB sizes block full e b = false → Frm s.heap S S3 (envOf (fdef 18).name (fdef 18).scope L a cd) ([("sizes", .dat (intsD sizes)), ("block", .dat (.int block)), ("full", .dat (.bool full)), ("begins", .dat (natsD begins)), ("end", .dat (.int e))] : Vars) [p] h' →
        LInv (fun i _ G' mu' => (begins.take i).any (reachB sizes block full e) = false ∧ G' = ([("sizes", .dat (intsD sizes)), ("block", .dat (.int block)), ("full", .dat (.bool full)), ("begins", .dat (natsD begins)), ("end", .dat (.int e))] : Vars) ∧ mu' = []) s.heap S S (envOf (fdef 18).name (fdef 18).scope L a cd) { s with heap := h₁, toks := tk1 } p (i + 1) { s with heap := h', toks := tk' } :=
      fun h' tk' hb F9 => ⟨S3, _, [], h', tk', rfl, sb.trans sb3, ⟨by rw [take_snoc hx, List.any_append, hno]; simp [hb], rfl, rfl⟩, F9⟩
    have yes : reachB sizes block full e b = true → reachF sizes block full begins e = true := fun hb => List.any_eq_true.mpr ⟨b, List.mem_of_getElem? hx, hb⟩
    have k' : reachF sizes block full begins e = true → ∀ h' tk, Kp s.heap h' → Q (.bool true) { s with heap := h', toks := tk } := fun hr h' tk kp => by have := k h' tk kp; rwa [hr] at this
    have hwo : ((sizes.drop b).take (e - b)).sum = wholeOf sizes b e := rfl
    rw [hwo]
    repeat walk_at "tk"
    rename Frm _ _ _ _ _ _ _ => F5
    have F5w := fun _ : True => F5.weak (G' := ([("sizes", .dat (intsD sizes)), ("block", .dat (.int block)), ("full", .dat (.bool full)), ("begins", .dat (natsD begins)), ("end", .dat (.int e))] : Vars)) (by walk_at "tk weak")
    refine split_bool (fun hc => ?_) (fun hc => ?_)
    · have hbe : b < e := by have := of_decide_eq_true hc; omega
      repeat walk_at "tk"
      refine split_bool (fun hf => ?_) (fun hf => ?_)
      · repeat walk_at "tk"
        refine split_bool (fun hd => ?_) (fun hd => ?_)
        · repeat walk_at "tk"
          exact k' (yes (by unfold reachB; rw [hf, if_pos rfl, show decide (b < e) = true from decide_eq_true hbe]; exact hd)) _ _ F5.base
        · repeat walk_at "tk"
          exact fin _ _ (by unfold reachB; rw [hf, if_pos rfl, show decide (b < e) = true from decide_eq_true hbe]; exact hd) (F5w trivial)
      · repeat walk_at "tk"
        rename_i v₈ hv₈ _
        refine listItem F5 hv₈ (by omega) (by omega) (d := .int (sizes.getD (e - 1) 0)) (by
          rw [show ((e : Int) - 1).toNat = e - 1 by omega, List.getElem?_map, List.getD_eq_getElem?_getD, List.getElem?_eq_getElem (by omega : e - 1 < sizes.length)]; rfl) fun u₉ hu₉ => ?_
        obtain ⟨t9, rfl⟩ := rep_int.mp hu₉
        repeat walk_at "tk"
        refine split_bool (fun hd => ?_) (fun hd => ?_)
        · repeat walk_at "tk"
          exact k' (yes (by unfold reachB; rw [hf, if_neg Bool.false_ne_true, show decide (b < e) = true from decide_eq_true hbe]; exact hd)) _ _ F5.base
        · repeat walk_at "tk"
          exact fin _ _ (by unfold reachB; rw [hf, if_neg Bool.false_ne_true, show decide (b < e) = true from decide_eq_true hbe]; exact hd) (F5w trivial)
    · repeat walk_at "tk"
      exact fin _ _ (by unfold reachB; have := of_decide_eq_false hc; rw [show decide (b < e) = false from decide_eq_false (by omega)]; rfl) (F5w trivial)
  · intro S' G' mu' h tk hJ sb F'
    obtain ⟨hno, rfl, rfl⟩ := hJ
    rw [List.take_length] at hno
    repeat walk_at "tk"
    unfold reachF at k
    rw [hno] at k
    exact k _ _ F'.base
end
noncomputable def nextEnds (sizes : List Int) (block : Int) (full : Bool) (begins : List Nat) : List Nat := ((List.range sizes.length).filter fun i => reachF sizes block full begins (i + 1)).map (· + 1)
noncomputable def endsSeq (sizes : List Int) (block : Int) (full : Bool) : Nat → List Nat
  | 0 => [0]
  | k + 1 => nextEnds sizes block full (endsSeq sizes block full k)
theorem natsD_next (sizes : List Int) (block : Int) (full : Bool) (l : List Nat) : natsD (nextEnds sizes block full l) = .list (((List.range sizes.length).filter fun i => reachF sizes block full l (i + 1)).map fun i => natD (i + 1)) := by
  unfold natsD nextEnds
  rw [List.map_map]; rfl
theorem reachF_true {sizes : List Int} {block : Int} {full : Bool} {begins : List Nat} {e : Nat} (h : reachF sizes block full begins e = true) : ∃ b ∈ begins, b < e ∧ reachB sizes block full e b = true := by
  obtain ⟨b, hb, h⟩ := List.any_eq_true.mp h
  refine ⟨b, hb, ?_, h⟩
  unfold reachB at h
  exact of_decide_eq_true (Bool.and_eq_true_iff.mp h).1
theorem mem_nextEnds {sizes : List Int} {block : Int} {full : Bool} {begins : List Nat} {e : Nat} : e ∈ nextEnds sizes block full begins ↔ 1 ≤ e ∧ e ≤ sizes.length ∧ reachF sizes block full begins e = true := by
  unfold nextEnds
  simp only [List.mem_map, List.mem_filter, List.mem_range]
  constructor
  · rintro ⟨i, ⟨h1, h2⟩, rfl⟩; exact ⟨by omega, by omega, h2⟩
  · rintro ⟨h1, h2, h3⟩; exact ⟨e - 1, ⟨by omega, by rw [show e - 1 + 1 = e by omega]; exact h3⟩, by omega⟩
theorem endsSeq_bound {sizes : List Int} {block : Int} {full : Bool} : ∀ {k e : Nat}, e ∈ endsSeq sizes block full k → k ≤ e ∧ e ≤ sizes.length
  | 0, e, h => by simp [endsSeq] at h; omega
  | k + 1, e, h => by
    obtain ⟨h1, h2, h3⟩ := mem_nextEnds.mp h
    obtain ⟨b, hb, hlt, _⟩ := reachF_true h3
    have := (endsSeq_bound hb).1
    omega
theorem endsSeq_len {sizes : List Int} {block : Int} {full : Bool} (k : Nat) : (endsSeq sizes block full k).length ≤ sizes.length + 1 := by
  cases k with
  | zero => simp [endsSeq]
  | succ k =>
    unfold endsSeq nextEnds
    rw [List.length_map]
    have := List.length_filter_le (fun i => reachF sizes block full (endsSeq sizes block full k) (i + 1)) (List.range sizes.length)
    rw [List.length_range] at this
    omega

section
variable {prog : Program} {w : World} {A : Around} {s : Shared} {E : Value → Shared → Prop} {Q : Value → Shared → Prop}
variable {mg mb : Str → Option Value} {S : Stab}

theorem lastItemL {value slice : Expr} {a : Addr} {vs : List Value} {x : Value} {t : Tok} (hl : s.heap.IsList a (vs ++ [x]).toArray) (hsz : vs.length < 2 ^ 62)
    (k : Q x s) (hs : subscripted slice false (.ref a) (.int (-1) t) = operate [.ref a, .int (-1) t] (getItem (.ref a) (.int (-1) t)) := by with_unfolding_all rfl) :
    wpAny (model prog w) A (subscriptTail value slice (.ref a) (.int (-1) t)) Q E s := by
  refine tail_any hl.typeIs slot_list_getitem.lookup (wpAny_getItem_list_neg hl (by decide) ?_ (by decide) ?_ k) hs
  · simp only [List.size_toArray, List.length_append, List.length_singleton]; omega
  · simp only [List.size_toArray, List.length_append, List.length_singleton]
    rw [show ((-1 : Int) + ((vs.length + 1 : Nat) : Int)).toNat = vs.length by omega]
    simp

noncomputable def endsG (aF : Addr) (sizes : List Int) (block : Int) (full : Bool) : Vars := [("found", .val (.ref aF)), ("full", .dat (.bool full)), ("block", .dat (.int block)), ("sizes", .dat (intsD sizes))]
noncomputable def EndsJ (aF : Addr) (sizes : List Int) (block : Int) (full : Bool) (m : Nat) (S' : Stab) (G' : Vars) (mu' : Muts) : Prop :=
  ∃ k rs x, m = sizes.length + 1 - k ∧ k ≤ sizes.length + 1 ∧ (∀ i < k, endsSeq sizes block full i ≠ []) ∧ G' = endsG aF sizes block full ∧ mu' = [(aF, isL (rs ++ [x]))] ∧
    RepL S' ((List.range k).map fun i => natsD (endsSeq sizes block full i)) rs ∧ Rep S' (natsD (endsSeq sizes block full k)) x
set_option maxHeartbeats 2000000 in
theorem ends_spec {n : Nat} {sizes : List Int} {block : Int} {full : Bool} {v1 v2 v3 fv : Value} (G : GG mg mb s.heap) (fo : FnOK s.heap fv (fdef 19) .none) (rm : Rm A (n + 2)) (hS : SubH S s.heap)
    (r1 : Rep S (intsD sizes) v1) (r2 : Rep S (.int block) v2) (r3 : Rep S (.bool full) v3) (hlen : sizes.length ≤ 50)
    (k : ∀ v h' tk S' K, Ret S s.heap h' S' → Rep S' (natRowsD ((List.range (K + 1)).map (endsSeq sizes block full))) v → (∀ i < K, endsSeq sizes block full i ≠ []) → endsSeq sizes block full K = [] → K ≤ 60 → Q v { s with heap := h', toks := tk }) :
    wpAny (model prog w) A (call fv [v1, v2, v3]) Q E s := by
  refine enterK (hkind := by intro L x hx; (repeat (rcases List.mem_cons.mp hx with rfl | hx; · first | exact .inl rfl | exact .inr ⟨rfl, rfl⟩)); exact nomatch hx) (hlk := by intro L x hx; (repeat (rcases List.mem_cons.mp hx with rfl | hx; · rfl)); exact nomatch hx) (binds := [("sizes", v1), ("block", v2), ("full", v3)]) (G := []) G.lim fo rm hS (fun _ _ _ _ _ => rfl) (fun L a cd => vars_nil) ?_
  intro L a cd h₁ tk1 A' E' rm' F
  have F0 : Frm _ _ _ _ _ [(L + 1, isCell (some v1)), (L + 1 + 1, isCell (some v2)), (L + 1 + 1 + 1, isCell (some v3)), (L + 1 + 1 + 1 + 1, isCell none)] _ := F.perm (List.reverse_perm _).symm
  obtain ⟨S1, sb1, F1⟩ := Frm.cellIn (x := "sizes") (.dat (intsD sizes)) F0 rfl rfl r1
  obtain ⟨S2, sb2, F2⟩ := Frm.cellIn (x := "block") (.dat (.int block)) F1 rfl rfl (r2.mono sb1)
  obtain ⟨S3, sb3, F3⟩ := Frm.cellIn (x := "full") (.dat (.bool full)) F2 rfl rfl (r3.mono (sb1.trans sb2))
  clear F F0 F1 F2
  repeat walk_at "tk"
  refine listE F3 (ds := [natD 0]) (RepL.cons (repI _ _ _) (RepL.nil _)) fun a₄ h₄ S4 sb4 kp4 F4 hr4 => ?_
  repeat walk_at "tk"
  refine listM F4 fun aF h₅ F5 => ?_
  refine stCell (.val (.ref aF)) F5.swap rfl fun h₆ S6 sb6 F6 => ?_
  repeat walk_at "tk"
  refine wpAny_While ?_
  refine whileE (sizes.length + 1) (G := endsG aF sizes block full) F6 (EndsJ aF sizes block full) ⟨0, [], _, rfl, Nat.zero_le _, fun i hi => absurd hi (Nat.not_lt_zero i), rfl, rfl, RepL.nil _, hr4.mono sb6⟩ ?_
  rintro m S7 G7 mu7 h7 tk7 E7 ⟨j, rs, x, rfl, hj, hne, rfl, rfl, hrs, hx⟩ sb7 F7
  have F7 : Frm _ _ _ _ ([("found", .val (.ref aF)), ("full", .dat (.bool full)), ("block", .dat (.int block)), ("sizes", .dat (intsD sizes))] : Vars) _ _ := F7
  have hrl : rs.length = j := by have := hrs.length; rwa [List.length_map, List.length_range] at this
  repeat walk_at "tk"
  refine lastItem F7 (.head _) (by omega) ?_
  repeat walk_at "tk"
  refine listE F7 (ds := []) (RepL.nil _) fun a₈ h₈ S8 sb8 kp8 F8 hr8 => ?_
  refine neE (x := endsSeq sizes block full j) (y := []) cmp_nats rm' (by decide) F8.sub (hx.mono sb8) hr8 ?_
  repeat walk_at "tk"
  refine split_bool (fun hc => ?_) (fun hc => ?_)
  · have hjn : endsSeq sizes block full j ≠ [] := by simpa using hc
    have hjs : j ≤ sizes.length := by
      cases z : endsSeq sizes block full j with
      | nil => exact absurd z hjn
      | cons e r =>
        have := endsSeq_bound (k := j) (e := e) (sizes := sizes) (block := block) (full := full) (by rw [z]; exact .head _)
        omega
    repeat walk_at "tk"
    refine ⟨aF, _, rfl, F8.plain (.head _), ?_⟩
    refine compA (cl := _) (by with_unfolding_all rfl) ?_
    refine tcallE F8 G.g G.b (G.ng _ (by decide)) G.b_range ?_
    repeat walk_at "tk"
    refine bcallE F8 G.g G.b (G.ng _ (by decide)) G.b_len ?_
    repeat walk_at "tk"
    rename_i v₉ hv₉
    refine lenE F8 hv₉ (by rw [List.length_map]; omega) fun t₉ tk₉ => ?_
    rw [List.length_map]
    repeat walk_at "tk"
    refine rangeE2 F8 (by decide) (by decide) (by omega) (by omega) fun r₁₀ h₁₀ tk₁₀ S10 sb10 kp10 F10 X => ?_
    rw [show ((sizes.length : Int) + 1 - 1).toNat = sizes.length by omega] at X
    have sbA := sb8.trans sb10
    refine compB (xs := List.range sizes.length) (enc := fun i : Nat => PyData.int (1 + (i : Int))) (fun i => reachF sizes block full (endsSeq sizes block full j) (i + 1)) (fun i => natD (i + 1)) [("sizes", .dat (intsD sizes)), ("block", .dat (.int block)), ("full", .dat (.bool full)), ("found", .val (.ref aF))] rm'.hh F10 X (by rw [List.length_range]; exact Nat.le_trans hlen (by decide))
      (cap_cons F10 rfl rfl rfl rfl (cap_cons F10 rfl rfl rfl rfl (cap_cons F10 rfl rfl rfl rfl (cap_cons F10 rfl rfl rfl rfl cap_nil)))) ?_ ?_
    · intro C i y S' mu' h tk E'' hxi sb F'
      obtain ⟨fr, hfr, forr⟩ := G.fn 18 (by decide)
      have hy : y < sizes.length := List.mem_range.mp (List.mem_of_getElem? hxi)
      have hyi : i = y := by
        have hil : i < (List.range sizes.length).length := by
          rcases Nat.lt_or_ge i (List.range sizes.length).length with z | z
          · exact z
          · rw [List.getElem?_eq_none z] at hxi; cases hxi
        rw [List.getElem?_eq_getElem hil] at hxi
        simpa using hxi
      have G10 := G.keeps F10.base
      have hlF := F10.isListM (vs := rs ++ [x]) (.head _)
      refine test1 (wpAny_isTrue_value ?_)
      refine callE F' G10.g hfr (forr.keeps F10.base) ?_
      repeat walk_at "tk"
      refine lastItemL (let ⟨o, ho, hq⟩ := hlF; ⟨o, F'.base _ _ ho, hq⟩) (by omega) ?_
      repeat walk_at "tk"
      rename_i v₁₁ hv₁₁ tb te
      refine ⟨F'.base, reached_spec (n := n) (e := y + 1) (G10.keeps F'.base) ((forr.keeps F10.base).keeps F'.base) rm' F'.sub hv₁₁ (repI _ _ _) (repB _ _) (hx.mono (sbA.trans sb)) (by unfold natD; rw [show ((y + 1 : Nat) : Int) = 1 + (y : Int) by push_cast; omega]; exact repI _ _ _) (by omega) ⟨by omega, by omega⟩ (fun b hb => (endsSeq_bound hb).2) fun h₁₂ tk₁₂ kp₁₂ => ?_⟩
      have F12 := F'.keep kp₁₂
      refine wpAny_truthy_bool ?_
      refine split_bool (fun hd => ?_) (fun hd => ?_)
      · refine ⟨hd, ?_⟩
        repeat walk_at "tk"
        exact ⟨_, _, S', rfl, Sb.refl _, by unfold natD; rw [show ((y + 1 : Nat) : Int) = 1 + (y : Int) by push_cast; omega]; exact repI _ _ _, F12⟩
      · exact ⟨hd, _, _, S', rfl, Sb.refl _, F12⟩
    · intro u₁₃ h₁₃ tk₁₃ S13 sb13 kp13 F13 hr13
      repeat walk_at "tk"
      refine appM F13 (Nat.le_trans (by rw [List.length_append, List.length_singleton]; omega : (rs ++ [x]).length ≤ 60) (by decide)) fun h₁₄ F14 => ?_
      repeat walk_at "tk"
      have hnx := natsD_next sizes block full (endsSeq sizes block full j)
      refine ⟨sizes.length + 1 - (j + 1), by omega, S13, _, _, h₁₄, _, rfl, sb7.trans (sbA.trans sb13), ⟨j + 1, rs ++ [x], u₁₃, rfl, by omega, ?_, rfl, rfl, ?_, by show Rep _ (natsD (nextEnds sizes block full (endsSeq sizes block full j))) _; rw [hnx]; exact hr13⟩, F14⟩
      · intro i hi
        rcases Nat.lt_or_ge i j with z | z
        · exact hne i z
        · rw [show i = j by omega]; exact hjn
      · rw [List.range_succ, List.map_append]
        exact (hrs.mono (sbA.trans sb13)).snoc (hx.mono (sbA.trans sb13))
  · have hjn : endsSeq sizes block full j = [] := by simpa using hc
    repeat walk_at "tk"
    have hall : RepL S8 ((((List.range (j + 1)).map (endsSeq sizes block full))).map natsD) (rs ++ [x]) := by
      rw [List.range_succ, List.map_append, List.map_append, List.map_map]
      exact (hrs.mono sb8).snoc (hx.mono sb8)
    obtain ⟨S9, sb9, hr9, F9⟩ := F8.rest hall
    exact k _ _ _ S9 j F9.toRet hr9 hne hjn (by omega)
end
noncomputable def startOf (rows : List (List Step)) (j : Nat) : Nat := (rows.take j).flatten.length
noncomputable def startsOf (rows : List (List Step)) : List Nat := (List.range rows.length).map (startOf rows)
noncomputable def keepE (many : Nat) (pick : List Nat → Nat) (e : List Nat) : Bool := decide (e ≠ []) && decide (pick e < many)
noncomputable def headN (e : List Nat) : Nat := e.headD 0
noncomputable def lastN (e : List Nat) : Nat := e.getLastD 0
/-- what is asked of rows, in plain words -/
structure RowsOK (block : Int) (l : List Step) (rows : List (List Step)) : Prop where
  flat : rows.flatten = l
  ne : ∀ r ∈ rows, r ≠ []
  full : ∀ i r, rows[i]? = some r → startOf rows (i + 1) < l.length → block ≤ sizeOf r
  short : ∀ r ∈ rows, ∀ x, r.getLast? = some x → sizeOf r - sizeOf1 x < block
  begins : ∀ K, (∀ i < K, endsSeq (l.map sizeOf1) block true i ≠ []) → endsSeq (l.map sizeOf1) block true K = [] →
    (((List.range (K + 1)).map (endsSeq (l.map sizeOf1) block true)).filter (keepE l.length headN)).map headN = startsOf rows
  ends : ∀ K, (∀ i < K, endsSeq (l.map sizeOf1) block false i ≠ []) → endsSeq (l.map sizeOf1) block false K = [] →
    (((List.range (K + 1)).map (endsSeq (l.map sizeOf1) block false)).filter (keepE l.length lastN)).map lastN = startsOf rows

section
variable {prog : Program} {w : World} {A : Around} {s : Shared} {E : Value → Shared → Prop} {Q : Value → Shared → Prop}
variable {B : Heap} {S₀ : Stab} {env : Env} {G : Vars} {mu : Muts}
variable {mg mb : Str → Option Value} {S : Stab}

theorem lastD {value slice : Expr} {ds : List PyData} {v : Value} {t : Tok} {d : PyData} (F : Frm B S₀ S env G mu s.heap) (r : Rep S (.list ds) v) (hd : ds.getLast? = some d) (hsz : ds.length < 2 ^ 62)
    (k : ∀ u, Rep S d u → Q u s) (hs : ∀ a, subscripted slice false (.ref a) (.int (-1) t) = operate [.ref a, .int (-1) t] (getItem (.ref a) (.int (-1) t)) := by intro _; with_unfolding_all rfl) :
    wpAny (model prog w) A (subscriptTail value slice v (.int (-1) t)) Q E s := by
  obtain ⟨a, vs, rfl, hl, hr, _⟩ := rep_isList F.sub r
  rw [List.getLast?_eq_getElem?] at hd
  obtain ⟨u, hu, q⟩ := hr.get hd
  have hlen := hr.length
  have hpos : ds.length - 1 < ds.length := by
    rcases Nat.lt_or_ge (ds.length - 1) ds.length with z | z
    · exact z
    · rw [List.getElem?_eq_none z] at hd; cases hd
  refine tail_any hl.typeIs slot_list_getitem.lookup (wpAny_getItem_list_neg hl (by decide) ?_ (by decide) ?_ (k u q)) (hs a)
  · rw [List.size_toArray]; omega
  · rw [List.size_toArray, show ((-1 : Int) + (vs.length : Int)).toNat = ds.length - 1 by omega]
    simpa using hu

theorem flat_drop {rows : List (List Step)} {i : Nat} {row : List Step} (hr : rows[i]? = some row) : (rows.flatten.drop (startOf rows i)).take row.length = row := by
  have hi : i < rows.length := by
    rcases Nat.lt_or_ge i rows.length with z | z
    · exact z
    · rw [List.getElem?_eq_none z] at hr; cases hr
  have e : rows = rows.take i ++ (row :: rows.drop (i + 1)) := by
    rw [List.getElem?_eq_getElem hi] at hr
    cases hr
    simp
  have e2 : rows.flatten = (rows.take i).flatten ++ (row ++ (rows.drop (i + 1)).flatten) := by
    conv => lhs; rw [e]
    simp
  unfold startOf
  rw [e2, List.drop_left, List.take_left]

theorem startOf_le (rows : List (List Step)) (k : Nat) : startOf rows k ≤ rows.flatten.length := by
  have e : rows.flatten = (rows.take k).flatten ++ (rows.drop k).flatten := by rw [← List.flatten_append, List.take_append_drop]
  rw [e, List.length_append]; unfold startOf; omega
noncomputable def rightG (aB : Addr) (st : Nat) (l : List Step) (block : Int) (rows : List (List Step)) : Vars :=
  [("begins", .val (.ref aB)), ("at", .dat (.int st)), ("sizes", .dat (intsD (l.map sizeOf1))), ("many", .dat (.int l.length)), ("steps", .dat (stepsD l)), ("block", .dat (.int block)), ("rows", .dat (rowsD rows))]
noncomputable def RightJ (aB : Addr) (l : List Step) (block : Int) (rows : List (List Step)) (i : Nat) (S' : Stab) (G' : Vars) (mu' : Muts) : Prop :=
  ∃ bvs, G' = rightG aB (startOf rows i) l block rows ∧ mu' = [(aB, isL bvs)] ∧ RepL S' ((List.range i).map fun j => natD (startOf rows j)) bvs
set_option maxHeartbeats 4000000 in
theorem right_spec {n : Nat} {l : List Step} {block : Int} {rows : List (List Step)} {v1 v2 v3 fv : Value} (G : GG mg mb s.heap) (fo : FnOK s.heap fv (fdef 20) .none) (rm : Rm A (n + 3)) (hS : SubH S s.heap)
    (r1 : Rep S (stepsD l) v1) (r2 : Rep S (.int block) v2) (r3 : Rep S (rowsD rows) v3) (hok : StepsOK l) (hlen : l.length ≤ 20) (hrl : rows.length ≤ 30) (hR : RowsOK block l rows)
    (k : ∀ h' tk, Kp s.heap h' → Q (.bool true) { s with heap := h', toks := tk }) :
    wpAny (model prog w) A (call fv [v1, v2, v3]) Q E s := by
  refine enterK (hkind := by intro L x hx; (repeat (rcases List.mem_cons.mp hx with rfl | hx; · first | exact .inl rfl | exact .inr ⟨rfl, rfl⟩)); exact nomatch hx) (hlk := by intro L x hx; (repeat (rcases List.mem_cons.mp hx with rfl | hx; · rfl)); exact nomatch hx) (binds := [("steps", v1), ("block", v2), ("rows", v3)]) (G := [("steps", .dat (stepsD l)), ("block", .dat (.int block)), ("rows", .dat (rowsD rows))]) G.lim fo rm hS (fun _ _ _ _ _ => rfl)
    (fun L a cd => vars_cons (.inl ⟨rfl, rfl⟩) r1 (vars_cons (.inl ⟨rfl, rfl⟩) r2 (vars_cons (.inl ⟨rfl, rfl⟩) r3 vars_nil))) ?_
  intro L a cd h₁ tk1 A' E' rm' F
  have F0 : Frm _ _ _ _ _ [(L + 1, isCell none)] _ := F
  clear F
  walk_at "tk"
  refine Assign_Tuple ?_
  repeat walk_at "tk"
  refine compA (cl := _) (by with_unfolding_all rfl) ?_
  repeat walk_at "tk"
  rename_i v₂ hv₂
  refine compB (xs := l) (enc := stepD) (fun _ => true) (fun x => .int (max 1 x.1)) [] rm'.hh F0 (IterOf.list hv₂) (Nat.le_trans hlen (by decide)) cap_nil ?_ ?_
  · intro C i x S' mu' h tk E'' hxi sb F'
    refine test0 ?_
    rw [if_pos rfl]
    refine ⟨rfl, ?_⟩
    have G0 := G.keeps F0.base
    refine bcallE F' G0.g G0.b (G0.ng _ (by decide)) G0.b_max ?_
    repeat walk_at "tk"
    rename_i v₃ hv₃
    refine tupItem F' hv₃ (by decide) (by decide) rfl fun u hu => ?_
    obtain ⟨t, rfl⟩ := rep_int.mp hu
    repeat walk_at "tk"
    refine maxE rm'.hh fun h₄ tk₄ t₄ kp₄ => ?_
    exact ⟨_, _, S', rfl, Sb.refl _, repI _ _ _, F'.keep kp₄⟩
  · intro u₅ h₅ tk₅ S5 sb5 kp5 F5 hr5
    rw [filter_all] at hr5
    have hsz : (l.map fun x => PyData.int (max 1 x.1)) = (l.map sizeOf1).map .int := by
      rw [List.map_map]
      refine List.map_congr_left fun x hx => ?_
      obtain ⟨m, hm⟩ := hok.step hx
      rw [Function.comp, hm.size.1]
    rw [hsz] at hr5
    repeat walk_at "tk"
    refine bcallE F5 G.g G.b (G.ng _ (by decide)) G.b_len ?_
    repeat walk_at "tk"
    rename_i v₆ hv₆
    refine lenE F5 hv₆ (by rw [List.length_map]; omega) fun t₆ tk₆ => ?_
    rw [List.length_map]
    repeat walk_at "tk"
    refine listM F5 fun aB h₇ F7 => ?_
    repeat walk_at "tk"
    refine tupTmp F7 fun at₁ h₈ kp8 F8 ht => ?_
    refine asgTup rm'.hh ht fun h₉ kp9 => ?_
    have F9 := F8.keep kp9
    repeat walk_at "tk"
    rename Frm _ _ _ _ _ _ _ => F10
    refine stCell (.dat (.int l.length)) F10.swap (repI S5 _ _) fun h₁₁ S11 sb11 F11 => ?_
    repeat walk_at "tk"
    rename Frm _ _ _ _ _ _ _ => F12
    rename_i v₁₃ hv₁₃
    have F13 : Frm _ _ _ _ (rightG aB 0 l block rows) _ _ := F12.weak (by unfold rightG; walk_at "tk weak")
    refine forE (xs := rows) (enc := stepsD) rm'.hh (IterOf.list hv₁₃) F13 (RightJ aB l block rows) ⟨[], rfl, rfl, RepL.nil _⟩ ?_ ?_
    · intro i row S' G' mu' p h tk u E'' hx hJ sb F' hu
      obtain ⟨bvs, rfl, rfl, hbv⟩ := hJ
      have hil : i < rows.length := by
        rcases Nat.lt_or_ge i rows.length with z | z
        · exact z
        · rw [List.getElem?_eq_none z] at hx; cases hx
      have hrow := List.mem_of_getElem? hx
      have hstart : startOf rows (i + 1) = startOf rows i + row.length := by unfold startOf; rw [flat_snoc hx, List.length_append]
      have hend : startOf rows (i + 1) ≤ l.length := by
        rw [← hR.flat]; exact startOf_le rows _
      have hfd := flat_drop hx
      rw [hR.flat] at hfd
      have hrne := hR.ne row hrow
      have hrpos : 0 < row.length := List.length_pos_iff.mpr hrne
      have hrlen : row.length ≤ 20 := by omega
      have F1 : Frm _ _ _ _ ([("begins", .val (.ref aB)), ("at", .dat (.int (startOf rows i))), ("sizes", .dat (intsD (l.map sizeOf1))), ("many", .dat (.int l.length)), ("steps", .dat (stepsD l)), ("block", .dat (.int block)), ("rows", .dat (rowsD rows))] : Vars) ((aB, isL bvs) :: [p]) _ := F'
      generalize hst : startOf rows i = st at *
      repeat walk_at "tk"
      rename Frm _ _ _ _ _ _ _ => F2
      have hsum : (((l.map sizeOf1).drop st).take (st + row.length - st)).sum = sizeOf row := by
        rw [show st + row.length - st = row.length by omega, ← List.map_drop, ← List.map_take, hfd]; rfl
      have hcast : (st : Int) + (row.length : Int) = ((st + row.length : Nat) : Int) := by push_cast; rfl
      refine bcallE F2 G.g G.b (G.ng _ (by decide)) G.b_sum ?_
      repeat walk_at "tk"
      refine bcallE F2 G.g G.b (G.ng _ (by decide)) G.b_len ?_
      repeat walk_at "tk"
      rename_i v₁₄ hv₁₄ _ _ v₁₅ hv₁₅
      refine lenE F2 hv₁₅ (by rw [List.length_map]; omega) fun t₁₅ tk₁₅ => ?_
      rw [List.length_map]
      repeat walk_at "tk"
      rw [hcast]
      refine sliceTail (hs := by first | exact .inl (fun _ _ => rfl) | exact .inr (fun _ _ => rfl)) F2 hv₁₄ (by rw [List.length_map, List.length_map]; exact Nat.le_trans hlen (by decide)) (.int _ _) (.int _ _) .none (by decide) (pickRun (by rw [List.length_map, List.length_map]; omega) (by rw [List.length_map, List.length_map]; omega)) fun u₃ h₃ S3 sb3 kp3 F3 hr3 => ?_
      rw [← List.map_drop, ← List.map_take] at hr3
      repeat walk_at "tk"
      refine sumE rm'.hh F3.sub hr3 fun t₄ h₄ tk₄ kp₄ => ?_
      rw [hsum]
      have F4 := F3.keep kp₄
      repeat walk_at "tk"
      rename Frm _ _ _ _ _ _ _ => F5
      rename_i v₁₆ hv₁₆
      refine listE F5 (ds := []) (RepL.nil _) fun a₆ h₆ S6 sb6 kp6 F6 hr6 => ?_
      refine eqE (x := row) (y := []) cmp_steps rm' (by decide) F6.sub (hv₁₆.mono sb6) hr6 ?_
      rw [show decide (row = []) = false from decide_eq_false hrne]
      repeat walk_at "tk"
      rename_i v₁₇ hv₁₇ v₁₈ hv₁₈ _ _
      refine bcallE F6 G.g G.b (G.ng _ (by decide)) G.b_len ?_
      repeat walk_at "tk"
      rename_i v₁₉ hv₁₉
      refine lenE F6 hv₁₉ (by rw [List.length_map]; omega) fun t₁₉ tk₁₉ => ?_
      rw [List.length_map]
      repeat walk_at "tk"
      rw [hcast]
      refine sliceTail (hs := by first | exact .inl (fun _ _ => rfl) | exact .inr (fun _ _ => rfl)) F6 hv₁₈ (by rw [List.length_map]; exact Nat.le_trans hlen (by decide)) (.int _ _) (.int _ _) .none (by decide) (pickRun (by rw [List.length_map]; omega) (by rw [List.length_map]; omega)) fun u₇ h₇ S7 sb7 kp7 F7 hr7 => ?_
      rw [← List.map_drop, ← List.map_take, show st + row.length - st = row.length by omega, hfd] at hr7
      refine neE (x := row) (y := row) cmp_steps rm' (by decide) F7.sub (hv₁₇.mono sb7) hr7 ?_
      rw [show (!decide (row = row)) = false by simp]
      repeat walk_at "tk"
      obtain ⟨fz, hfz, foz⟩ := G.fn 8 (by decide)
      refine callE F7 G.g hfz foz ?_
      repeat walk_at "tk"
      rename_i v₂₀ hv₂₀
      refine ⟨F7.base, size_of_spec (n := n) (G.keeps F7.base) (foz.keeps F7.base) rm' F7.sub hv₂₀ (Nat.le_trans hrlen (by decide)) fun t₂₁ h₂₁ tk₂₁ kp₂₁ => ?_⟩
      have F21 := F7.keep kp₂₁
      repeat walk_at "tk"
      rw [show (sizeOf row != sizeOf row) = false by simp]
      repeat walk_at "tk"
      refine ⟨aB, _, rfl, F21.plain (.head _), ?_⟩
      repeat walk_at "tk"
      have hbl : bvs.length = i := by have := hbv.length; rwa [List.length_map, List.length_range] at this
      refine appM F21 (Nat.le_trans (by omega : bvs.length ≤ 30) (by decide)) fun h₂₂ F22 => ?_
      repeat walk_at "tk"
      refine bcallE F22 G.g G.b (G.ng _ (by decide)) G.b_len ?_
      repeat walk_at "tk"
      rename_i v₂₃ hv₂₃
      refine lenE F22 hv₂₃ (by rw [List.length_map]; omega) fun t₂₃ tk₂₃ => ?_
      rw [List.length_map]
      repeat walk_at "tk"
      rw [hcast]
      repeat walk_at "tk"
      rename Frm _ _ _ _ _ _ _ => F24
      obtain ⟨x, hxl, hlx⟩ : ∃ x, row.getLast? = some x ∧ l[st + row.length - 1]? = some x := by
        refine ⟨row.getLast hrne, List.getLast?_eq_some_getLast hrne, ?_⟩
        have h1 : row[row.length - 1]? = some (row.getLast hrne) := by rw [← List.getLast?_eq_getElem?, List.getLast?_eq_some_getLast hrne]
        have h2 : ((l.drop st).take row.length)[row.length - 1]? = some (row.getLast hrne) := by rw [hfd]; exact h1
        rw [List.getElem?_take_of_lt (by omega), List.getElem?_drop] at h2
        rwa [show st + row.length - 1 = st + (row.length - 1) by omega]
      have hshort := hR.short row hrow x hxl
      refine split_bool (fun hc => ?_) (fun hc => ?_)
      · have hfu := hR.full i row hx (by rw [hstart]; have := of_decide_eq_true hc; omega)
        repeat walk_at "tk"
        rw [show decide (sizeOf row < block) = false from decide_eq_false (by omega)]
        repeat walk_at "tk"
        rename_i v₂₅ hv₂₅ _
        refine listItem F24 hv₂₅ (by omega) (by omega) (d := .int (sizeOf1 x)) (by
          rw [show ((st : Int) + (row.length : Int) - 1).toNat = st + row.length - 1 by omega, List.getElem?_map, List.getElem?_map, hlx]; rfl) fun u₂₅ hu₂₅ => ?_
        obtain ⟨t25, rfl⟩ := rep_int.mp hu₂₅
        repeat walk_at "tk"
        rw [show decide (sizeOf row - sizeOf1 x ≥ block) = false from decide_eq_false (by omega)]
        repeat walk_at "tk"
        refine ⟨S7, _, [(aB, isL (bvs ++ [.int st _]))], _, _, rfl, sb.trans (sb3.trans (sb6.trans sb7)), ⟨_, rfl, rfl, ?_⟩, F24.weak ?_⟩
        · rw [List.range_succ, List.map_append]
          exact (hbv.mono (sb3.trans (sb6.trans sb7))).snoc (by show Rep _ (natD (startOf rows i)) _; rw [hst]; exact repI _ _ _)
        · rw [hstart]; unfold rightG; walk_at "tk weak"
      · repeat walk_at "tk"
        rename_i v₂₅ hv₂₅ _
        refine listItem F24 hv₂₅ (by omega) (by omega) (d := .int (sizeOf1 x)) (by
          rw [show ((st : Int) + (row.length : Int) - 1).toNat = st + row.length - 1 by omega, List.getElem?_map, List.getElem?_map, hlx]; rfl) fun u₂₅ hu₂₅ => ?_
        obtain ⟨t25, rfl⟩ := rep_int.mp hu₂₅
        repeat walk_at "tk"
        rw [show decide (sizeOf row - sizeOf1 x ≥ block) = false from decide_eq_false (by omega)]
        repeat walk_at "tk"
        refine ⟨S7, _, [(aB, isL (bvs ++ [.int st _]))], _, _, rfl, sb.trans (sb3.trans (sb6.trans sb7)), ⟨_, rfl, rfl, ?_⟩, F24.weak ?_⟩
        · rw [List.range_succ, List.map_append]
          exact (hbv.mono (sb3.trans (sb6.trans sb7))).snoc (by show Rep _ (natD (startOf rows i)) _; rw [hst]; exact repI _ _ _)
        · rw [hstart]; unfold rightG; walk_at "tk weak"
    · intro S' G' mu' h tk hJ sb F'
      obtain ⟨bvs, rfl, rfl, hbv⟩ := hJ
      have hat : startOf rows rows.length = l.length := by unfold startOf; rw [List.take_length, hR.flat]
      rw [hat] at F'
      obtain ⟨S1, sb1, hrB, F1⟩ := F'.rest hbv
      have hrB : Rep S1 (natsD (startsOf rows)) (.ref aB) := by unfold natsD startsOf; rw [List.map_map]; exact hrB
      have F1 : Frm _ _ _ _ ([("begins", .val (.ref aB)), ("at", .dat (.int l.length)), ("sizes", .dat (intsD (l.map sizeOf1))), ("many", .dat (.int l.length)), ("steps", .dat (stepsD l)), ("block", .dat (.int block)), ("rows", .dat (rowsD rows))] : Vars) [] _ := F1
      obtain ⟨fe, hfe, foe⟩ := G.fn 19 (by decide)
      have hlz : (l.map sizeOf1).length ≤ 50 := by rw [List.length_map]; omega
      repeat walk_at "tk"
      refine asgSwap rm'.hh ?_ rfl
      repeat walk_at "tk"
      refine callE F1 G.g hfe foe ?_
      repeat walk_at "tk"
      rename_i v₃₁ hv₃₁ _
      refine ⟨F1.base, ends_spec (n := n) (full := true) (G.keeps F1.base) (foe.keeps F1.base) rm' F1.sub hv₃₁ (repI _ _ _) (repB _ _) hlz fun v₃₂ h₃₂ tk₃₂ S32 K1 ret32 hr32 hne32 hz32 hK32 => ?_⟩
      have F32 := F1.ret ret32
      repeat walk_at "tk"
      refine callE F32 G.g hfe foe ?_
      repeat walk_at "tk"
      rename_i v₃₃ hv₃₃ _
      refine ⟨F32.base, ends_spec (n := n) (full := false) (G.keeps F32.base) (foe.keeps F32.base) rm' F32.sub hv₃₃ (repI _ _ _) (repB _ _) hlz fun v₃₄ h₃₄ tk₃₄ S34 K2 ret34 hr34 hne34 hz34 hK34 => ?_⟩
      have F34 := F32.ret ret34
      repeat walk_at "tk"
      refine tupTmp F34 fun at₂ h₃₅ kp35 F35 ht35 => ⟨at₂, _, rfl, ht35, rfl, fun h₃₆ kp36 => ?_⟩
      have F36 := F35.keep kp36
      dsimp only [List.reverse, List.reverseAux, List.map]
      have hr32 := hr32.mono ret34.sb
      repeat walk_at "tk"
      rename Frm _ _ _ _ _ _ _ => F37
      rw [show (((l.length : Nat) : Int) != l.length) = false by simp]
      repeat walk_at "tk"
      refine compA (cl := _) (by with_unfolding_all rfl) ?_
      repeat walk_at "tk"
      rename_i v₃₈ hv₃₈
      refine compB (xs := (List.range (K1 + 1)).map (endsSeq (l.map sizeOf1) block true)) (enc := natsD) (keepE l.length headN) (fun e => natD (headN e)) [("many", .dat (.int l.length))] rm'.hh F37 (IterOf.list hv₃₈) (by rw [List.length_map, List.length_range]; exact Nat.le_trans (by omega : K1 + 1 ≤ 61) (by decide)) (cap_cons F37 rfl rfl rfl rfl cap_nil) ?_ ?_
      · intro C i e S' mu' h tk E'' hxi sb F'
        have hle : e.length ≤ 60 := by
          obtain ⟨q, _, rfl⟩ := List.mem_map.mp (List.mem_of_getElem? hxi)
          have := endsSeq_len (sizes := l.map sizeOf1) (block := block) (full := true) q
          omega
        refine test1 ?_
        repeat walk_at "tk"
        rename_i v₄₀ hv₄₀
        refine listE F' (ds := []) (RepL.nil _) fun a₄₁ h₄₁ S41 sb41 kp41 F41 hr41 => ?_
        refine neE (x := e) (y := []) cmp_nats rm' (by decide) F41.sub (hv₄₀.mono sb41) hr41 ?_
        repeat walk_at "tk"
        refine split_bool (fun hd => ?_) (fun hd => ?_)
        · have hene : e ≠ [] := by simpa using hd
          obtain ⟨e0, er, rfl⟩ : ∃ e0 er, e = e0 :: er := by cases e with
            | nil => exact absurd rfl hene
            | cons a r => exact ⟨a, r, rfl⟩
          repeat walk_at "tk"
          rename_i v₄₂ hv₄₂
          refine listItem F41 hv₄₂ (by decide) (by decide) (d := natD e0) rfl fun u₄₂ hu₄₂ => ?_
          obtain ⟨t42, rfl⟩ := rep_int.mp hu₄₂
          repeat walk_at "tk"
          refine split_bool (fun hf => ?_) (fun hf => ?_)
          · repeat walk_at "tk"
            refine ⟨by unfold keepE headN; rw [decide_eq_true hene]; have := of_decide_eq_true hf; simp; omega, ?_⟩
            repeat walk_at "tk"
            rename_i v₄₃ hv₄₃
            refine listItem F41 hv₄₃ (by decide) (by decide) (d := natD e0) rfl fun u₄₄ hu₄₄ => ?_
            exact ⟨_, _, S41, rfl, sb41, hu₄₄, F41⟩
          · repeat walk_at "tk"
            exact ⟨by unfold keepE headN; rw [decide_eq_true hene]; have := of_decide_eq_false hf; simp; omega, _, _, S41, rfl, sb41, F41⟩
        · repeat walk_at "tk"
          exact ⟨by unfold keepE; rw [decide_eq_false (by simpa using hd)]; rfl, _, _, S41, rfl, sb41, F41⟩
      · intro u₄₅ h₄₅ tk₄₅ S45 sb45 kp45 F45 hr45
        have hr45 : Rep S45 (natsD (startsOf rows)) u₄₅ := by
          rw [← hR.begins K1 hne32 hz32]; unfold natsD; rw [List.map_map]; exact hr45
        have hBB := hrB.mono (ret32.sb.trans (ret34.sb.trans sb45))
        refine neE (x := startsOf rows) (y := startsOf rows) cmp_nats rm' (by decide) F45.sub hBB hr45 ?_
        rw [show (!decide (startsOf rows = startsOf rows)) = false by simp]
        repeat walk_at "tk"
        refine compA (cl := _) (by with_unfolding_all rfl) ?_
        repeat walk_at "tk"
        rename_i v₄₆ hv₄₆
        refine compB (xs := (List.range (K2 + 1)).map (endsSeq (l.map sizeOf1) block false)) (enc := natsD) (keepE l.length lastN) (fun e => natD (lastN e)) [("many", .dat (.int l.length))] rm'.hh F45 (IterOf.list hv₄₆) (by rw [List.length_map, List.length_range]; exact Nat.le_trans (by omega : K2 + 1 ≤ 61) (by decide)) (cap_cons F45 rfl rfl rfl rfl cap_nil) ?_ ?_
        · intro C i e S' mu' h tk E'' hxi sb F'
          have hle : e.length ≤ 60 := by
            obtain ⟨q, _, rfl⟩ := List.mem_map.mp (List.mem_of_getElem? hxi)
            have := endsSeq_len (sizes := l.map sizeOf1) (block := block) (full := false) q
            omega
          refine test1 ?_
          repeat walk_at "tk"
          rename_i v₄₀ hv₄₀
          refine listE F' (ds := []) (RepL.nil _) fun a₄₁ h₄₁ S41 sb41 kp41 F41 hr41 => ?_
          refine neE (x := e) (y := []) cmp_nats rm' (by decide) F41.sub (hv₄₀.mono sb41) hr41 ?_
          repeat walk_at "tk"
          refine split_bool (fun hd => ?_) (fun hd => ?_)
          · have hene : e ≠ [] := by simpa using hd
            have hlast : (e.map natD).getLast? = some (natD (lastN e)) := by
              unfold lastN
              rw [List.getLast?_map, List.getLastD_eq_getLast?, List.getLast?_eq_some_getLast hene]; rfl
            repeat walk_at "tk"
            rename_i v₄₂ hv₄₂
            refine lastD F41 hv₄₂ hlast (by rw [List.length_map]; omega) fun u₄₂ hu₄₂ => ?_
            obtain ⟨t42, rfl⟩ := rep_int.mp hu₄₂
            repeat walk_at "tk"
            refine split_bool (fun hf => ?_) (fun hf => ?_)
            · repeat walk_at "tk"
              refine ⟨by unfold keepE; rw [decide_eq_true hene]; have := of_decide_eq_true hf; simp; omega, ?_⟩
              repeat walk_at "tk"
              rename_i v₄₃ hv₄₃
              refine lastD F41 hv₄₃ hlast (by rw [List.length_map]; omega) fun u₄₄ hu₄₄ => ?_
              exact ⟨_, _, S41, rfl, sb41, hu₄₄, F41⟩
            · repeat walk_at "tk"
              exact ⟨by unfold keepE; rw [decide_eq_true hene]; have := of_decide_eq_false hf; simp; omega, _, _, S41, rfl, sb41, F41⟩
          · repeat walk_at "tk"
            exact ⟨by unfold keepE; rw [decide_eq_false (by simpa using hd)]; rfl, _, _, S41, rfl, sb41, F41⟩
        · intro u₄₇ h₄₇ tk₄₇ S47 sb47 kp47 F47 hr47
          have hr47 : Rep S47 (natsD (startsOf rows)) u₄₇ := by
            rw [← hR.ends K2 hne34 hz34]; unfold natsD; rw [List.map_map]; exact hr47
          refine eqE (x := startsOf rows) (y := startsOf rows) cmp_nats rm' (by decide) F47.sub (hBB.mono sb47) hr47 ?_
          rw [show decide (startsOf rows = startsOf rows) = true by simp]
          exact k _ _ F47.base
end
/-! the plain law: what the rows of splitRows are -/
structure StOK (block : Int) (l : List Step) (d : List (List Step) × List Step × Int) : Prop where
  size : d.2.2 = sizeOf d.2.1
  rows : ∀ r ∈ d.1, r ≠ [] ∧ block ≤ sizeOf r ∧ ∀ x, r.getLast? = some x → sizeOf r - sizeOf1 x < block
  cur : l ≠ [] → d.2.1 ≠ []
  last : ∀ x, d.2.1.getLast? = some x → sizeOf d.2.1 - sizeOf1 x < block
theorem list_snoc_ind {α : Type} {P : List α → Prop} (h0 : P []) (h1 : ∀ l x, P l → P (l ++ [x])) : ∀ l, P l := fun l => by
  have : ∀ l : List α, P l.reverse := fun l => by
    induction l with
    | nil => exact h0
    | cons x l ih => rw [List.reverse_cons]; exact h1 _ _ ih
  have := this l.reverse
  rwa [List.reverse_reverse] at this
theorem splitSt_ok {block : Int} (hb : 1 ≤ block) : ∀ l : List Step, StOK block l (splitSt block l) := by
  refine list_snoc_ind ?_ ?_
  · exact ⟨rfl, fun r hr => by simp [splitSt] at hr, fun h => absurd rfl h, fun x hx => by simp [splitSt] at hx⟩
  · intro l x ih
    rw [splitSt_snoc]
    generalize splitSt block l = d at *
    unfold splitF
    split
    · rename_i hc
      refine ⟨by simp [sizeOf], fun r hr => ?_, fun _ => by simp, fun y hy => ?_⟩
      · rcases List.mem_append.mp hr with hr | hr
        · exact ih.rows r hr
        · rw [List.mem_singleton.mp hr]
          refine ⟨fun e => ?_, by rw [← ih.size]; exact hc, ih.last⟩
          have := ih.size
          rw [e, sizeOf_nil] at this
          omega
      · have : y = x := by simpa using hy.symm
        subst this
        simp [sizeOf]; omega
    · rename_i hc
      refine ⟨by show d.2.2 + sizeOf1 x = sizeOf (d.2.1 ++ [x]); rw [sizeOf_snoc, ih.size], ih.rows, fun _ => by simp, fun y hy => ?_⟩
      have : y = x := by simpa using hy.symm
      subst this
      show sizeOf (d.2.1 ++ [y]) - sizeOf1 y < block
      rw [sizeOf_snoc, ← ih.size]; omega
theorem rows_ne {block : Int} (hb : 1 ≤ block) {l : List Step} (hl : l ≠ []) : ∀ r ∈ splitRows block l, r ≠ [] := fun r hr => by
  have h := splitSt_ok hb l
  rcases List.mem_append.mp hr with hr | hr
  · exact (h.rows r hr).1
  · rw [List.mem_singleton.mp hr]; exact h.cur hl
theorem rows_short {block : Int} (hb : 1 ≤ block) {l : List Step} : ∀ r ∈ splitRows block l, ∀ x, r.getLast? = some x → sizeOf r - sizeOf1 x < block := fun r hr => by
  have h := splitSt_ok hb l
  rcases List.mem_append.mp hr with hr | hr
  · exact (h.rows r hr).2.2
  · rw [List.mem_singleton.mp hr]; exact h.last
theorem rows_full {block : Int} (hb : 1 ≤ block) {l : List Step} : ∀ i r, (splitRows block l)[i]? = some r → i + 1 < (splitRows block l).length → block ≤ sizeOf r := fun i r hr hi => by
  have h := splitSt_ok hb l
  unfold splitRows at hr hi
  rw [List.length_append, List.length_singleton] at hi
  rw [List.getElem?_append_left (by omega)] at hr
  exact (h.rows r (List.mem_of_getElem? hr)).2.1

/-! sums of runs -/
noncomputable def pre (z : List Int) (i : Nat) : Int := (z.take i).sum
theorem pre_succ {z : List Int} {i : Nat} {x : Int} (h : z[i]? = some x) : pre z (i + 1) = pre z i + x := by
  unfold pre; rw [take_snoc h, List.sum_append]; simp
theorem wholeOf_pre {z : List Int} {b e : Nat} (h : b ≤ e) : wholeOf z b e = pre z e - pre z b := by
  have : pre z e = pre z b + wholeOf z b e := by
    unfold pre wholeOf
    have e1 : z.take e = z.take b ++ (z.drop b).take (e - b) := by
      rw [← List.take_add, show b + (e - b) = e by omega]
    rw [e1, List.sum_append]
  omega
noncomputable def AllPos (z : List Int) : Prop := ∀ x ∈ z, 1 ≤ x
theorem pre_mono {z : List Int} (hz : AllPos z) {a b : Nat} (h : a ≤ b) : pre z a ≤ pre z b := by
  induction b with
  | zero => rw [show a = 0 by omega]; exact Int.le_refl _
  | succ b ih =>
    rcases Nat.lt_or_ge b a with h1 | h1
    · rw [show a = b + 1 by omega]; exact Int.le_refl _
    · cases hx : z[b]? with
      | none =>
        have : pre z (b + 1) = pre z b := by unfold pre; rw [List.take_add_one, hx]; simp
        rw [this]; exact ih h1
      | some x =>
        rw [pre_succ hx]
        have := hz x (List.mem_of_getElem? hx)
        have := ih h1
        omega
theorem reach_full {z : List Int} {block : Int} {e b : Nat} : reachB z block true e b = true ↔ b < e ∧ block ≤ pre z e - pre z b := by
  unfold reachB
  simp only [if_true, Bool.and_eq_true, decide_eq_true_eq]
  constructor
  · rintro ⟨h1, h2⟩; rw [wholeOf_pre (by omega)] at h2; exact ⟨h1, h2⟩
  · rintro ⟨h1, h2⟩; rw [wholeOf_pre (by omega)]; exact ⟨h1, h2⟩
theorem reach_short {z : List Int} {block : Int} {e b : Nat} (he : 1 ≤ e) (hn : e ≤ z.length) : reachB z block false e b = true ↔ b < e ∧ pre z (e - 1) - pre z b < block := by
  have hx : z[e - 1]? = some (z.getD (e - 1) 0) := by
    rw [List.getD_eq_getElem?_getD, List.getElem?_eq_getElem (by omega : e - 1 < z.length)]; rfl
  have hp := pre_succ hx
  rw [show e - 1 + 1 = e by omega] at hp
  unfold reachB
  simp only [Bool.false_eq_true, if_false, Bool.and_eq_true, decide_eq_true_eq]
  constructor
  · rintro ⟨h1, h2⟩; rw [wholeOf_pre (by omega)] at h2; exact ⟨h1, by omega⟩
  · rintro ⟨h1, h2⟩; rw [wholeOf_pre (by omega)]; exact ⟨h1, by omega⟩
theorem mem_next {z : List Int} {block : Int} {full : Bool} {l : List Nat} {e : Nat} : e ∈ nextEnds z block full l ↔ 1 ≤ e ∧ e ≤ z.length ∧ ∃ b ∈ l, reachB z block full e b = true := by
  rw [mem_nextEnds]
  unfold reachF
  rw [List.any_eq_true]

/-- rows as places in the sizes -/
structure Cuts (z : List Int) (block : Int) (s : Nat → Nat) (m : Nat) : Prop where
  zero : s 0 = 0
  pos : 0 < m
  up : ∀ k < m, s k < s (k + 1)
  top : ∀ k, m ≤ k → s k = z.length
  full : ∀ k < m, s (k + 1) < z.length → block ≤ pre z (s (k + 1)) - pre z (s k)
  short : ∀ k < m, pre z (s (k + 1) - 1) - pre z (s k) < block
section
variable {z : List Int} {block : Int} {s : Nat → Nat} {m : Nat}
theorem Cuts.le (C : Cuts z block s m) (k : Nat) : s k ≤ z.length := by
  rcases Nat.lt_or_ge k m with h | h
  · have : ∀ j, k + j ≤ m → s k ≤ s (k + j) := by
      intro j
      induction j with
      | zero => intro _; exact Nat.le_refl _
      | succ j ih => intro hj; have := C.up (k + j) (by omega); have := ih (by omega); rw [← Nat.add_assoc]; omega
    have := this (m - k) (by omega)
    rw [show k + (m - k) = m by omega, C.top m (Nat.le_refl _)] at this
    exact this
  · exact Nat.le_of_eq (C.top k h)
theorem Cuts.lt (C : Cuts z block s m) {k : Nat} (h : k < m) : s k < z.length := Nat.lt_of_lt_of_le (C.up k h) (C.le (k + 1))
theorem Cuts.ge (C : Cuts z block s m) : ∀ k, k ≤ m → k ≤ s k := by
  intro k
  induction k with
  | zero => intro _; omega
  | succ k ih => intro h; have := C.up k (by omega); have := ih (by omega); omega
theorem Cuts.fullI (C : Cuts z block s m) (hz : AllPos z) : ∀ k, (∀ e ∈ endsSeq z block true k, s k ≤ e ∧ e ≤ z.length) ∧ (k < m → s k ∈ endsSeq z block true k) := by
  intro k
  induction k with
  | zero => exact ⟨fun e he => by simp [endsSeq] at he; rw [he, C.zero]; omega, fun _ => by simp [endsSeq, C.zero]⟩
  | succ k ih =>
    refine ⟨fun e he => ?_, fun hk => ?_⟩
    · obtain ⟨h1, h2, b, hb, hr⟩ := mem_next.mp he
      obtain ⟨h3, h4⟩ := reach_full.mp hr
      have hb1 := (ih.1 b hb).1
      have hkm : k < m := by
        rcases Nat.lt_or_ge k m with h | h
        · exact h
        · have := C.top k h; omega
      refine ⟨?_, h2⟩
      rcases Nat.lt_or_ge e (s (k + 1)) with h | h
      · have a1 := pre_mono hz (show e ≤ s (k + 1) - 1 by omega)
        have a2 := pre_mono hz hb1
        have a3 := C.short k hkm
        omega
      · exact h
    · refine mem_next.mpr ⟨by have := C.up k (by omega); omega, C.le _, s k, ih.2 (by omega), reach_full.mpr ⟨C.up k (by omega), C.full k (by omega) (C.lt hk)⟩⟩
theorem Cuts.shortI (C : Cuts z block s m) (hz : AllPos z) (hb : 1 ≤ block) : ∀ k e, e ∈ endsSeq z block false k ↔ k ≤ e ∧ e ≤ s k := by
  intro k
  induction k with
  | zero => intro e; rw [C.zero]; simp [endsSeq]
  | succ k ih =>
    intro e
    show e ∈ nextEnds z block false (endsSeq z block false k) ↔ _
    rw [mem_next]
    constructor
    · rintro ⟨h1, h2, b, hbm, hr⟩
      obtain ⟨h3, h4⟩ := (reach_short h1 h2).mp hr
      obtain ⟨h5, h6⟩ := (ih b).mp hbm
      refine ⟨by omega, ?_⟩
      rcases Nat.lt_or_ge k m with h | h
      · rcases Nat.lt_or_ge (s (k + 1)) e with h7 | h7
        · have a1 := C.full k h (by omega)
          have a2 := pre_mono hz (show s (k + 1) ≤ e - 1 by omega)
          have a3 := pre_mono hz h6
          omega
        · exact h7
      · rw [C.top (k + 1) (by omega)]; exact h2
    · rintro ⟨h1, h2⟩
      have h3 := C.le (k + 1)
      refine ⟨by omega, by omega, ?_⟩
      rcases Nat.lt_or_ge (s k) (e - 1) with h | h
      · have hkm : k < m := by
          rcases Nat.lt_or_ge k m with h' | h'
          · exact h'
          · have := C.top k h'; omega
        refine ⟨s k, (ih _).mpr ⟨C.ge k (by omega), Nat.le_refl _⟩, (reach_short (by omega) (by omega)).mpr ⟨by omega, ?_⟩⟩
        have a1 := pre_mono hz (show e - 1 ≤ s (k + 1) - 1 by omega)
        have a2 := C.short k hkm
        omega
      · exact ⟨e - 1, (ih _).mpr ⟨by omega, h⟩, (reach_short (by omega) (by omega)).mpr ⟨by omega, by omega⟩⟩
end
theorem endsSeq_sorted (z : List Int) (block : Int) (full : Bool) (k : Nat) : (endsSeq z block full k).Pairwise (· < ·) := by
  cases k with
  | zero => simp [endsSeq]
  | succ k =>
    show (nextEnds z block full _).Pairwise _
    unfold nextEnds
    rw [List.pairwise_map]
    refine List.Pairwise.imp (R := (· < ·)) (fun h => Nat.add_lt_add_right h 1) ?_
    exact List.Pairwise.filter _ List.pairwise_lt_range
theorem head_min {e : List Nat} {x : Nat} (hs : e.Pairwise (· < ·)) (hx : x ∈ e) (hm : ∀ y ∈ e, x ≤ y) : headN e = x := by
  cases e with
  | nil => cases hx
  | cons a r =>
    show a = x
    rcases List.mem_cons.mp hx with h | h
    · exact h.symm
    · have h1 := (List.pairwise_cons.mp hs).1 x h
      have h2 := hm a (.head _)
      omega
theorem last_max {e : List Nat} {x : Nat} (hs : e.Pairwise (· < ·)) (hx : x ∈ e) (hm : ∀ y ∈ e, y ≤ x) : lastN e = x := by
  have hne : e ≠ [] := List.ne_nil_of_mem hx
  unfold lastN
  rw [List.getLastD_eq_getLast?, List.getLast?_eq_some_getLast hne]
  show e.getLast hne = x
  have h1 := hm _ (List.getLast_mem hne)
  have e1 : e = e.dropLast ++ [e.getLast hne] := (List.dropLast_concat_getLast hne).symm
  rcases Nat.lt_or_ge (e.getLast hne) x with h | h
  · rw [e1] at hx hs
    rcases List.mem_append.mp hx with h2 | h2
    · have := (List.pairwise_append.mp hs).2.2 x h2 (e.getLast hne) (by simp)
      omega
    · rw [List.mem_singleton.mp h2]
  · omega
theorem filter_range {m : Nat} : ∀ {N : Nat}, m ≤ N → (List.range N).filter (fun k => decide (k < m)) = List.range m := by
  intro N
  induction N with
  | zero => intro h; rw [show m = 0 by omega]; rfl
  | succ N ih =>
    intro h
    rw [List.range_succ, List.filter_append]
    rcases Nat.lt_or_ge N m with h1 | h1
    · have hm : m = N + 1 := by omega
      subst hm
      rw [List.range_succ]
      have : (List.range N).filter (fun k => decide (k < N + 1)) = List.range N := List.filter_eq_self.mpr fun k hk => by have := List.mem_range.mp hk; simp; omega
      rw [this]
      simp
    · rw [ih h1]
      simp; omega
theorem pick_all {z : List Int} {block : Int} {full : Bool} {s : Nat → Nat} {m K : Nat} {pick : List Nat → Nat} (hK : m ≤ K)
    (h1 : ∀ k < m, endsSeq z block full k ≠ [] ∧ pick (endsSeq z block full k) = s k ∧ s k < z.length) (h2 : ∀ k, m ≤ k → endsSeq z block full k = [] ∨ z.length ≤ pick (endsSeq z block full k)) :
    (((List.range (K + 1)).map (endsSeq z block full)).filter (keepE z.length pick)).map pick = (List.range m).map s := by
  rw [List.filter_map, List.map_map]
  have hf : (List.range (K + 1)).filter (keepE z.length pick ∘ endsSeq z block full) = List.range m := by
    rw [← filter_range (show m ≤ K + 1 by omega)]
    refine List.filter_congr fun k hk => ?_
    show keepE z.length pick (endsSeq z block full k) = decide (k < m)
    unfold keepE
    rcases Nat.lt_or_ge k m with h | h
    · obtain ⟨a1, a2, a3⟩ := h1 k h
      rw [a2]; simp [a1, a3, h]
    · rw [decide_eq_false (by omega : ¬ k < m)]
      rcases h2 k h with a | a
      · simp [a]
      · rw [decide_eq_false (by omega : ¬ pick (endsSeq z block full k) < z.length), Bool.and_false]
  rw [hf]
  refine List.map_congr_left fun k hk => ?_
  exact (h1 k (List.mem_range.mp hk)).2.1
section
variable {z : List Int} {block : Int} {s : Nat → Nat} {m : Nat}
theorem Cuts.begins (C : Cuts z block s m) (hz : AllPos z) {K : Nat} (hK : endsSeq z block true K = []) :
    (((List.range (K + 1)).map (endsSeq z block true)).filter (keepE z.length headN)).map headN = (List.range m).map s := by
  refine pick_all ?_ (fun k hk => ?_) (fun k hk => ?_)
  · rcases Nat.lt_or_ge K m with h | h
    · have := (C.fullI hz K).2 h
      rw [hK] at this; cases this
    · exact h
  · have h1 := (C.fullI hz k).2 hk
    exact ⟨List.ne_nil_of_mem h1, head_min (endsSeq_sorted _ _ _ _) h1 fun y hy => ((C.fullI hz k).1 y hy).1, C.lt hk⟩
  · cases he : endsSeq z block true k with
    | nil => exact .inl rfl
    | cons a r =>
      right
      have := ((C.fullI hz k).1 a (by rw [he]; exact .head _)).1
      rw [C.top k hk] at this
      exact this
theorem Cuts.ends (C : Cuts z block s m) (hz : AllPos z) (hb : 1 ≤ block) {K : Nat} (hK : endsSeq z block false K = []) :
    (((List.range (K + 1)).map (endsSeq z block false)).filter (keepE z.length lastN)).map lastN = (List.range m).map s := by
  have hin : ∀ k, k ≤ s k → s k ∈ endsSeq z block false k ∧ lastN (endsSeq z block false k) = s k := fun k hk => by
    have h1 := (C.shortI hz hb k (s k)).mpr ⟨hk, Nat.le_refl _⟩
    exact ⟨h1, last_max (endsSeq_sorted _ _ _ _) h1 fun y hy => ((C.shortI hz hb k y).mp hy).2⟩
  refine pick_all ?_ (fun k hk => ?_) (fun k hk => ?_)
  · rcases Nat.lt_or_ge K m with h | h
    · have := (hin K (C.ge K (by omega))).1
      rw [hK] at this; cases this
    · exact h
  · obtain ⟨h1, h2⟩ := hin k (C.ge k (by omega))
    exact ⟨List.ne_nil_of_mem h1, h2, C.lt hk⟩
  · cases he : endsSeq z block false k with
    | nil => exact .inl rfl
    | cons a r =>
      right
      have h1 := (C.shortI hz hb k a).mp (by rw [he]; exact .head _)
      rw [← he, (hin k (by omega)).2, C.top k hk]
      exact Nat.le_refl _
end

theorem pre_sizes (l : List Step) (i : Nat) : pre (l.map sizeOf1) i = sizeOf (l.take i) := by unfold pre sizeOf; rw [List.map_take]
theorem startOf_top {rows : List (List Step)} {k : Nat} (h : rows.length ≤ k) : startOf rows k = rows.flatten.length := by unfold startOf; rw [List.take_of_length_le h]
theorem startOf_pre {rows : List (List Step)} (k : Nat) : sizeOf (rows.flatten.take (startOf rows k)) = sizeOf (rows.take k).flatten := by
  have e : rows.flatten = (rows.take k).flatten ++ (rows.drop k).flatten := by rw [← List.flatten_append, List.take_append_drop]
  unfold startOf
  rw [e, List.take_left]
theorem rowsOK {block : Int} (hb : 1 ≤ block) {l : List Step} (hl : l ≠ []) (hp : Pos1 l) : RowsOK block l (splitRows block l) := by
  have hflat := splitRows_flat block l
  have hne := rows_ne hb hl
  have hsh := rows_short hb (l := l)
  have hfu := rows_full hb (l := l)
  have hrl : 0 < (splitRows block l).length := by unfold splitRows; simp
  generalize splitRows block l = rows at *
  have hz : AllPos (l.map sizeOf1) := fun x hx => by
    obtain ⟨y, hy, rfl⟩ := List.mem_map.mp hx
    exact hp y hy
  have hsucc : ∀ i r, rows[i]? = some r → startOf rows (i + 1) = startOf rows i + r.length ∧ sizeOf (rows.take (i + 1)).flatten = sizeOf (rows.take i).flatten + sizeOf r := fun i r hr => by
    unfold startOf; rw [flat_snoc hr, List.length_append, sizeOf_append]; exact ⟨rfl, rfl⟩
  have hget : ∀ k < rows.length, ∃ r, rows[k]? = some r ∧ r ≠ [] ∧ r ∈ rows := fun k hk => ⟨rows[k], by simp [hk], hne _ (List.getElem_mem hk), List.getElem_mem hk⟩
  have hful : ∀ i r, rows[i]? = some r → startOf rows (i + 1) < l.length → block ≤ sizeOf r := fun i r hr h => by
    refine hfu i r hr ?_
    rcases Nat.lt_or_ge (i + 1) rows.length with h1 | h1
    · exact h1
    · rw [startOf_top h1, hflat] at h; omega
  have C : Cuts (l.map sizeOf1) block (startOf rows) rows.length := by
    refine ⟨by simp [startOf], hrl, fun k hk => ?_, fun k hk => ?_, fun k hk h => ?_, fun k hk => ?_⟩
    · obtain ⟨r, hr, h1, _⟩ := hget k hk
      rw [(hsucc k r hr).1]
      have := List.length_pos_iff.mpr h1
      omega
    · rw [startOf_top hk, hflat, List.length_map]
    · obtain ⟨r, hr, _, _⟩ := hget k hk
      rw [pre_sizes, pre_sizes, ← hflat, startOf_pre, startOf_pre, (hsucc k r hr).2]
      have := hful k r hr (by rwa [List.length_map] at h)
      omega
    · obtain ⟨r, hr, h1, hm⟩ := hget k hk
      have hlast := List.getLast?_eq_some_getLast h1
      have hs := hsh r hm _ hlast
      obtain ⟨a1, a2⟩ := hsucc k r hr
      have hpos := List.length_pos_iff.mpr h1
      have hx : l[startOf rows (k + 1) - 1]? = some (r.getLast h1) := by
        have h2 : r[r.length - 1]? = some (r.getLast h1) := by rw [← List.getLast?_eq_getElem?]; exact hlast
        have h3 := flat_drop hr
        have h4 : ((rows.flatten.drop (startOf rows k)).take r.length)[r.length - 1]? = some (r.getLast h1) := by rw [h3]; exact h2
        rw [List.getElem?_take_of_lt (by omega), List.getElem?_drop, hflat] at h4
        rwa [a1, show startOf rows k + r.length - 1 = startOf rows k + (r.length - 1) by omega]
      have h5 : (l.map sizeOf1)[startOf rows (k + 1) - 1]? = some (sizeOf1 (r.getLast h1)) := by rw [List.getElem?_map, hx]; rfl
      have h6 := pre_succ h5
      rw [show startOf rows (k + 1) - 1 + 1 = startOf rows (k + 1) by omega] at h6
      have h7 : pre (l.map sizeOf1) (startOf rows (k + 1)) = pre (l.map sizeOf1) (startOf rows k) + sizeOf r := by
        rw [pre_sizes, pre_sizes, ← hflat, startOf_pre, startOf_pre, a2]
      omega
  refine ⟨hflat, hne, hful, hsh, fun K _ hK => ?_, fun K _ hK => ?_⟩
  · have := C.begins hz hK
    rw [List.length_map] at this
    exact this
  · have := C.ends hz hb hK
    rw [List.length_map] at this
    exact this
/-! the plain law: how many full rows -/
noncomputable def cnt (B : Int) : Int → List Int → Nat
  | _, [] => 0
  | c, x :: l => if B ≤ c + x then 1 + cnt B 0 l else cnt B (c + x) l
noncomputable def res (B : Int) : Int → List Int → Int
  | c, [] => c
  | c, x :: l => if B ≤ c + x then res B 0 l else res B (c + x) l
theorem AllPos.tail {x : Int} {l : List Int} (h : AllPos (x :: l)) : 1 ≤ x ∧ AllPos l := ⟨h x (.head _), fun y hy => h y (.tail _ hy)⟩
theorem AllPos.sum {l : List Int} (h : AllPos l) : 0 ≤ l.sum := by
  induction l with
  | nil => exact Int.le_refl 0
  | cons x l ih => obtain ⟨h1, h2⟩ := h.tail; rw [List.sum_cons]; have := ih h2; omega
section
variable {B : Int}
theorem cnt_mono (hB : 1 ≤ B) : ∀ (l : List Int), AllPos l → ∀ c c', 0 ≤ c → c ≤ c' → c' < B → cnt B c l ≤ cnt B c' l ∧ cnt B c' l ≤ cnt B c l + 1
  | [], _, c, c', _, _, _ => by simp [cnt]
  | x :: l, h, c, c', h0, h1, h2 => by
    obtain ⟨hx, hl⟩ := h.tail
    unfold cnt
    by_cases a : B ≤ c + x
    · rw [if_pos a, if_pos (by omega)]; omega
    · rw [if_neg a]
      by_cases b : B ≤ c' + x
      · rw [if_pos b]
        have := cnt_mono hB l hl 0 (c + x) (by omega) (by omega) (by omega)
        omega
      · rw [if_neg b]
        exact cnt_mono hB l hl (c + x) (c' + x) (by omega) (by omega) (by omega)
theorem res_lt (hB : 1 ≤ B) : ∀ (l : List Int), AllPos l → ∀ c, 0 ≤ c → c < B → 0 ≤ res B c l ∧ res B c l < B
  | [], _, c, h0, h1 => ⟨h0, h1⟩
  | x :: l, h, c, h0, h1 => by
    obtain ⟨hx, hl⟩ := h.tail
    unfold res
    by_cases a : B ≤ c + x
    · rw [if_pos a]; exact res_lt hB l hl 0 (by omega) (by omega)
    · rw [if_neg a]; exact res_lt hB l hl (c + x) (by omega) (by omega)
theorem cnt_cons (c x : Int) (l : List Int) : cnt B c (x :: l) = if B ≤ c + x then 1 + cnt B 0 l else cnt B (c + x) l := by rw [cnt]
theorem res_cons (c x : Int) (l : List Int) : res B c (x :: l) = if B ≤ c + x then res B 0 l else res B (c + x) l := by rw [res]
theorem cnt_append : ∀ (l m : List Int) (c : Int), cnt B c (l ++ m) = cnt B c l + cnt B (res B c l) m
  | [], m, c => by simp [cnt, res]
  | x :: l, m, c => by
    rw [List.cons_append, cnt_cons, cnt_cons, res_cons]
    by_cases a : B ≤ c + x
    · rw [if_pos a, if_pos a, if_pos a, cnt_append l m 0]; omega
    · rw [if_neg a, if_neg a, if_neg a, cnt_append l m (c + x)]
theorem cnt_two (hB : 1 ≤ B) {l m : List Int} (hl : AllPos l) (hm : AllPos m) : cnt B 0 l + cnt B 0 m ≤ cnt B 0 (l ++ m) ∧ cnt B 0 (l ++ m) ≤ cnt B 0 l + cnt B 0 m + 1 := by
  rw [cnt_append]
  obtain ⟨h1, h2⟩ := res_lt hB l hl 0 (Int.le_refl 0) (by omega)
  have := cnt_mono hB m hm 0 (res B 0 l) (Int.le_refl 0) h1 h2
  omega
theorem cnt_one (hB : 1 ≤ B) : ∀ (l : List Int), AllPos l → ∀ c, c < B → B ≤ c + l.sum → 1 ≤ cnt B c l
  | [], _, c, h, h1 => by simp at h1; omega
  | x :: l, h, c, h0, h1 => by
    obtain ⟨hx, hl⟩ := h.tail
    unfold cnt
    by_cases a : B ≤ c + x
    · rw [if_pos a]; omega
    · rw [if_neg a]; rw [List.sum_cons] at h1; exact cnt_one hB l hl (c + x) (by omega) (by omega)
theorem cnt_cut (hB : 1 ≤ B) : ∀ (l : List Int) (c : Int), cnt B c l = 0 ∨ ∃ s r, l = s ++ r ∧ B ≤ c + s.sum ∧ cnt B c l = 1 + cnt B 0 r ∧ r.length < l.length
  | [], c => .inl rfl
  | x :: l, c => by
    by_cases a : B ≤ c + x
    · right
      exact ⟨[x], l, rfl, by simpa using a, by rw [cnt, if_pos a], by simp⟩
    · rcases cnt_cut hB l (c + x) with h | ⟨s, r, h1, h2, h3, h4⟩
      · left; rw [cnt, if_neg a]; exact h
      · right
        exact ⟨x :: s, r, by rw [h1]; rfl, by rw [List.sum_cons]; omega, by rw [cnt, if_neg a]; exact h3, by rw [List.length_cons]; omega⟩
theorem AllPos.parts {s r : List Int} (h : AllPos (s ++ r)) : AllPos s ∧ AllPos r := ⟨fun x hx => h x (List.mem_append_left _ hx), fun x hx => h x (List.mem_append_right _ hx)⟩
theorem AllPos.rev {l : List Int} (h : AllPos l) : AllPos l.reverse := fun x hx => h x (List.mem_reverse.mp hx)
theorem sum_rev (l : List Int) : l.reverse.sum = l.sum := by
  induction l with
  | nil => rfl
  | cons x l ih => rw [List.reverse_cons, List.sum_append, List.sum_cons, ih]; simp; omega
theorem cnt_rev_le (hB : 1 ≤ B) : ∀ (n : Nat) (l : List Int), l.length ≤ n → AllPos l → cnt B 0 l ≤ cnt B 0 l.reverse := by
  intro n
  induction n with
  | zero => intro l hl _; rw [show l = [] from List.length_eq_zero_iff.mp (by omega)]; exact Nat.le_refl _
  | succ n ih =>
    intro l hl hp
    rcases cnt_cut hB l 0 with h | ⟨s, r, h1, h2, h3, h4⟩
    · omega
    · rw [h3, h1, List.reverse_append]
      rw [h1] at hp
      obtain ⟨p1, p2⟩ := hp.parts
      have a1 := ih r (by omega) p2
      have a2 := cnt_two hB p2.rev p1.rev
      have a3 := cnt_one hB s.reverse p1.rev 0 (by omega) (by rw [sum_rev]; exact h2)
      omega
theorem cnt_rev (hB : 1 ≤ B) {l : List Int} (hp : AllPos l) : cnt B 0 l.reverse = cnt B 0 l := by
  have h1 := cnt_rev_le hB _ l (Nat.le_refl _) hp
  have h2 := cnt_rev_le hB _ l.reverse (Nat.le_refl _) hp.rev
  rw [List.reverse_reverse] at h2
  omega
theorem cnt_less {B' : Int} (hB : 1 ≤ B) (h : B ≤ B') : ∀ (n : Nat) (l : List Int), l.length ≤ n → AllPos l → cnt B' 0 l ≤ cnt B 0 l := by
  intro n
  induction n with
  | zero => intro l hl _; rw [show l = [] from List.length_eq_zero_iff.mp (by omega)]; exact Nat.le_refl _
  | succ n ih =>
    intro l hl hp
    rcases cnt_cut (B := B') (by omega) l 0 with h0 | ⟨s, r, h1, h2, h3, h4⟩
    · omega
    · rw [h3]
      rw [h1] at hp ⊢
      obtain ⟨p1, p2⟩ := hp.parts
      have a1 := ih r (by omega) p2
      have a2 := cnt_two hB p1 p2
      have a3 := cnt_one hB s p1 0 (by omega) (by omega)
      omega
theorem cnt_runs (hB : 1 ≤ B) : ∀ (j : Nat) (l : List Int), AllPos l → j ≤ cnt B 0 l → ∃ s r, l = s ++ r ∧ (j : Int) * B ≤ s.sum ∧ cnt B 0 l = j + cnt B 0 r ∧ (1 ≤ j → r.length < l.length)
  | 0, l, _, _ => ⟨[], l, rfl, by simp, by omega, fun h => by omega⟩
  | j + 1, l, hp, h => by
    rcases cnt_cut hB l 0 with h0 | ⟨s, r, h1, h2, h3, h4⟩
    · omega
    · rw [h1] at hp
      obtain ⟨p1, p2⟩ := hp.parts
      obtain ⟨s', r', e1, e2, e3, e4⟩ := cnt_runs hB j r p2 (by omega)
      refine ⟨s ++ s', r', by rw [h1, e1, List.append_assoc], ?_, by omega, fun _ => ?_⟩
      · rw [List.sum_append]; push_cast; rw [Int.add_mul]; omega
      · rw [h1, e1]; rw [h1, e1] at h4; simp at h4 ⊢; omega
theorem cnt_times {t : Nat} (hB : 1 ≤ B) (ht : 1 ≤ t) : ∀ (n : Nat) (l : List Int), l.length ≤ n → AllPos l → cnt B 0 l / t ≤ cnt ((t : Int) * B) 0 l := by
  have hBt : 1 ≤ (t : Int) * B := by
    have : (1 : Int) * 1 ≤ (t : Int) * B := Int.mul_le_mul (by omega) hB (by omega) (by omega)
    omega
  intro n
  induction n with
  | zero => intro l hl _; rw [show l = [] from List.length_eq_zero_iff.mp (by omega)]; simp [cnt]
  | succ n ih =>
    intro l hl hp
    rcases Nat.lt_or_ge (cnt B 0 l) t with h | h
    · rw [Nat.div_eq_of_lt h]; omega
    · obtain ⟨s, r, h1, h2, h3, h4⟩ := cnt_runs hB t l hp h
      have h5 := h4 ht
      rw [h3, Nat.add_div_left _ (by omega)]
      rw [h1] at hp ⊢
      obtain ⟨p1, p2⟩ := hp.parts
      have a1 := ih r (by omega) p2
      have a2 := cnt_two hBt p1 p2
      have a3 := cnt_one hBt s p1 0 (by omega) (by omega)
      omega
end

/-- the full rows of splitRows, counted -/
theorem fullN_cnt {block : Int} (hb : 1 ≤ block) : ∀ l : List Step, fullN block l = cnt block 0 (l.map sizeOf1) := by
  have key : ∀ l : List Step, (((splitSt block l).1.length + (if block ≤ (splitSt block l).2.2 then 1 else 0) : Nat) = cnt block 0 (l.map sizeOf1)) ∧ res block 0 (l.map sizeOf1) = (if block ≤ (splitSt block l).2.2 then 0 else (splitSt block l).2.2) := by
    refine list_snoc_ind ?_ ?_
    · have : ¬ block ≤ 0 := by omega
      simp [splitSt, cnt, res, this]
    · intro l x ⟨ih1, ih2⟩
      rw [splitSt_snoc, List.map_append, cnt_append]
      have hres : ∀ (z m : List Int) (c : Int), res block c (z ++ m) = res block (res block c z) m := by
        intro z
        induction z with
        | nil => intro m c; rfl
        | cons y z ih => intro m c; rw [List.cons_append, res_cons, res_cons]; by_cases a : block ≤ c + y <;> simp only [a, if_true, if_false] <;> exact ih m _
      rw [hres, ih2, ← ih1]
      generalize splitSt block l = d at *
      unfold splitF
      simp only [List.map_cons, List.map_nil]
      by_cases a : block ≤ d.2.2
      · simp only [a, if_true]
        by_cases c : block ≤ sizeOf1 x
        · simp [cnt, res, c]
        · simp [cnt, res, c]
      · simp only [a, if_false]
        by_cases c : block ≤ d.2.2 + sizeOf1 x
        · simp [cnt, res, c]
        · simp [cnt, res, c]
  intro l
  have h := splitSt_ok hb l
  rw [← (key l).1]
  unfold fullN splitRows
  rw [List.filter_append, List.length_append]
  have e1 : (splitSt block l).1.filter (isFull block) = (splitSt block l).1 := List.filter_eq_self.mpr fun r hr => decide_eq_true (h.rows r hr).2.1
  rw [e1]
  have e2 : ([(splitSt block l).2.1].filter (isFull block)).length = if block ≤ (splitSt block l).2.2 then 1 else 0 := by
    rw [h.size]
    by_cases c : block ≤ sizeOf (splitSt block l).2.1 <;> simp [isFull, c]
  rw [e2]
theorem Pos1.all {l : List Step} (h : Pos1 l) : AllPos (l.map sizeOf1) := fun x hx => by
  obtain ⟨y, hy, rfl⟩ := List.mem_map.mp hx
  exact h y hy
theorem full_rev {block : Int} (hb : 1 ≤ block) {l : List Step} (hp : Pos1 l) : fullN block l.reverse = fullN block l := by
  rw [fullN_cnt hb, fullN_cnt hb, List.map_reverse, cnt_rev hb hp.all]
theorem full_two {block : Int} (hb : 1 ≤ block) {l m : List Step} (hp : Pos1 l) (hq : Pos1 m) : fullN block l + fullN block m ≤ fullN block (l ++ m) ∧ fullN block (l ++ m) ≤ fullN block l + fullN block m + 1 := by
  rw [fullN_cnt hb, fullN_cnt hb, fullN_cnt hb, List.map_append]
  have := cnt_two hb hp.all hq.all
  omega
theorem full_times {block : Int} {t : Nat} (hb : 1 ≤ block) (ht : 1 ≤ t) {l : List Step} (hp : Pos1 l) : fullN block l / (t : Int) ≤ fullN ((t : Int) * block) l ∧ fullN ((t : Int) * block) l ≤ fullN block l := by
  have hBt : block ≤ (t : Int) * block := by
    have : (1 : Int) * block ≤ (t : Int) * block := Int.mul_le_mul_of_nonneg_right (by omega) (by omega)
    omega
  rw [fullN_cnt hb, fullN_cnt (by omega)]
  have h1 := cnt_times (t := t) hb ht _ _ (Nat.le_refl _) hp.all
  have h2 := cnt_less hb hBt _ _ (Nat.le_refl _) hp.all
  omega
theorem rows_times {block : Int} {t : Nat} (hb : 1 ≤ block) (ht : 1 ≤ t) {l r : List Step} (hl : l ≠ []) (hp : Pos1 l) (hr : r ∈ splitRows ((t : Int) * block) l) : (splitRows block r).length ≤ t := by
  have hBt : block ≤ (t : Int) * block := by
    have : (1 : Int) * block ≤ (t : Int) * block := Int.mul_le_mul_of_nonneg_right (by omega) (by omega)
    omega
  have hrne := rows_ne (by omega) hl r hr
  have hlast := List.getLast?_eq_some_getLast hrne
  have hs := rows_short (by omega) r hr _ hlast
  have hpr : Pos1 r := fun x hx => hp x ((splitRows_row hr).2 x hx)
  have h := splitSt_ok hb r
  have hflat := splitSt_flat block r
  unfold splitRows
  rw [List.length_append, List.length_singleton]
  have hcur := h.cur hrne
  -- the closed rows' size
  have h1 : ((splitSt block r).1.length : Int) * block ≤ sizeOf (splitSt block r).1.flatten := by
    have : ∀ (q : List (List Step)), (∀ r ∈ q, block ≤ sizeOf r) → (q.length : Int) * block ≤ sizeOf q.flatten := by
      intro q
      induction q with
      | nil => intro _; simp [sizeOf]
      | cons y q ih => intro h; rw [List.flatten_cons, sizeOf_append, List.length_cons]; have b1 := h y (.head _); have b2 := ih fun r hr => h r (.tail _ hr); push_cast; rw [Int.add_mul]; omega
    exact this _ fun r hr => (h.rows r hr).2.1
  have hsz : sizeOf r = sizeOf (splitSt block r).1.flatten + sizeOf (splitSt block r).2.1 := by
    conv => lhs; rw [← hflat]
    rw [sizeOf_append]
  have hl2 : (splitSt block r).2.1.getLast? = some (r.getLast hrne) := by
    rw [← hlast]
    conv => rhs; rw [← hflat]
    rw [List.getLast?_append]
    rw [List.getLast?_eq_some_getLast hcur]; rfl
  have h2 : sizeOf1 (r.getLast hrne) ≤ sizeOf (splitSt block r).2.1 := by
    have e : (splitSt block r).2.1 = (splitSt block r).2.1.dropLast ++ [r.getLast hrne] := by
      have := List.dropLast_concat_getLast hcur
      rw [List.getLast?_eq_some_getLast hcur] at hl2
      rw [← Option.some.inj hl2]
      exact this.symm
    rw [e, sizeOf_snoc]
    have := (Pos1.nonneg (l := (splitSt block r).2.1.dropLast) fun x hx => hpr x (by rw [← hflat]; exact List.mem_append_right _ (List.dropLast_subset _ hx))).1
    omega
  have h3 : ((splitSt block r).1.length : Int) * block < (t : Int) * block := by omega
  have h4 := Int.lt_of_mul_lt_mul_right h3 (by omega : 0 ≤ block)
  omega
theorem rows_unit {l : List Step} (hl : l ≠ []) (hp : Pos1 l) : splitRows 1 l = l.map fun x => [x] := by
  have key : ∀ l : List Step, Pos1 l → l = [] ∨ ∃ l' x, l = l' ++ [x] ∧ splitSt 1 l = (l'.map (fun x => [x]), [x], sizeOf1 x) := by
    refine list_snoc_ind (fun _ => .inl rfl) ?_
    intro l x ih hp
    right
    refine ⟨l, x, rfl, ?_⟩
    rw [splitSt_snoc]
    rcases ih fun y hy => hp y (List.mem_append_left _ hy) with rfl | ⟨l', y, rfl, e⟩
    · simp [splitSt, splitF]
    · have hy := hp y (by simp)
      rw [e]
      unfold splitF
      simp [hy]
  rcases key l hp with h | ⟨l', x, rfl, e⟩
  · exact absurd h hl
  · unfold splitRows
    rw [e]; simp
theorem rows_none (block : Int) : splitRows block [] = [[]] := rfl
section
variable {prog : Program} {w : World} {A : Around} {s : Shared} {E : Value → Shared → Prop}
variable {B : Heap} {S₀ S : Stab} {env : Env} {G : Vars} {mu : Muts} {mg mb : Str → Option Value}

theorem bytesC {Q : Value → Shared → Prop} {l : List UInt8} {k : Nat} {pos : Pos} (h : Q (.bytes l.toArray s.toks) { s with toks := s.toks + 1 }) : wpAny (model prog w) A (eval (.Constant (.bytes l) k pos) env) Q E s := fun _ _ _ => h
/-- list + list -/
theorem addL {Q : Value → Shared → Prop} {ds es : List PyData} {v u : Value} (F : Frm B S₀ S env G mu s.heap) (r : Rep S (.list ds) v) (r2 : Rep S (.list es) u) (hsz : ds.length + es.length ≤ 1000)
    (k : ∀ a h' S', Sb S S' → Kp s.heap h' → Frm B S₀ S' env G mu h' → Rep S' (.list (ds ++ es)) (.ref a) → Q (.ref a) { s with heap := h' }) : wpAny (model prog w) A (binaryOp .Add v u) Q E s := by
  obtain ⟨l, o, vs, n, rfl, h1, h2, h3, hr⟩ := rep_list.mp r
  obtain ⟨b, o2, ws, n2, rfl, h4, h5, h6, hr2⟩ := rep_list.mp r2
  have ho := F.sub _ _ h1
  have ho2 := F.sub _ _ h4
  obtain ⟨cls, dd, data, sl⟩ := o
  obtain ⟨cls2, dd2, data2, sl2⟩ := o2
  simp only at h2 h3 h5 h6
  subst h2 h3 h5 h6
  have l1 := hr.length
  have l2 := hr2.length
  rw [Array.length_toList] at l1 l2
  have hz : vs.size + ws.size ≤ sizeLine := Nat.le_trans (by omega : _ ≤ 1000) (by decide)
  refine concat_meets ⟨_, ho, rfl⟩ ⟨_, ho2, rfl⟩ noFill_list_add seq_list_add PySem.F.slot_list_add PySem.F.entry_list_add (PySem.F.args_list_add_2 _ _) (list_addW l b vs ws n n2 dd dd2 sl sl2 hz) ⟨ho, ho2, ?_⟩
  obtain ⟨sb, e, F'⟩ := F.newS (o := { cls := .type "list", data := .seq (vs ++ ws) }) (kp_push _ _) (size_none _) (Heap.get?_push_size _ rfl)
  exact k _ _ _ sb (kp_push _ _) F' (rep_list.mpr ⟨_, _, _, _, rfl, e, rfl, rfl, by rw [Array.toList_append]; exact (hr.append hr2).mono sb⟩)
end

section
variable {prog : Program} {w : World} {A : Around} {s : Shared} {E : Value → Shared → Prop} {Q : Value → Shared → Prop}
variable {mg mb : Str → Option Value} {S : Stab}

set_option maxHeartbeats 8000000 in
theorem law_spec {n : Nat} {ns : List Int} {v fv : Value} (G : GG mg mb s.heap) (fo : FnOK s.heap fv (fdef 22) .none) (rm : Rm A (n + 6)) (hS : SubH S s.heap) (r : Rep S (intsD ns) v) (hlen : ns.length ≤ 1000)
    (k : ∀ h' tk, Kp s.heap h' → Q (.bool true) { s with heap := h', toks := tk }) : wpC (model prog w) A (call fv [v]) Q E s := by
  refine enterKC (hkind := by intro L x hx; (repeat (rcases List.mem_cons.mp hx with rfl | hx; · first | exact .inl rfl | exact .inr ⟨rfl, rfl⟩)); exact nomatch hx) (hlk := by intro L x hx; (repeat (rcases List.mem_cons.mp hx with rfl | hx; · rfl)); exact nomatch hx) (binds := [("script", v)]) (G := [("script", .dat (intsD ns))]) G.lim fo rm hS (fun _ _ _ _ _ => rfl) (fun L a cd => vars_cons (.inl ⟨rfl, rfl⟩) r vars_nil) ?_
  intro L a cd h₁ tk1 A' rm' F
  have F0 : Frm _ _ _ _ _ [(L + 1 + 1, isCell none), (L + 1, isCell none)] _ := F
  clear F
  obtain ⟨f15, hf15, fo15⟩ := G.fn 15 (by decide)
  obtain ⟨f16, hf16, fo16⟩ := G.fn 16 (by decide)
  obtain ⟨f17, hf17, fo17⟩ := G.fn 17 (by decide)
  obtain ⟨f13, hf13, fo13⟩ := G.fn 13 (by decide)
  obtain ⟨f20, hf20, fo20⟩ := G.fn 20 (by decide)
  obtain ⟨f21, hf21, fo21⟩ := G.fn 21 (by decide)
  obtain ⟨f8, hf8, fo8⟩ := G.fn 8 (by decide)
  obtain ⟨f11, T11, o11, n11, t11, t11', hf11, fo11, hT11, hd11⟩ := G.fn11
  -- box
  refine A_execs ?_
  repeat walk_at "tk"
  refine callE F0 G.g hf15 fo15 ?_
  repeat walk_at "tk"
  rename_i v₂ hv₂
  refine ⟨F0.base, box_spec (n := n + 4) (G.keeps F0.base) (fo15.keeps F0.base) rm' F0.sub hv₂ hlen fun b h₃ tk₃ x0 kp₃ hn₃ ho₃ hx0 hc0 => ?_⟩
  obtain ⟨o₃, ho₃, hp₃⟩ := ho₃
  have F3 := F0.newM kp₃ hn₃ ho₃ hp₃
  repeat walk_at "tk"
  rename Frm _ _ _ _ _ _ _ => F4
  -- steps
  refine A_execs ?_
  repeat walk_at "tk"
  refine callE F4 G.g hf17 fo17 ?_
  repeat walk_at "tk"
  refine callE F4 G.g hf16 fo16 ?_
  repeat walk_at "tk"
  refine ⟨F4.base, takeC (n := n + 4) F4 G fo16 rm' (by decide) (by decide) hx0 (by omega) fun h₅ tk₅ t₅ F5 => ?_⟩
  obtain ⟨b1, b2, b3, b4⟩ := takeF_ok (many := 10) hx0 (by decide)
  generalize (takeF x0 10).1 = x1 at *
  generalize (takeF x0 10).2 = d1 at *
  repeat walk_at "tk"
  obtain ⟨_, _, hnS, hnB⟩ := F5.mus _ (.head _)
  refine ⟨F5.base, steps_spec (n := n + 3) F5.base hnB G fo17 rm' F5.sub hnS F5.is (by omega) (by omega) b1 (by omega) fun v₆ h₆ tk₆ S6 x2 l hrx6 ho6 hx2 hc2 hl hll hr6 => ?_⟩
  have F6 := F5.retX hrx6.keep ho6 hrx6.sb hrx6.sub hrx6.new
  repeat walk_at "tk"
  rename Frm _ _ _ _ _ _ _ => F7
  -- more
  refine A_execs ?_
  repeat walk_at "tk"
  refine callE F7 G.g hf17 fo17 ?_
  repeat walk_at "tk"
  refine callE F7 G.g hf16 fo16 ?_
  repeat walk_at "tk"
  refine ⟨F7.base, takeC (n := n + 4) F7 G fo16 rm' (by decide) (by decide) hx2 (by omega) fun h₈ tk₈ t₈ F8 => ?_⟩
  obtain ⟨c1, c2, c3, c4⟩ := takeF_ok (many := 5) hx2 (by decide)
  generalize (takeF x2 5).1 = x3 at *
  generalize (takeF x2 5).2 = d2 at *
  repeat walk_at "tk"
  obtain ⟨_, _, hnS8, hnB8⟩ := F8.mus _ (.head _)
  refine ⟨F8.base, steps_spec (n := n + 3) F8.base hnB8 G fo17 rm' F8.sub hnS8 F8.is (by omega) (by omega) c1 (by omega) fun v₉ h₉ tk₉ S9 x4 m hrx9 ho9 hx4 hc9 hm hml hr9 => ?_⟩
  have F9 := F8.retX hrx9.keep ho9 hrx9.sb hrx9.sub hrx9.new
  have hr6 := hr6.mono hrx9.sb
  repeat walk_at "tk"
  rename Frm _ _ _ _ _ _ _ => F10
  -- block
  refine A_execs ?_
  repeat walk_at "tk"
  refine callE F10 G.g hf16 fo16 ?_
  repeat walk_at "tk"
  refine listE F10 (ds := [.int 4, .int 12, .int 60]) (RepL.cons (repI S9 _ _) (RepL.cons (repI S9 _ _) (RepL.cons (repI S9 _ _) (RepL.nil S9)))) fun a₁₁ h₁₁ S11 sb11 kp11 F11 hr11 => ?_
  refine callE F11 G.g hf16 fo16 ?_
  repeat walk_at "tk"
  refine ⟨F11.base, takeC (n := n + 4) F11 G fo16 rm' (by decide) (by decide) hx4 (by omega) fun h₁₂ tk₁₂ t₁₂ F12 => ?_⟩
  obtain ⟨d1', d2', d3', d4'⟩ := takeF_ok (many := 3) hx4 (by decide)
  generalize (takeF x4 3).1 = x5 at *
  generalize (takeF x4 3).2 = e1 at *
  obtain ⟨g, hg, hg1, hg2⟩ : ∃ g : Int, ([PyData.int 4, .int 12, .int 60] : List PyData)[e1.toNat]? = some (.int g) ∧ 4 ≤ g ∧ g ≤ 60 := by
    have : e1.toNat = 0 ∨ e1.toNat = 1 ∨ e1.toNat = 2 := by omega
    rcases this with h | h | h <;> rw [h]
    · exact ⟨4, rfl, by decide, by decide⟩
    · exact ⟨12, rfl, by decide, by decide⟩
    · exact ⟨60, rfl, by decide, by decide⟩
  refine listItem F12 hr11 (by omega) (by omega) hg fun u₁₃ hu₁₃ => ?_
  obtain ⟨t13, rfl⟩ := rep_int.mp hu₁₃
  repeat walk_at "tk"
  refine ⟨F12.base, takeC (n := n + 4) F12 G fo16 rm' (by omega) (by omega) d1' (by omega) fun h₁₄ tk₁₄ t₁₄ F14 => ?_⟩
  obtain ⟨j1, j2, j3, j4⟩ := takeF_ok (many := g) d1' (by omega)
  generalize (takeF x5 g).1 = x6 at *
  generalize (takeF x5 g).2 = e2 at *
  repeat walk_at "tk"
  obtain ⟨block, hblock⟩ : ∃ z, z = 1 + e2 := ⟨_, rfl⟩
  rw [← hblock]
  have hb1 : 1 ≤ block := by omega
  have hb60 : block ≤ 60 := by omega
  refine stCell (.dat (.int block)) F14.rot3 (repI S11 _ _) fun h₁₅ S15 sb15 F15 => ?_
  -- times
  repeat walk_at "tk"
  refine A_execs ?_
  repeat walk_at "tk"
  refine callE F15 G.g hf16 fo16 ?_
  repeat walk_at "tk"
  refine ⟨F15.base, takeC (n := n + 4) F15 G fo16 rm' (by decide) (by decide) j1 (by omega) fun h₁₆ tk₁₆ t₁₆ F16 => ?_⟩
  obtain ⟨q1, q2, q3, q4⟩ := takeF_ok (many := 3) j1 (by decide)
  generalize (takeF x6 3).1 = x7 at *
  generalize (takeF x6 3).2 = e3 at *
  repeat walk_at "tk"
  obtain ⟨tm, htm⟩ : ∃ z : Nat, (z : Int) = 2 + e3 := ⟨(2 + e3).toNat, by omega⟩
  rw [← htm]
  refine stCell (.dat (.int tm)) F16.swap (repI S15 _ _) fun h₁₇ S17 sb17 F17 => ?_
  have F17 := F17.drop
  have F18 := F17.weak (G' := ([("times", .dat (.int tm)), ("block", .dat (.int block)), ("steps", .dat (stepsD l)), ("more", .dat (stepsD m))] : Vars)) (by walk_at "tk weak")
  clear F0 F3 F4 F5 F6 F7 F8 F9 F10 F11 F12 F14 F15 F16 F17
  -- plain facts
  have hlen1 : l.length ≤ 10 := by omega
  have hlen2 : m.length ≤ 10 := by omega
  have hlne : l ≠ [] := fun e => by rw [e] at hll; simp at hll; omega
  have hp := hl.pos1
  have hpm := hm.pos1
  have htm2 : 2 ≤ tm ∧ tm ≤ 4 := by omega
  have hR := rowsOK hb1 hlne hp
  have hrl := splitRows_len block l
  -- rows
  repeat walk_at "tk"
  refine A_execs ?_
  repeat walk_at "tk"
  refine callE F18 G.g hf13 fo13 ?_
  repeat walk_at "tk"
  rename_i v₁₉ hv₁₉ _
  refine ⟨F18.base, split_steps_spec (n := n + 3) (G.keeps F18.base) (fo13.keeps F18.base) rm' F18.sub hv₁₉ (repI _ _ _) (by omega) fun v₂₀ h₂₀ tk₂₀ S20 ret20 hr20 => ?_⟩
  have F20 := F18.ret ret20
  repeat walk_at "tk"
  rename Frm _ _ _ _ _ _ _ => F21
  have hrows20 : ∀ y ∈ splitRows block l, y.length ≤ 20 := fun y hy => Nat.le_trans (splitRows_row hy).1 (by omega)
  refine C_execs (C_If (C_isTrue_BoolOp (C_Or2 ?_)))
  repeat walk_at "tk"
  refine callE F21 G.g hf20 fo20 ?_
  repeat walk_at "tk"
  rename_i v₂₂ hv₂₂ _ v₂₃ hv₂₃
  refine ⟨F21.base, right_spec (n := n + 2) (G.keeps F21.base) (fo20.keeps F21.base) rm' F21.sub hv₂₂ (repI _ _ _) hv₂₃ hl (by omega) (by omega) hR fun h₂₄ tk₂₄ kp₂₄ => ?_⟩
  have F24 := F21.keep kp₂₄
  refine wpAny_truthy_bool ?_
  rw [show (!true) = false from rfl]
  refine ifF ?_
  refine C_isTrue_Compare ?_
  refine callEC F24 G.g hf11 fo11 ?_
  repeat walk_at "tk"
  rename_i v₂₅ hv₂₅
  refine compA (cl := _) (by with_unfolding_all rfl) ?_
  repeat walk_at "tk"
  rename_i v₂₆ hv₂₆
  refine compB (xs := splitRows block l) (enc := stepsD) (fun _ => true) (fun r => .int (sizeOf r)) [] rm'.hh F24 (IterOf.list hv₂₆) (Nat.le_trans (by omega : _ ≤ 20) (by decide)) cap_nil ?_ ?_
  · intro C i y S' mu' h tk E'' hx sb F'
    refine test0 ?_
    rw [if_pos rfl]
    refine ⟨rfl, ?_⟩
    have G3 := G.keeps F24.base
    refine callE F' G3.g hf8 (fo8.keeps F24.base) ?_
    repeat walk_at "tk"
    rename_i v₂₇ hv₂₇
    refine ⟨F'.base, size_of_spec (n := n + 3) (G3.keeps F'.base) ((fo8.keeps F24.base).keeps F'.base) rm' F'.sub hv₂₇ (Nat.le_trans (hrows20 y (List.mem_of_getElem? hx)) (by decide)) fun t₂₈ h₂₈ tk₂₈ kp₂₈ => ?_⟩
    exact ⟨_, _, S', rfl, Sb.refl _, repI _ _ _, F'.keep kp₂₈⟩
  · intro u₂₉ h₂₉ tk₂₉ S29 sb29 kp29 F29 hr29
    rw [filter_all] at hr29
    have hr29 : Rep S29 (intsD ((splitRows block l).map sizeOf)) u₂₉ := by unfold intsD; rw [List.map_map]; exact hr29
    repeat walk_at "tk"
    refine bytesC ?_
    repeat walk_at "tk"
    refine ⟨F29.base, cut_spec (n := n + 1) (l := l) (G.keeps F29.base) (fo11.keeps F29.base) (F29.base _ _ hT11) hd11 rm' F29.sub (hv₂₅.mono sb29) hr29 hl (by omega) (by omega) hR.flat rfl fun v₃₀ h₃₀ tk₃₀ S30 ret30 hr30 => ?_⟩
    have F30 := F29.ret ret30
    repeat walk_at "tk"
    rename_i v₃₁ hv₃₁
    refine neE (x := splitRows block l) (y := splitRows block l) cmp_rows rm' (by decide) F30.sub hr30 hv₃₁ ?_
    rw [show (!decide (splitRows block l = splitRows block l)) = false by simp]
    refine wpAny_truthy_bool ?_
    refine ifF (C_nil ?_)
    refine wpC_of_any ?_
    repeat walk_at "tk"
    -- no steps; a block of one octet
    refine callE F30 G.g hf13 fo13 ?_
    repeat walk_at "tk"
    refine listE F30 (ds := []) (RepL.nil _) fun a₃₂ h₃₂ S32 sb32 kp32 F32 hr32 => ?_
    repeat walk_at "tk"
    refine ⟨F32.base, split_steps_spec (n := n + 3) (l := []) (G.keeps F32.base) (fo13.keeps F32.base) rm' F32.sub hr32 (repI _ _ _) (by simp) fun v₃₃ h₃₃ tk₃₃ S33 ret33 hr33 => ?_⟩
    have F33 := F32.ret ret33
    repeat walk_at "tk"
    refine listE F33 (ds := []) (RepL.nil _) fun a₃₄ h₃₄ S34 sb34 kp34 F34 hr34 => ?_
    repeat walk_at "tk"
    refine listE F34 (ds := [.list []]) (RepL.cons hr34 (RepL.nil _)) fun a₃₅ h₃₅ S35 sb35 kp35 F35 hr35 => ?_
    refine neE (x := splitRows block []) (y := [[]]) cmp_rows rm' (by decide) F35.sub (hr33.mono (sb34.trans sb35)) hr35 ?_
    rw [show (!decide (splitRows block [] = [[]])) = false by rw [rows_none]; simp]
    repeat walk_at "tk"
    refine callE F35 G.g hf13 fo13 ?_
    repeat walk_at "tk"
    rename_i v₃₆ hv₃₆
    refine ⟨F35.base, split_steps_spec (n := n + 3) (G.keeps F35.base) (fo13.keeps F35.base) rm' F35.sub hv₃₆ (repI _ _ _) (by omega) fun v₃₇ h₃₇ tk₃₇ S37 ret37 hr37 => ?_⟩
    have F37 := F35.ret ret37
    repeat walk_at "tk"
    refine compA (cl := _) (by with_unfolding_all rfl) ?_
    repeat walk_at "tk"
    rename_i v₃₈ hv₃₈
    refine compB (xs := l) (enc := stepD) (fun _ => true) (fun x => stepsD [x]) [] rm'.hh F37 (IterOf.list hv₃₈) (Nat.le_trans (by omega : _ ≤ 20) (by decide)) cap_nil ?_ ?_
    · intro C i y S' mu' h tk E'' hx sb F'
      refine test0 ?_
      rw [if_pos rfl]
      refine ⟨rfl, ?_⟩
      repeat walk_at "tk"
      rename_i v₃₉ hv₃₉
      refine listE F' (ds := [stepD y]) (RepL.cons hv₃₉ (RepL.nil _)) fun a₄₀ h₄₀ S40 sb40 kp40 F40 hr40 => ?_
      exact ⟨_, _, S40, rfl, sb40, hr40, F40⟩
    · intro u₄₁ h₄₁ tk₄₁ S41 sb41 kp41 F41 hr41
      rw [filter_all] at hr41
      have hr41 : Rep S41 (rowsD (l.map fun x => [x])) u₄₁ := by unfold rowsD; rw [List.map_map]; exact hr41
      refine neE (x := splitRows 1 l) (y := l.map fun x => [x]) cmp_rows rm' (by decide) F41.sub (hr37.mono sb41) hr41 ?_
      rw [rows_unit hlne hp, show (!decide ((l.map fun x => [x]) = l.map fun x => [x])) = false by simp]
      repeat walk_at "tk"
      -- the full rows
      refine asgSwap rm'.hh ?_ rfl
      repeat walk_at "tk"
      refine callE F41 G.g hf21 fo21 ?_
      repeat walk_at "tk"
      rename_i v₄₂ hv₄₂ _
      refine ⟨F41.base, full_spec (n := n + 2) (G.keeps F41.base) (fo21.keeps F41.base) rm' F41.sub hv₄₂ (repI _ _ _) (by omega) fun t₄₃ h₄₃ tk₄₃ kp₄₃ => ?_⟩
      have F43 := F41.keep kp₄₃
      repeat walk_at "tk"
      refine callE F43 G.g hf21 fo21 ?_
      repeat walk_at "tk"
      rename_i v₄₄ hv₄₄ _
      refine ⟨F43.base, full_spec (n := n + 2) (G.keeps F43.base) (fo21.keeps F43.base) rm' F43.sub hv₄₄ (repI _ _ _) (by omega) fun t₄₅ h₄₅ tk₄₅ kp₄₅ => ?_⟩
      have F45 := F43.keep kp₄₅
      repeat walk_at "tk"
      refine callE F45 G.g hf21 fo21 ?_
      repeat walk_at "tk"
      rename_i v₄₆ hv₄₆ v₄₇ hv₄₇
      refine addL F45 hv₄₆ hv₄₇ (by rw [List.length_map, List.length_map]; omega) fun a₄₈ h₄₈ S48 sb48 kp48 F48 hr48 => ?_
      rw [← List.map_append] at hr48
      repeat walk_at "tk"
      refine ⟨F48.base, full_spec (n := n + 2) (l := l ++ m) (G.keeps F48.base) (fo21.keeps F48.base) rm' F48.sub hr48 (repI _ _ _) (by rw [List.length_append]; omega) fun t₄₉ h₄₉ tk₄₉ kp₄₉ => ?_⟩
      have F49 := F48.keep kp₄₉
      repeat walk_at "tk"
      refine tupTmp F49 fun at₅₀ h₅₀ kp50 F50 ht50 => ⟨at₅₀, _, rfl, ht50, rfl, fun h₅₁ kp51 => ?_⟩
      have F51 := F50.keep kp51
      dsimp only [List.reverse, List.reverseAux, List.map]
      repeat walk_at "tk"
      rename Frm _ _ _ _ _ _ _ => F52
      obtain ⟨p1, p2⟩ := full_two hb1 hp hpm
      have p3 := full_rev hb1 hp
      obtain ⟨p4, p5⟩ := full_times (t := tm) hb1 (by omega) hp
      -- turned round; with the others
      refine callE F52 G.g hf21 fo21 ?_
      repeat walk_at "tk"
      rename_i v₅₃ hv₅₃
      refine sliceTail (hs := by first | exact .inl (fun _ _ => rfl) | exact .inr (fun _ _ => rfl)) (s := { heap := _, gens := _, drawn := _, toks := _, os := _ }) F52 hv₅₃ (by rw [List.length_map]; exact Nat.le_trans (by omega : _ ≤ 20) (by decide)) .none .none (.int _ _) (by decide) pickRev fun u₅₄ h₅₄ S54 sb54 kp54 F54 hr54 => ?_
      rw [← List.map_reverse] at hr54
      repeat walk_at "tk"
      refine ⟨F54.base, full_spec (n := n + 2) (l := l.reverse) (G.keeps F54.base) (fo21.keeps F54.base) rm' F54.sub hr54 (repI _ _ _) (by rw [List.length_reverse]; omega) fun t₅₅ h₅₅ tk₅₅ kp₅₅ => ?_⟩
      have F55 := F54.keep kp₅₅
      rw [p3]
      repeat walk_at "tk"
      rw [show (fullN block l != fullN block l) = false by simp]
      repeat walk_at "tk"
      rw [show decide (fullN block l + fullN block m ≤ fullN block (l ++ m)) = true from decide_eq_true p1]
      repeat walk_at "tk"
      rw [show decide (fullN block (l ++ m) ≤ fullN block l + fullN block m + 1) = true from decide_eq_true p2, show (!true) = false from rfl]
      repeat walk_at "tk"
      -- rows of some blocks
      refine compA (cl := _) (by with_unfolding_all rfl) ?_
      refine callE F55 G.g hf13 fo13 ?_
      repeat walk_at "tk"
      rename_i v₅₆ hv₅₆ _ _
      refine PyProof.Rows.mul_int ?_
      repeat walk_at "tk"
      refine ⟨F55.base, split_steps_spec (n := n + 3) (G.keeps F55.base) (fo13.keeps F55.base) rm' F55.sub hv₅₆ (repI _ _ _) (by omega) fun v₅₇ h₅₇ tk₅₇ S57 ret57 hr57 => ?_⟩
      have F57 := F55.ret ret57
      have hrl2 := splitRows_len ((tm : Int) * block) l
      refine compB (xs := splitRows ((tm : Int) * block) l) (enc := stepsD) (fun _ => false) stepsD [("block", .dat (.int block)), ("times", .dat (.int tm))] rm'.hh F57 (IterOf.list hr57) (Nat.le_trans (by omega : _ ≤ 20) (by decide)) (cap_cons F57 rfl rfl rfl rfl (cap_cons F57 rfl rfl rfl rfl cap_nil)) ?_ ?_
      · intro C i y S' mu' h tk E'' hx sb F'
        have hy := List.mem_of_getElem? hx
        have hyl : y.length ≤ 10 := Nat.le_trans (splitRows_row hy).1 hlen1
        have hyt := rows_times hb1 (by omega : 1 ≤ tm) hlne hp hy
        have G5 := G.keeps F57.base
        refine test1 ?_
        repeat walk_at "tk"
        refine bcallE F' G5.g G5.b (G5.ng _ (by decide)) G5.b_len ?_
        repeat walk_at "tk"
        refine callE F' G5.g hf13 (fo13.keeps F57.base) ?_
        repeat walk_at "tk"
        rename_i v₅₈ hv₅₈ _
        refine ⟨F'.base, split_steps_spec (n := n + 3) (G5.keeps F'.base) ((fo13.keeps F57.base).keeps F'.base) rm' F'.sub hv₅₈ (repI _ _ _) (by omega) fun v₅₉ h₅₉ tk₅₉ S59 ret59 hr59 => ?_⟩
        have F59 := F'.ret ret59
        repeat walk_at "tk"
        refine lenE F59 hr59 (by rw [List.length_map]; omega) fun t₆₀ tk₆₀ => ?_
        rw [List.length_map]
        repeat walk_at "tk"
        rw [show decide (((splitRows block y).length : Int) > (tm : Int)) = false from decide_eq_false (by omega)]
        refine ifF ⟨rfl, ?_⟩
        exact ⟨_, _, S59, rfl, ret59.sb, F59⟩
      · intro u₆₁ h₆₁ tk₆₁ S61 sb61 kp61 F61 hr61
        rw [show (splitRows ((tm : Int) * block) l).filter (fun _ => false) = [] by simp] at hr61
        repeat walk_at "tk"
        refine listE F61 (ds := []) (RepL.nil _) fun a₆₂ h₆₂ S62 sb62 kp62 F62 hr62 => ?_
        refine neE (x := ([] : List (List Step))) (y := []) cmp_rows rm' (by decide) F62.sub (hr61.mono sb62) hr62 ?_
        rw [show (!decide (([] : List (List Step)) = [])) = false by simp]
        repeat walk_at "tk"
        refine floordiv_int (by omega) ?_ (.inl (PyProof.noPylong_small (by omega)))
        rw [Int.fdiv_eq_ediv_of_nonneg _ (by omega)]
        repeat walk_at "tk"
        refine callE F62 G.g hf21 fo21 ?_
        repeat walk_at "tk"
        rename_i v₆₃ hv₆₃ _ _
        refine PyProof.Rows.mul_int ?_
        repeat walk_at "tk"
        refine ⟨F62.base, full_spec (n := n + 2) (G.keeps F62.base) (fo21.keeps F62.base) rm' F62.sub hv₆₃ (repI _ _ _) (by omega) fun t₆₄ h₆₄ tk₆₄ kp₆₄ => ?_⟩
        have F64 := F62.keep kp₆₄
        repeat walk_at "tk"
        rw [show decide (fullN block l / (tm : Int) ≤ fullN ((tm : Int) * block) l) = true from decide_eq_true p4]
        repeat walk_at "tk"
        rw [show decide (fullN ((tm : Int) * block) l ≤ fullN block l) = true from decide_eq_true p5]
        exact k _ _ F64.base
end
open PySem.W in
theorem fn_of {K : Frag} {h : Heap} {mg : Str → Option Value} (X : K.In h) (g : h.Ns mainGlobals mg) {f : FD} {dV : Value} {a : Addr} {oc : Value} {od : Option Addr} {osl : Array (Option Value)} {doc pm cdv ct : Value} {an : Option Addr}
    (e : nsIn K mainGlobals f.name = some (some (.ref a))) (ho : K.lookup a = some ⟨oc, od, .func (fnOf f.name f.name f.params f.body f.scope dV .none doc pm an cdv ct), osl⟩) (hcd : codeIn K cdv f.name = true) :
    ∃ v, mg f.name = some v ∧ FnOK h v f dV := ⟨.ref a, mg_of X g e, a, _, doc, pm, an, cdv, ct, rfl, X _ _ ho, rfl, codeRec_of X hcd⟩
open PySem.W in
theorem fn_ofD {K : Frag} {h : Heap} {mg : Str → Option Value} (X : K.In h) (g : h.Ns mainGlobals mg) {f : FD} {T a : Addr} {oT : Obj} {oc : Value} {od : Option Addr} {osl : Array (Option Value)} {doc pm cdv ct : Value} {an : Option Addr}
    (e : nsIn K mainGlobals f.name = some (some (.ref a))) (ho : K.lookup a = some ⟨oc, od, .func (fnOf f.name f.name f.params f.body f.scope (.ref T) .none doc pm an cdv ct), osl⟩) (hcd : codeIn K cdv f.name = true) (hT : K.lookup T = some oT) :
    ∃ v, mg f.name = some v ∧ FnOK h v f (.ref T) ∧ h.get? T = some oT :=
  let ⟨v, h1, h2⟩ := fn_of X g e ho hcd
  ⟨v, h1, h2, X _ _ hT⟩
theorem rep_arg {h : Heap} {a : Addr} {vs : List Value} {ns : List Int} (hl : h.IsList a vs.toArray) (hi : IntsAre vs ns) : ∃ S, SubH S h ∧ Rep S (intsD ns) (.ref a) := by
  obtain ⟨o, ho, hc, n, hd⟩ := hl
  refine ⟨Stab.add (fun _ => none) a o, fun b o' e => ?_, rep_list.mpr ⟨a, o, _, n, rfl, by simp [Stab.add], hc, hd, by simpa using RepL.ints.mpr hi⟩⟩
  unfold Stab.add at e
  by_cases q : b = a
  · subst q; rw [if_pos rfl] at e; cases e; exact ho
  · rw [if_neg q] at e; cases e
set_option maxRecDepth 100000 in
set_option maxHeartbeats 8000000 in
theorem conn : PySem.Challenge.rw_tk0117_01.Holds := by
  w_on; o_law; k_head; (case hw => w_witness2)
  k_fill
  intro w s₀ s₁ mg mb G Y fa o pm cd doc dV kV ho hd hcd hD hmg hg args vals as hpre hlay hrd hwl hlo
  have KX := kIn_of Y
  refine Ground.open G ?_
  intro T B D TE TW
  wrow_args hpre hlay hrd hwl hlo
  clear hd hcd hD D TE TW ho
  rename_i ns hs hlay0 hL1 hr1 hl2 as4 as3 la lvs as1 hLst ra w1 r0 hI hr hc1 hc0
  obtain ⟨v9, m9, k9, t9⟩ := fn_ofD KX T.g (f := fdef 9) (by with_unfolding_all rfl) (by with_unfolding_all rfl) (by with_unfolding_all rfl) (by with_unfolding_all rfl)
  obtain ⟨v11, m11, k11, t11⟩ := fn_ofD KX T.g (f := fdef 11) (by with_unfolding_all rfl) (by with_unfolding_all rfl) (by with_unfolding_all rfl) (by with_unfolding_all rfl)
  have hfn : ∀ i ∈ [6, 7, 8, 10, 13, 15, 16, 17, 18, 19, 20, 21, 22], ∃ v, mg (fdef i).name = some v ∧ FnOK s₁.heap v (fdef i) .none := by
    intro i hi
    simp only [List.mem_cons, List.not_mem_nil, or_false] at hi
    rcases hi with rfl | rfl | rfl | rfl | rfl | rfl | rfl | rfl | rfl | rfl | rfl | rfl | rfl <;>
      exact fn_of KX T.g (by with_unfolding_all rfl) (by with_unfolding_all rfl) (by with_unfolding_all rfl)
  have hng : ∀ x ∈ ([("len" : Str), "sum", "max", "min", "abs", "range", "bytearray", "bytes"] : List Str), mg x = none := by
    intro x hx
    simp only [List.mem_cons, List.not_mem_nil, or_false] at hx
    rcases hx with rfl | rfl | rfl | rfl | rfl | rfl | rfl | rfl <;> exact mg_none_of KX T.g (by with_unfolding_all rfl)
  have hlm := mg_of (n := "LEAST_MATCH") KX T.g (by with_unfolding_all rfl)
  have GGx : GG mg mb s₁.heap :=
    { lim := T.nolimit, g := T.g, b := T.b, fn := hfn, fn9 := ⟨v9, _, _, _, _, m9, k9, t9, rfl⟩, fn11 := ⟨v11, _, _, _, _, _, m11, k11, t11, rfl⟩, least := ⟨_, hlm⟩, ng := hng
      b_len := (T.builtins _ (by decide)).trans PyProof.Rows.Boot.len
      b_sum := (T.builtins _ (by decide)).trans PyProof.Rows.Boot.sum
      b_max := (T.builtins _ (by decide)).trans PyProof.Rows.Boot.max
      b_min := (T.builtins _ (by decide)).trans PyProof.Rows.Boot.min
      b_abs := (T.builtins _ (by decide)).trans PyProof.Rows.Boot.abs
      b_range := (T.builtins _ (by decide)).trans PyProof.Rows.Boot.range
      b_bytearray := (T.builtins _ (by decide)).trans PyProof.Rows.Boot.bytearray
      b_bytes := (T.builtins _ (by decide)).trans PyProof.Rows.Boot.bytes }
  obtain ⟨vl, ml, kl⟩ := hfn 22 (by decide)
  have hvl : vl = .ref fa := by
    have : mg (fdef 22).name = some (.ref fa) := hmg
    rw [ml] at this
    exact Option.some.inj this
  subst hvl
  obtain ⟨S, hSub, hRep⟩ := rep_arg hLst hI
  refine law_spec (n := 0) (ns := ns) GGx kl ⟨rfl, by decide, by decide⟩ hSub hRep (by omega) fun h' tk kp => ?_
  refine GoodW.toG ⟨.inl ⟨.bool true, .bool true, [], rfl, raisesW_false (by wrow_none_raised), .bool _, ?_, unshared_nil⟩, kp, rfl, hg⟩
  exact postW_of (by wrow_shape) (by wtm_val) (by first | rfl | (str_meet; first | done | w_fin))
end Mine
theorem PySem.Challenge.cw_tk0117_01_holds : PySem.Challenge.rw_tk0117_01.Holds := by
  exact Mine.conn
