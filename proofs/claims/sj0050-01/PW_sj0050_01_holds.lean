import PyProof.Rows.All
import Wide.All
import OpenK.AllK
import Wide.FinOn
import Lean
import PySem.Challenge.RW_sj0050_01
set_option Elab.async false
set_option linter.all false
set_option compiler.extract_closed false
set_option genInjectivity false
set_option genSizeOf false
section
open PySem PySem.W PyProof.Rows
set_option maxRecDepth 100000
namespace Mine
inductive V where
 | none
 | bool (b : Bool)
 | int (i : Int)
 | str (s : String)
 | tup (l : List V)
 | ref (k : Nat)
 | clo (r c : Nat)
inductive AO where
 | list (l : List V)
 | dict (d : List (Int × V))
 | inst (ns : Nat)
 | ns (fs : List (String × V))
 | tab (P : Addr) (b : Bool)
structure Ty where
 F : Addr → Option Obj
 ids : List Addr
noncomputable abbrev CloSpec := Ty → Nat → Nat → Addr → Prop
mutual
inductive VR (C : CloSpec) (T : Ty) : V → Value → Prop
 | none : VR C T .none .none
 | bool (b : Bool) : VR C T (.bool b) (.bool b)
 | int (i : Int) (t : Tok) : VR C T (.int i) (.int i t)
 | str (x : String) (t : Tok) : VR C T (.str x) (.str (Str.ofString x) t)
 | tup {a : Addr} {vs : List V} {xs : List Value} {n : Nat} : T.F a = some { cls := .type "tuple", data := .seq xs.toArray n } → VRs C T vs xs → VR C T (.tup vs) (.ref a)
 | ref {k : Nat} {a : Addr} : T.ids[k]? = some a → VR C T (.ref k) (.ref a)
 | clo {r c : Nat} {a : Addr} : C T r c a → VR C T (.clo r c) (.ref a)
inductive VRs (C : CloSpec) (T : Ty) : List V → List Value → Prop
 | nil : VRs C T [] []
 | cons {v : V} {vs : List V} {x : Value} {xs : List Value} : VR C T v x → VRs C T vs xs → VRs C T (v :: vs) (x :: xs)
end
inductive OV (C : CloSpec) (T : Ty) : Option V → Option Value → Prop
 | none : OV C T .none .none
 | some {v : V} {x : Value} : VR C T v x → OV C T (.some v) (.some x)
inductive Pairs (C : CloSpec) (T : Ty) : List (Int × V) → List (Int × Value) → Prop
 | nil : Pairs C T [] []
 | cons {k : Int} {v : V} {x : Value} {d e} : VR C T v x → Pairs C T d e → Pairs C T ((k, v) :: d) ((k, x) :: e)
inductive Flds (C : CloSpec) (P : Params) (T : Ty) : List (String × V) → List DictEntry → Prop
 | nil : Flds C P T [] []
 | cons {n : String} {v : V} {x : Value} {t : Tok} {d e} : VR C T v x → Flds C P T d e → Flds C P T ((n, v) :: d) (⟨PyData.keyHash P (Str.ofString n), .str (Str.ofString n) t, x⟩ :: e)
structure TyLe (T T' : Ty) : Prop where
 F : ∀ a o, T.F a = some o → T'.F a = some o
 ids : T.ids <+: T'.ids
theorem TyLe.refl (T : Ty) : TyLe T T := ⟨fun _ _ e => e, List.prefix_refl _⟩
theorem TyLe.trans {T T' T'' : Ty} (a : TyLe T T') (b : TyLe T' T'') : TyLe T T'' := ⟨fun x o e => b.F x o (a.F x o e), a.ids.trans b.ids⟩
theorem prefix_get {α : Type} {l l' : List α} (h : l <+: l') {k : Nat} {a : α} (e : l[k]? = some a) : l'[k]? = some a := by
 obtain ⟨r, rfl⟩ := h
 rw [List.getElem?_append_left (List.getElem?_eq_some_iff.mp e).1]; exact e
theorem TyLe.id {T T' : Ty} (a : TyLe T T') {k : Nat} {x : Addr} (e : T.ids[k]? = some x) : T'.ids[k]? = some x := prefix_get a.ids e
noncomputable def CloMono (C : CloSpec) : Prop := ∀ T T' r c a, TyLe T T' → C T r c a → C T' r c a
section
variable {C : CloSpec} (hC : CloMono C) {T T' : Ty} (h : TyLe T T')
include hC h
theorem VR.mono {v x} (r : VR C T v x) : VR C T' v x :=
 VR.rec (motive_1 := fun v x _ => VR C T' v x) (motive_2 := fun v x _ => VRs C T' v x) .none .bool .int .str (fun e _ q => .tup (h.F _ _ e) q) (fun e => .ref (h.id e)) (fun e => .clo (hC _ _ _ _ _ h e)) .nil (fun _ _ a b => .cons a b) r
theorem VRs.mono {v x} (r : VRs C T v x) : VRs C T' v x := by
 induction v generalizing x with
 | nil => cases r; exact .nil
 | cons a l ih => cases r with | cons a r => exact .cons (VR.mono hC h a) (ih r)
theorem OV.mono {v x} (o : OV C T v x) : OV C T' v x := by
 cases o with
 | none => exact .none
 | some r => exact .some (r.mono hC h)
theorem Pairs.mono {d e} (o : Pairs C T d e) : Pairs C T' d e := by
 induction o with
 | nil => exact .nil
 | cons r _ ih => exact .cons (r.mono hC h) ih
theorem Flds.mono {P d e} (o : Flds C P T d e) : Flds C P T' d e := by
 induction o with
 | nil => exact .nil
 | cons r _ ih => exact .cons (r.mono hC h) ih
end
section
variable {C : CloSpec} {T : Ty}
theorem VRs.append {v x w y} (a : VRs C T v x) (b : VRs C T w y) : VRs C T (v ++ w) (x ++ y) := by
 induction v generalizing x with
 | nil => cases a; exact b
 | cons v vs ih => cases a with | cons a r => exact .cons a (ih r)
theorem VRs.length {v x} (a : VRs C T v x) : v.length = x.length := by
 induction v generalizing x with
 | nil => cases a; rfl
 | cons v vs ih => cases a with | cons a r => rw [List.length_cons, List.length_cons, ih r]
theorem VRs.get {v x} (a : VRs C T v x) {i : Nat} {w : V} (e : v[i]? = some w) : ∃ y, x[i]? = some y ∧ VR C T w y := by
 induction v generalizing x i with
 | nil => cases e
 | cons v vs ih =>
  cases a with
  | cons a r =>
   cases i with
   | zero => cases e; exact ⟨_, rfl, a⟩
   | succ i => exact ih r e
theorem VRs.take {v x} (a : VRs C T v x) (n : Nat) : VRs C T (v.take n) (x.take n) := by
 induction v generalizing x n with
 | nil => cases a; cases n <;> exact .nil
 | cons v vs ih => cases a with | cons a r => cases n with
  | zero => exact .nil
  | succ n => exact .cons a (ih r n)
theorem VRs.drop {v x} (a : VRs C T v x) (n : Nat) : VRs C T (v.drop n) (x.drop n) := by
 induction v generalizing x n with
 | nil => cases a; cases n <;> exact .nil
 | cons v vs ih => cases a with | cons a r => cases n with
  | zero => exact .cons a r
  | succ n => exact ih r n
theorem VRs.set {v x} (a : VRs C T v x) {w y} (b : VR C T w y) (i : Nat) : VRs C T (v.set i w) (x.set i y) := by
 induction v generalizing x i with
 | nil => cases a; exact .nil
 | cons v vs ih => cases a with | cons a r => cases i with
  | zero => exact .cons b r
  | succ i => exact .cons a (ih r i)
theorem VRs.reverse {v x} (a : VRs C T v x) : VRs C T v.reverse x.reverse := by
 induction v generalizing x with
 | nil => cases a; exact .nil
 | cons v vs ih => cases a with | cons a r =>
  rw [List.reverse_cons, List.reverse_cons]
  exact (ih r).append (.cons a .nil)
end
noncomputable def OR (prog : Program) (w : World) (C : CloSpec) (cl : Addr) (T : Ty) (h : Heap) : AO → Addr → Prop
 | .list l, a => ∃ (xs : List Value) (n : Nat), h.get? a = some { cls := .type "list", dict := none, data := .seq xs.toArray n, slots := #[] } ∧ VRs C T l xs
 | .dict d, a => ∃ e, h.DictOf (intKind prog w) a e ∧ Pairs C T d e
 | .inst k, a => ∃ dx, T.ids[k]? = some dx ∧ h.get? a = some (instObj cl dx)
 | .ns fs, a => ∃ es n, h.get? a = some (dictOf es n) ∧ Flds C w.params T fs es
 | .tab P b, a => a = P ∧ ∃ ps, h.get? a = some { cls := .none, data := .fields ps } ∧ (b = true → ps = #[])
theorem OR.keeps {prog w C cl T h h' a} (o : AO) (r : OR prog w C cl T h o a) (hk : ∀ b, h.get? a = some b → h'.get? a = some b) : OR prog w C cl T h' o a := by
 cases o with
 | list l => obtain ⟨xs, n, e, q⟩ := r; exact ⟨xs, n, hk _ e, q⟩
 | dict d => obtain ⟨xs, ⟨o, es, ep, e, r⟩, q⟩ := r; exact ⟨xs, ⟨o, es, ep, hk _ e, r⟩, q⟩
 | inst k => obtain ⟨dx, e, r⟩ := r; exact ⟨dx, e, hk _ r⟩
 | ns fs => obtain ⟨es, n, e, r⟩ := r; exact ⟨es, n, hk _ e, r⟩
 | tab P b => obtain ⟨z, ps, e, r⟩ := r; exact ⟨z, ps, hk _ e, r⟩
theorem OR.mono {prog w C cl T T' h a} (hC : CloMono C) (t : TyLe T T') {o : AO} (r : OR prog w C cl T h o a) : OR prog w C cl T' h o a := by
 cases o with
 | list l => obtain ⟨xs, n, e, q⟩ := r; exact ⟨xs, n, e, q.mono hC t⟩
 | dict d => obtain ⟨xs, e, q⟩ := r; exact ⟨xs, e, q.mono hC t⟩
 | inst k => obtain ⟨dx, e, r⟩ := r; exact ⟨dx, t.id e, r⟩
 | ns fs => obtain ⟨es, n, e, r⟩ := r; exact ⟨es, n, e, r.mono hC t⟩
 | tab P b => exact r
theorem OR.has {prog w C cl T h a} {o : AO} (r : OR prog w C cl T h o a) : ∃ b, h.get? a = some b := by
 cases o with
 | list l => obtain ⟨xs, n, e, q⟩ := r; exact ⟨_, e⟩
 | dict d => obtain ⟨xs, ⟨o, es, ep, e, _⟩, q⟩ := r; exact ⟨_, e⟩
 | inst k => obtain ⟨dx, e, r⟩ := r; exact ⟨_, r⟩
 | ns fs => obtain ⟨es, n, e, r⟩ := r; exact ⟨_, e⟩
 | tab P b => obtain ⟨_, ps, e, r⟩ := r; exact ⟨_, e⟩
end Mine
end
section
open PySem PySem.W PyProof.Rows
set_option maxRecDepth 100000
namespace Mine
structure Sur where
 prog : Program
 w : World
 K : Frag
 h₀ : Heap
 C : CloSpec
 cl : Addr
structure SR (S : Sur) (T : Ty) (H : List AO) (s : Shared) : Prop where
 fz : ∀ a o, T.F a = some o → s.heap.get? a = some o
 len : T.ids.length = H.length
 obj : ∀ (k a : Nat) (o : AO), T.ids[k]? = some a → H[k]? = some o → OR S.prog S.w S.C S.cl T s.heap o a
 nd : T.ids.Nodup
 dis : ∀ a ∈ T.ids, T.F a = none
 st : ∀ a o, S.h₀.get? a = some o → T.F a = some o
 low : ∀ a ∈ T.ids, 2 < a
 big : ∃ o, T.F 2 = some o
structure Go (M : List Addr) (T : Ty) (s : Shared) (T' : Ty) (s' : Shared) : Prop where
 up : ∃ h t, s' = { s with heap := h, toks := t }
 keep : ∀ a o, s.heap.get? a = some o → a ∉ T.ids → a ∉ M → s'.heap.get? a = some o
 alive : ∀ a o, s.heap.get? a = some o → ∃ o', s'.heap.get? a = some o'
 le : TyLe T T'
 new : ∀ a ∈ T'.ids, a ∈ T.ids ∨ s.heap.get? a = none
 newF : ∀ a o, T'.F a = some o → T.F a = some o ∨ s.heap.get? a = none
theorem Go.refl (M : List Addr) (T : Ty) (s : Shared) : Go M T s T s :=
 ⟨⟨s.heap, s.toks, rfl⟩, fun _ _ e _ _ => e, fun _ o e => ⟨o, e⟩, .refl T, fun _ h => .inl h, fun _ _ h => .inl h⟩
theorem Go.back {M T s T' s'} (g : Go M T s T' s') {x : Addr} (h : s'.heap.get? x = none) : s.heap.get? x = none := by
 cases e : s.heap.get? x with
 | none => rfl
 | some o => obtain ⟨o', e'⟩ := g.alive x o e; rw [h] at e'; cases e'
theorem Go.out {M T s T' s' I o} (g : Go M T s T' s') (h : s.heap.get? I = some o) (n : I ∉ T.ids) : I ∉ T'.ids := fun z => (g.new I z).elim n fun z => nomatch h.symm.trans z
theorem Go.outF {M T s T' s' I o} (g : Go M T s T' s') (h : s.heap.get? I = some o) (n : T.F I = none) : T'.F I = none :=
 match e : T'.F I with
 | none => rfl
 | some o' => (g.newF I o' e).elim (fun z => nomatch n.symm.trans z) fun z => nomatch h.symm.trans z
theorem Go.trans {M T s T' s' T'' s''} (a : Go M T s T' s') (b : Go M T' s' T'' s'') : Go M T s T'' s'' where
 up := by
  obtain ⟨h, t, rfl⟩ := a.up
  obtain ⟨h', t', e⟩ := b.up
  exact ⟨h', t', e⟩
 keep := fun x o e n m => b.keep x o (a.keep x o e n m) (fun q => (a.new x q).elim n fun z => by rw [e] at z; cases z) m
 alive := fun x o e => by obtain ⟨o', e'⟩ := a.alive x o e; exact b.alive x o' e'
 le := a.le.trans b.le
 new := fun x q => (b.new x q).elim (fun z => a.new x z) fun z => .inr (a.back z)
 newF := fun x o q => (b.newF x o q).elim (fun z => a.newF x o z) fun z => .inr (a.back z)
theorem Go.weak {M N T s T' s'} (a : Go M T s T' s') (h : ∀ x ∈ M, x ∈ N) : Go N T s T' s' :=
 ⟨a.up, fun x o e n m => a.keep x o e n fun q => m (h x q), a.alive, a.le, a.new, a.newF⟩
theorem Go.nil {N T s T' s'} (a : Go [] T s T' s') : Go N T s T' s' := a.weak fun _ h => (nomatch h)
theorem Go.grow {M : List Addr} {T : Ty} {s : Shared} {h : Heap} {t : Tok} (hk : ∀ a o, s.heap.get? a = some o → h.get? a = some o) :
  Go M T s T { s with heap := h, toks := t } :=
 ⟨⟨h, t, rfl⟩, fun a o e _ _ => hk a o e, fun a o e => ⟨o, hk a o e⟩, .refl T, fun _ h => .inl h, fun _ _ h => .inl h⟩
theorem SR.grow {S : Sur} {T H s} (r : SR S T H s) {h : Heap} {t : Tok} (hk : ∀ a o, s.heap.get? a = some o → h.get? a = some o) : SR S T H { s with heap := h, toks := t } :=
 ⟨fun a o e => hk a o (r.fz a o e), r.len, fun k a o e q => (r.obj k a o e q).keeps o fun b => hk a b, r.nd, r.dis, r.st, r.low, r.big⟩
theorem SR.tok {S : Sur} {T H s} (r : SR S T H s) (t : Tok) : SR S T H { s with toks := t } := r.grow (h := s.heap) fun _ _ e => e
theorem Go.tok {M : List Addr} {T : Ty} {s : Shared} {t : Tok} : Go M T s T { s with toks := t } := Go.grow (h := s.heap) fun _ _ e => e
structure FR (S : Sur) (T : Ty) (env : Env) (ρ : List (Option V)) (s : Shared) : Prop where
 glob : env.globals = mainGlobals
 blt : env.builtins = builtinsNs
 kind : env.scope.kind = .function
 len : ρ.length = env.scope.names.length
 nd : (env.scope.names.map (·.1)).Nodup
 ns : ∃ m, s.heap.Ns env.locals m ∧ ∀ i x, env.scope.names[i]? = some (x, .local) → OV S.C T (ρ.getD i none) (m x)
 cell : ∀ i x k, env.scope.names[i]? = some (x, k) → (k = .cell ∨ k = .free) → ∃ c mv, env.cells.lookup x = some c ∧ s.heap.IsCell c mv ∧ OV S.C T (ρ.getD i none) mv
 one : ∀ x y c, env.cells.lookup x = some c → env.cells.lookup y = some c → x = y
 L : env.locals ∉ T.ids ∧ T.F env.locals = none
 ci : ∀ c ∈ env.cells.map (·.2), c ∉ T.ids ∧ ∃ o, s.heap.get? c = some o
 cF : ∀ (i : Nat) x c, env.scope.names[i]? = some (x, .cell) → env.cells.lookup x = some c → T.F c = none
noncomputable def all (env : Env) : List Addr := env.locals :: env.cells.map (·.2)
noncomputable def own (env : Env) : List Addr := env.locals :: (if (env.scope.names.lookup (Str.ofString ".0")).isSome then [] else env.cells.map (·.2))
theorem own_all {env : Env} {a : Addr} (h : a ∈ own env) : a ∈ all env := by
 unfold own at h
 split at h
 ·simp at h; subst h; exact List.mem_cons_self
 ·exact h
theorem lookup_mem {l : List (Str × Addr)} {x : Str} {c : Addr} (h : l.lookup x = some c) : c ∈ l.map (·.2) := by
 induction l with
 | nil => cases h
 | cons p l ih =>
  obtain ⟨y, d⟩ := p
  rw [List.lookup_cons] at h
  split at h
  ·cases h; exact List.mem_cons_self
  ·exact List.mem_cons_of_mem _ (ih h)
theorem mem_all_cell {env : Env} {x : Str} {c : Addr} (h : env.cells.lookup x = some c) : c ∈ all env := List.mem_cons_of_mem _ (lookup_mem h)
theorem mem_own_cell {env : Env} {x : Str} {c : Addr} (h : env.cells.lookup x = some c) (h0 : (env.scope.names.lookup (Str.ofString ".0")).isNone = true) : c ∈ own env := by
 unfold own
 rw [if_neg (by cases q : env.scope.names.lookup (Str.ofString ".0") <;> simp_all)]
 exact mem_all_cell h
theorem FR.go {S : Sur} (hC : CloMono S.C) {T env ρ s T' s'} (f : FR S T env ρ s) (g : Go [] T s T' s') : FR S T' env ρ s' where
 glob := f.glob
 blt := f.blt
 kind := f.kind
 len := f.len
 nd := f.nd
 ns := by
  obtain ⟨m, ⟨o, es, ep, ho, r⟩, q⟩ := f.ns
  exact ⟨m, ⟨o, es, ep, g.keep _ _ ho f.L.1 (fun h => nomatch h), r⟩, fun i x e => (q i x e).mono hC g.le⟩
 cell := fun i x k e h => by
  obtain ⟨c, mv, a, ⟨o, ho, r⟩, q⟩ := f.cell i x k e h
  exact ⟨c, mv, a, ⟨o, g.keep _ _ ho (f.ci c (lookup_mem a)).1 (fun h => nomatch h), r⟩, q.mono hC g.le⟩
 one := f.one
 L := by
  obtain ⟨m, ⟨o, es, ep, ho, _⟩, _⟩ := f.ns
  exact ⟨g.out ho f.L.1, g.outF ho f.L.2⟩
 ci := fun c e => by
  obtain ⟨a, o, ho⟩ := f.ci c e
  exact ⟨g.out ho a, g.alive c o ho⟩
 cF := fun i x c e h => by
  obtain ⟨_, o, ho⟩ := f.ci c (lookup_mem h)
  exact g.outF ho (f.cF i x c e h)
structure Roomy (n : Nat) (A : Around) : Prop where
 hd : A.handled = none
 depth : A.depth + 4 * n ≤ 900
 units : A.units + 40 * n ≤ 9000
theorem Roomy.le {n k : Nat} {A : Around} (h : Roomy n A) (hk : k ≤ n) : Roomy k A := ⟨h.hd, by have := h.depth; lia, by have := h.units; lia⟩
noncomputable abbrev Rho := List (Option V)
noncomputable abbrev EW := Rho → List AO → (V → List AO → Prop) → Prop
noncomputable abbrev ESW := Rho → List AO → (List V → List AO → Prop) → Prop
noncomputable abbrev TW := Rho → List AO → (Bool → List AO → Prop) → Prop
inductive Fl where
 | next | brk | cont
 | ret (v : V)
noncomputable abbrev BW := Rho → List AO → (Fl → Rho → List AO → Prop) → Prop
noncomputable abbrev FW := List V → List AO → (V → List AO → Prop) → Prop
inductive FlR (C : CloSpec) (T : Ty) : Fl → Flow → Prop
 | next : FlR C T .next .next
 | brk : FlR C T .brk .brk
 | cont : FlR C T .cont .cont
 | ret {v x} : VR C T v x → FlR C T (.ret v) (.ret x)
noncomputable def EP (S : Sur) (T : Ty) (s : Shared) (Q : V → List AO → Prop) : Value → Shared → Prop :=
 fun x s' => ∃ T' H' v, Go [] T s T' s' ∧ SR S T' H' s' ∧ VR S.C T' v x ∧ Q v H'
noncomputable def ESP (S : Sur) (T : Ty) (s : Shared) (Q : List V → List AO → Prop) : List Value → Shared → Prop :=
 fun x s' => ∃ T' H' v, Go [] T s T' s' ∧ SR S T' H' s' ∧ VRs S.C T' v x ∧ Q v H'
noncomputable def TP (S : Sur) (T : Ty) (s : Shared) (Q : Bool → List AO → Prop) : Bool → Shared → Prop :=
 fun b s' => ∃ T' H', Go [] T s T' s' ∧ SR S T' H' s' ∧ Q b H'
noncomputable def BP (S : Sur) (T : Ty) (s : Shared) (env : Env) (Q : Fl → Rho → List AO → Prop) : Flow → Shared → Prop :=
 fun f s' => ∃ T' H' ρ' g, Go (own env) T s T' s' ∧ SR S T' H' s' ∧ FR S T' env ρ' s' ∧ FlR S.C T' g f ∧ Q g ρ' H'
noncomputable def UP (S : Sur) (T : Ty) (s : Shared) (env : Env) (Q : Rho → List AO → Prop) : Unit → Shared → Prop :=
 fun _ s' => ∃ T' H' ρ', Go (own env) T s T' s' ∧ SR S T' H' s' ∧ FR S T' env ρ' s' ∧ Q ρ' H'
noncomputable def SE (S : Sur) (sc : Scope) (n : Nat) (e : Expr) (W : EW) : Prop :=
 ∀ {A : Around} {E : Value → Shared → Prop} {T H env ρ s Q}, Roomy n A → env.scope = sc → SR S T H s → FR S T env ρ s → W ρ H Q →
  wpAny (model S.prog S.w) A (eval e env) (EP S T s Q) E s
noncomputable def SEs (S : Sur) (sc : Scope) (n : Nat) (es : List Expr) (W : ESW) : Prop :=
 ∀ {A : Around} {E : Value → Shared → Prop} {T H env ρ s Q} {pos : Pos}, Roomy n A → env.scope = sc → SR S T H s → FR S T env ρ s → W ρ H Q →
  wpAny (model S.prog S.w) A (spliced (backTo pos (starEach es env))) (ESP S T s Q) E s
noncomputable def ST (S : Sur) (sc : Scope) (n : Nat) (e : Expr) (W : TW) : Prop :=
 ∀ {A : Around} {E : Value → Shared → Prop} {T H env ρ s Q}, Roomy n A → env.scope = sc → SR S T H s → FR S T env ρ s → W ρ H Q →
  wpAny (model S.prog S.w) A (isTrue e env (eval e env)) (TP S T s Q) E s
noncomputable def SS (S : Sur) (sc : Scope) (n : Nat) (st : Stmt) (W : BW) : Prop :=
 ∀ {A : Around} {E : Value → Shared → Prop} {T H env ρ s Q}, Roomy n A → env.scope = sc → SR S T H s → FR S T env ρ s → W ρ H Q →
  wpAny (model S.prog S.w) A (exec st env) (BP S T s env Q) E s
noncomputable def SB (S : Sur) (sc : Scope) (n : Nat) (b : List Stmt) (W : BW) : Prop :=
 ∀ {A : Around} {E : Value → Shared → Prop} {T H env ρ s Q}, Roomy n A → env.scope = sc → SR S T H s → FR S T env ρ s → W ρ H Q →
  wpAny (model S.prog S.w) A (execs b env) (BP S T s env Q) E s
noncomputable def SA (S : Sur) (sc : Scope) (n : Nat) (t : Expr) (W : V → Rho → List AO → (Rho → List AO → Prop) → Prop) : Prop :=
 ∀ {A : Around} {E : Value → Shared → Prop} {T H env ρ s Q v x}, Roomy n A → env.scope = sc → SR S T H s → FR S T env ρ s → VR S.C T v x → W v ρ H Q →
  wpAny (model S.prog S.w) A (assign t env x) (UP S T s env Q) E s
noncomputable def Fn (S : Sur) (n : Nat) (f : Value) (W : FW) : Prop :=
 ∀ {A : Around} {E : Value → Shared → Prop} {T H s Q vs xs}, Roomy n A → SR S T H s → VRs S.C T vs xs → W vs H Q →
  wpAny (model S.prog S.w) A (call f xs []) (EP S T s Q) E s
section
variable {S : Sur} {T T' : Ty} {s s' : Shared} {env : Env}
theorem EP.go {Q} {x : Value} {s''} (g : Go [] T s T' s') (e : EP S T' s' Q x s'') : EP S T s Q x s'' := by
 obtain ⟨T₁, H', v, a, r⟩ := e
 exact ⟨T₁, H', v, g.trans a, r⟩
theorem TP.go {Q} {x : Bool} {s''} (g : Go [] T s T' s') (e : TP S T' s' Q x s'') : TP S T s Q x s'' := by
 obtain ⟨T₁, H', a, r⟩ := e
 exact ⟨T₁, H', g.trans a, r⟩
theorem BP.go {Q} {x : Flow} {s''} (g : Go (own env) T s T' s') (e : BP S T' s' env Q x s'') : BP S T s env Q x s'' := by
 obtain ⟨T₁, H', v, f, a, r⟩ := e
 exact ⟨T₁, H', v, f, g.trans a, r⟩
theorem UP.go {Q} {x : Unit} {s''} (g : Go (own env) T s T' s') (e : UP S T' s' env Q x s'') : UP S T s env Q x s'' := by
 obtain ⟨T₁, H', v, a, r⟩ := e
 exact ⟨T₁, H', v, g.trans a, r⟩
end
theorem SE.run {S : Sur} (hC : CloMono S.C) {sc n e W} (h : SE S sc n e W) {A : Around} {E : Value → Shared → Prop} {T H env ρ s Q} {R : Value → Shared → Prop} (ro : Roomy n A) (he : env.scope = sc) (r : SR S T H s) (fr : FR S T env ρ s) (hW : W ρ H Q)
  (k : ∀ T' H' v x s', Go [] T s T' s' → SR S T' H' s' → FR S T' env ρ s' → VR S.C T' v x → Q v H' → R x s') :
  wpAny (model S.prog S.w) A (eval e env) R E s :=
 wpAny_mono (h ro he r fr hW) (fun x s' ⟨T', H', v, g, r', vr, q⟩ => k T' H' v x s' g r' (fr.go hC g) vr q) fun _ _ e => e
end Mine
end
section
open PySem PySem.W PyProof.Rows
set_option maxRecDepth 100000
namespace Mine
structure Stat (S : Sur) : Prop where
 X : S.K.In S.h₀
 T : ∃ p loose mg mb, TopRead p loose mg mb S.h₀
 C : CloMono S.C
theorem Stat.keep {S : Sur} {T H s} (r : SR S T H s) : ∀ a o, S.h₀.get? a = some o → s.heap.get? a = some o := fun a o e => r.fz a o (r.st a o e)
theorem Stat.In {S : Sur} (hS : Stat S) {T H s} (r : SR S T H s) : S.K.In s.heap := fun a o e => Stat.keep r a o (hS.X a o e)
theorem SR.lt {S : Sur} {T H s} (r : SR S T H s) {a : Addr} (h : a ∈ T.ids) : a < s.heap.objs.size := by
 obtain ⟨k, hk'⟩ := List.getElem?_of_mem h
 have hlt : k < H.length := by rw [← r.len]; exact (List.getElem?_eq_some_iff.mp hk').1
 obtain ⟨o, ho⟩ := (r.obj k a _ hk' (List.getElem?_eq_getElem hlt)).has
 exact Heap.lt_size ho
theorem SR.has {S : Sur} {T H s} (r : SR S T H s) {a : Addr} (h : a ∈ T.ids) : ∃ o, s.heap.get? a = some o := by
 obtain ⟨k, hk'⟩ := List.getElem?_of_mem h
 have hlt : k < H.length := by rw [← r.len]; exact (List.getElem?_eq_some_iff.mp hk').1
 exact (r.obj k a _ hk' (List.getElem?_eq_getElem hlt)).has
theorem SR.gt {S : Sur} {T H s} (r : SR S T H s) : 2 < s.heap.objs.size := by
 obtain ⟨o, e⟩ := r.big
 exact Heap.lt_size (r.fz _ _ e)
theorem SR.at {S : Sur} {T H s} (r : SR S T H s) {k : Nat} {a : Addr} {o : AO} (h : T.ids[k]? = some a) (e : H[k]? = some o) : OR S.prog S.w S.C S.cl T s.heap o a := r.obj k a o h e
theorem Stat.lim {S : Sur} (hS : Stat S) {T H s} (r : SR S T H s) : s.heap.NoLimit := by
 obtain ⟨_, _, _, _, t⟩ := hS.T
 exact t.nolimit.keeps (Stat.keep r)
theorem ofString_inj {a b : String} (h : Str.ofString a = Str.ofString b) : a = b := by
 rw [Str.ofString_eq_toList, Str.ofString_eq_toList] at h
 injection h with h
 have h' := congrArg Array.toList h
 simp only [List.toList_toArray] at h'
 have : a.toList = b.toList := by
  have inj : Function.Injective Char.toNat := fun x y e => Char.ext (UInt32.toNat_inj.mp e)
  exact (List.map_inj_right (fun x y e => inj e)).mp h'
 exact String.toList_inj.mp this
noncomputable def constW (v : V) : EW := fun _ H Q => Q v H
noncomputable def nameW (i : Nat) : EW := fun ρ H Q => match ρ.getD i none with | some v => Q v H | none => False
section
variable {S : Sur} {sc : Scope} {n : Nat}
theorem EP.here {T : Ty} {s : Shared} {Q : V → List AO → Prop} {x : Value} {H v} (r : SR S T H s) (vr : VR S.C T v x) (q : Q v H) : EP S T s Q x s := ⟨T, H, v, .refl _ _ _, r, vr, q⟩
theorem EP.tok {T : Ty} {s : Shared} {Q : V → List AO → Prop} {x : Value} {H v} {t : Tok} (r : SR S T H s) (vr : VR S.C T v x) (q : Q v H) : EP S T s Q x { s with toks := t } := ⟨T, H, v, .tok, r.tok t, vr, q⟩
theorem SE.int {i k pos} : SE S sc n (.Constant (.int i) k pos) (constW (.int i)) := fun _ _ r _ q => wpAny_Constant_int (EP.tok r (.int _ _) q)
theorem SE.str {x : String} {k pos} : SE S sc n (.Constant (.str (Str.ofString x)) k pos) (constW (.str x)) := fun _ _ r _ q => wpAny_Constant_str (EP.tok r (.str _ _) q)
theorem SE.none {k pos} : SE S sc n (.Constant .none k pos) (constW .none) := fun _ _ r _ q => wpAny_Constant_none (EP.here r .none q)
theorem SE.bool {b k pos} : SE S sc n (.Constant (.bool b) k pos) (constW (.bool b)) := fun _ _ r _ q => wpAny_Constant_bool (EP.here r (.bool _) q)
noncomputable def slotGo (x : Str) : List (Str × NameKind) → Nat → Option (Nat × NameKind)
 | [], _ => none
 | (y, k) :: r, i => if y == x then some (i, k) else slotGo x r (i + 1)
noncomputable def slot (sc : Scope) (x : Str) : Option (Nat × NameKind) := slotGo x sc.names 0
theorem slotGo_get {x : Str} : ∀ {l : List (Str × NameKind)} {j i k}, slotGo x l j = some (i, k) → j ≤ i ∧ l[i - j]? = some (x, k) ∧ l.lookup x = some k
 | [], _, _, _, e => by cases e
 | (y, q) :: r, j, i, k, e => by
  unfold slotGo at e
  by_cases h : (y == x) = true
  ·rw [if_pos h] at e
   injection e with e; injection e with e1 e2
   subst e1 e2
   have hx : y = x := eq_of_beq h
   subst hx
   exact ⟨Nat.le_refl _, by simp, by simp⟩
  ·rw [if_neg h] at e
   obtain ⟨a, b, c⟩ := slotGo_get e
   refine ⟨by lia, ?_, ?_⟩
   ·have : i - j = (i - (j + 1)) + 1 := by lia
    rw [this]; exact b
   ·rw [List.lookup_cons]
    have : (x == y) = false := by
     cases q : (x == y) with
     | false => rfl
     | true => exact absurd (by rw [eq_of_beq q]; simp) h
    rw [this]; exact c
theorem slot_get {sc : Scope} {x : Str} {i k} (e : slot sc x = some (i, k)) : sc.names[i]? = some (x, k) ∧ sc.names.lookup x = some k := by
 obtain ⟨_, b, c⟩ := slotGo_get e
 exact ⟨by simpa using b, c⟩
theorem OV.some_left {C T v o} (h : OV C T (Option.some v) o) : ∃ x, o = Option.some x ∧ VR C T v x := by
 cases h with
 | some r => exact ⟨_, rfl, r⟩
theorem SE.name {x pos i k} (hi : slot sc x = some (i, k)) (hk : (k == .local || k == .cell || k == .free) = true := by rfl) (hd : (x == ("__debug__" : Str)) = false := by decide)
  (hc : (x == ("__classdict__" : Str)) = false := by decide) : SE S sc n (.Name x pos) (nameW i) := by
 intro A E T H env ρ s Q ro he r fr q
 subst he
 obtain ⟨h1, h2⟩ := slot_get hi
 unfold nameW at q
 split at q
 ·rename_i v hv
  have hkind : env.kindOf x = some k := h2
  cases k <;> try (exact absurd hk (by decide))
  ·obtain ⟨m, hn, hm⟩ := fr.ns
   have := hm i x h1
   rw [hv] at this
   obtain ⟨y, ey, vr⟩ := OV.some_left this
   exact wpAny_Name (wpAny_loadName_local fr.kind hkind hn ey (EP.here r vr q)) hd
  ·obtain ⟨c, mv, hc', hcell, o⟩ := fr.cell i x _ h1 (.inl rfl)
   rw [hv] at o
   obtain ⟨y, ey, vr⟩ := OV.some_left o
   subst ey
   exact wpAny_Name (wpAny_loadName_cell fr.kind hkind hc' hcell (EP.here r vr q)) hd
  ·obtain ⟨c, mv, hc', hcell, o⟩ := fr.cell i x _ h1 (.inr rfl)
   rw [hv] at o
   obtain ⟨y, ey, vr⟩ := OV.some_left o
   subst ey
   exact wpAny_Name (wpAny_loadName_free fr.kind hkind hc' hcell (EP.here r vr q) hc) hd
 ·exact q.elim
theorem glob_eval (hS : Stat S) {x : Str} {pos : Pos} {v : Value} {A : Around} {E : Value → Shared → Prop} {T H env ρ s} {Q : Value → Shared → Prop} (r : SR S T H s) (fr : FR S T env ρ s)
  (hx : env.kindOf x = some .globalImplicit) (e : nsIn S.K mainGlobals x = some (some v)) (h : Q v s) (hd : (x == ("__debug__" : Str)) = false := by decide) : wpAny (model S.prog S.w) A (eval (.Name x pos) env) Q E s := by
 obtain ⟨_, _, mg, mb, t⟩ := hS.T
 refine Calls.Name_function_global fr.kind hx (Calls.loadGlobal_global (mg := mg) ?_ (mg_of hS.X t.g e) h) hd
 rw [fr.glob]; exact t.g.keeps (Stat.keep r)
theorem built_eval (hS : Stat S) {x : Str} {pos : Pos} {v : Value} {A : Around} {E : Value → Shared → Prop} {T H env ρ s} {Q : Value → Shared → Prop} (r : SR S T H s) (fr : FR S T env ρ s)
  (hx : env.kindOf x = some .globalImplicit) (e : nsIn S.K mainGlobals x = some none) (hv : bootBuiltins x = some v) (h : Q v s) (hn : x ≠ "__name__" := by decide) (hd : (x == ("__debug__" : Str)) = false := by decide) : wpAny (model S.prog S.w) A (eval (.Name x pos) env) Q E s := by
 obtain ⟨_, _, mg, mb, t⟩ := hS.T
 refine Calls.Name_function_global fr.kind hx (Calls.loadGlobal_builtin (mg := mg) (mb := mb) ?_ (mg_none_of hS.X t.g e) ?_ ((t.builtins x hn).trans hv) h) hd
 ·rw [fr.glob]; exact t.g.keeps (Stat.keep r)
 ·rw [fr.blt]; exact t.b.keeps (Stat.keep r)
noncomputable def nilW : ESW := fun _ H Q => Q [] H
noncomputable def consW (a : EW) (b : ESW) : ESW := fun ρ H Q => a ρ H fun v H' => b ρ H' fun vs H'' => Q (v :: vs) H''
theorem SEs.nil : SEs S sc n [] nilW := by
 intro A E T H env ρ s Q pos ro he r fr q
 exact Calls.spliced_nil ⟨T, H, [], .refl _ _ _, r, .nil, q⟩
theorem SEs.cons (hC : CloMono S.C) {e es a b} (h : SE S sc n e a) (k : SEs S sc n es b) (hs : ∀ env, starEach (e :: es) env = (false, eval e env) :: starEach es env := by intro _; rfl) : SEs S sc n (e :: es) (consW a b) := by
 intro A E T H env ρ s Q pos ro he r fr q
 rw [hs]
 have hb : backTo pos ((false, eval e env) :: starEach es env) = (false, eval e env) :: backTo pos (starEach es env) := rfl
 rw [hb]
 refine Calls.spliced_cons (h.run hC ro he r fr q fun T' H' v x s' g r' fr' vr q' => ?_)
 exact wpAny_mono (k (pos := pos) ro he r' fr' q') (fun xs s'' e => by obtain ⟨T₁, H₁, vs, g₁, r₁, vrs, q₁⟩ := e; exact ⟨T₁, H₁, v :: vs, g.trans g₁, r₁, .cons (vr.mono hC g₁.le) vrs, q₁⟩) fun _ _ e => e
theorem SEs.run (hC : CloMono S.C) {es W} (h : SEs S sc n es W) {A : Around} {E : Value → Shared → Prop} {T H env ρ s Q} {pos : Pos} {R : List Value → Shared → Prop} (ro : Roomy n A) (he : env.scope = sc) (r : SR S T H s) (fr : FR S T env ρ s) (hW : W ρ H Q)
  (k : ∀ T' H' v x s', Go [] T s T' s' → SR S T' H' s' → FR S T' env ρ s' → VRs S.C T' v x → Q v H' → R x s') :
  wpAny (model S.prog S.w) A (spliced (backTo pos (starEach es env))) R E s :=
 wpAny_mono (h ro he r fr hW) (fun x s' e => by obtain ⟨T', H', v, g, r', vr, q⟩ := e; exact k T' H' v x s' g r' (fr.go hC g) vr q) fun _ _ e => e
theorem no_size (h : Heap) : h.get? h.objs.size = none := by
 cases e : h.get? h.objs.size with
 | none => rfl
 | some o => exact absurd (Heap.lt_size e) (Nat.lt_irrefl _)
theorem SR.tup (hC : CloMono S.C) {T : Ty} {H s vs xs} (r : SR S T H s) (vr : VRs S.C T vs xs) :
  ∃ T', T'.ids = T.ids ∧ Go [] T s T' { s with heap := s.heap.push { cls := .type "tuple", data := .seq xs.toArray } } ∧ SR S T' H { s with heap := s.heap.push { cls := .type "tuple", data := .seq xs.toArray } } ∧ VR S.C T' (.tup vs) (.ref s.heap.objs.size) := by
 let T' : Ty := ⟨fun a => if a = s.heap.objs.size then some { cls := .type "tuple", data := .seq xs.toArray } else T.F a, T.ids⟩
 have lt : ∀ a o, T.F a = some o → a ≠ s.heap.objs.size := fun a o e => Nat.ne_of_lt (Heap.lt_size (r.fz a o e))
 have le : TyLe T T' := ⟨fun a o e => by show (if _ then _ else _) = _; rw [if_neg (lt a o e)]; exact e, List.prefix_refl _⟩
 have hk : ∀ a o, s.heap.get? a = some o → (s.heap.push { cls := .type "tuple", data := .seq xs.toArray }).get? a = some o := fun a o e => Heap.get?_push_of_some _ e
 refine ⟨T', rfl, ⟨⟨_, s.toks, rfl⟩, fun a o e _ _ => hk a o e, fun a o e => ⟨o, hk a o e⟩, le, fun a h => .inl h, fun a o e => ?_⟩, ⟨fun a o e => ?_, r.len, fun k a o e q => ?_, r.nd, fun a h => ?_, fun a o e => le.F a o (r.st a o e), r.low, let ⟨o, e⟩ := r.big; ⟨o, le.F _ _ e⟩⟩, .tup (a := s.heap.objs.size) (n := 0) (by show (if _ then _ else _) = _; rw [if_pos rfl]) (vr.mono hC le)⟩
 ·by_cases h : a = s.heap.objs.size
  ·exact .inr (h ▸ no_size s.heap)
  ·left; have e' : (if a = s.heap.objs.size then _ else T.F a) = some o := e; rw [if_neg h] at e'; exact e'
 ·by_cases h : a = s.heap.objs.size
  ·subst h
   have e' : (if s.heap.objs.size = s.heap.objs.size then some _ else T.F _) = some o := e
   rw [if_pos rfl] at e'
   cases e'
   exact Heap.get?_push_size _ rfl
  ·have e' : (if a = s.heap.objs.size then _ else T.F a) = some o := e
   rw [if_neg h] at e'; exact hk a o (r.fz a o e')
 ·exact ((r.obj k a o e q).mono hC le).keeps o fun b => hk a b
 ·show (if _ then _ else _) = _
  have : a ≠ s.heap.objs.size := Nat.ne_of_lt (r.lt h)
  rw [if_neg this]; exact r.dis a h
theorem mk_tuple {A : Around} {E : Value → Shared → Prop} {T H s vs xs} {Q : V → List AO → Prop} (hC : CloMono S.C) (r : SR S T H s) (vr : VRs S.C T vs xs) (hl : vs.length ≤ 1000) (q : Q (.tup vs) H) :
  wpAny (model S.prog S.w) A (newTuple xs) (EP S T s Q) E s := by
 obtain ⟨T', _, g, r', v⟩ := r.tup hC vr
 exact wpAny_newObj_type ⟨T', _, _, g, r', v, q⟩ (by show xs.toArray.size ≤ sizeLine; rw [List.size_toArray, sizeLine_eq, ← vr.length]; lia)
end
end Mine
end
section
open PySem PySem.W PyProof.Rows
set_option maxRecDepth 100000
namespace Mine
section
variable {S : Sur} {sc : Scope} {n : Nat}
theorem SR.alloc (hC : CloMono S.C) {T H s} (r : SR S T H s) {o : Obj} {ao : AO} (hf : o.isFreed = false)
  (ho : ∀ T', TyLe T T' → T'.ids = T.ids ++ [s.heap.objs.size] → OR S.prog S.w S.C S.cl T' (s.heap.push o) ao s.heap.objs.size) :
  ∃ T', T'.ids = T.ids ++ [s.heap.objs.size] ∧ Go [] T s T' { s with heap := s.heap.push o } ∧ SR S T' (H ++ [ao]) { s with heap := s.heap.push o } ∧ VR S.C T' (.ref H.length) (.ref s.heap.objs.size) := by
 let T' : Ty := ⟨T.F, T.ids ++ [s.heap.objs.size]⟩
 have le : TyLe T T' := ⟨fun _ _ e => e, List.prefix_append _ _⟩
 have hk : ∀ a x, s.heap.get? a = some x → (s.heap.push o).get? a = some x := fun a x e => Heap.get?_push_of_some _ e
 have hget : ∀ k a, (T.ids ++ [s.heap.objs.size])[k]? = some a → (k < H.length ∧ T.ids[k]? = some a) ∨ (k = H.length ∧ a = s.heap.objs.size) := fun k a e => by
  rw [List.getElem?_append] at e
  split at e
  ·rename_i h; exact .inl ⟨by rw [← r.len]; exact h, e⟩
  ·rename_i h
   have hk : k - T.ids.length = 0 := by
    rcases Nat.eq_zero_or_pos (k - T.ids.length) with z | z
    ·exact z
    ·rw [List.getElem?_eq_none (by show 1 ≤ _; exact z)] at e; cases e
   rw [hk] at e
   have := r.len
   exact .inr ⟨by lia, by simpa using e.symm⟩
 refine ⟨T', rfl, ⟨⟨_, s.toks, rfl⟩, fun a x e _ _ => hk a x e, fun a x e => ⟨x, hk a x e⟩, le, fun a h => ?_, fun a x e => .inl e⟩,
  ⟨fun a x e => hk a x (r.fz a x e), by show (T.ids ++ _).length = _; simp [r.len], fun k a x e q => ?_, ?_, fun a h => ?_, r.st, fun a h => ?_, r.big⟩, .ref (by show (T.ids ++ _)[_]? = _; rw [← r.len]; simp)⟩
 ·rcases List.mem_append.mp h with h | h
  ·exact .inl h
  ·simp at h; exact .inr (h ▸ no_size s.heap)
 ·rcases hget k a e with ⟨h1, h2⟩ | ⟨h1, h2⟩
  ·rw [List.getElem?_append_left h1] at q
   exact ((r.obj k a x h2 q).mono hC le).keeps x fun b => hk a b
  ·subst h1 h2
   simp at q; subst q
   exact ho T' le rfl
 ·show (T.ids ++ _).Nodup
  rw [List.nodup_append]
  refine ⟨r.nd, by simp, fun a h b hb => ?_⟩
  simp at hb; subst hb
  exact Nat.ne_of_lt (r.lt h)
 ·rcases List.mem_append.mp h with h | h
  ·exact r.dis a h
  ·simp at h; subst h
   cases q : T.F s.heap.objs.size with
   | none => rfl
   | some x => exact absurd (Heap.lt_size (r.fz _ _ q)) (Nat.lt_irrefl _)
 ·rcases List.mem_append.mp h with h | h
  ·exact r.low a h
  ·simp at h; subst h; exact r.gt
theorem SR.put {T H s} (r : SR S T H s) {k : Nat} {a : Addr} {ao : AO} {h' : Heap} {t : Tok} (hk : T.ids[k]? = some a) (hs : Heap.SameBut a s.heap h') (ho : OR S.prog S.w S.C S.cl T h' ao a) :
  Go [] T s T { s with heap := h', toks := t } ∧ SR S T (H.set k ao) { s with heap := h', toks := t } := by
 have hm : a ∈ T.ids := List.mem_of_getElem? hk
 have hne : ∀ b x, T.F b = some x → b ≠ a := fun b x e q => by subst q; rw [r.dis _ hm] at e; cases e
 refine ⟨⟨⟨h', t, rfl⟩, fun b x e n _ => (hs.2 b (fun q => n (q ▸ hm))).trans e, fun b x e => if q : b = a then q ▸ ho.has else ⟨x, (hs.2 b q).trans e⟩, .refl T, fun _ h => .inl h, fun _ _ h => .inl h⟩,
  ⟨fun b x e => (hs.2 b (hne b x e)).trans (r.fz b x e), by rw [List.length_set]; exact r.len, fun j b x e q => ?_, r.nd, r.dis, r.st, r.low, r.big⟩⟩
 by_cases hj : j = k
 ·subst hj
  rw [hk] at e; cases e
  have hlt : j < H.length := by rw [← r.len]; exact (List.getElem?_eq_some_iff.mp hk).1
  rw [List.getElem?_set_self hlt] at q
  cases q; exact ho
 ·rw [List.getElem?_set_ne (fun z => hj z.symm)] at q
  have hb : b ≠ a := fun z => by
   subst z
   have h1 := (List.getElem?_eq_some_iff.mp e)
   have h2 := (List.getElem?_eq_some_iff.mp hk)
   exact hj ((List.getElem_inj r.nd).mp (h1.2.trans h2.2.symm))
  exact (r.obj j b x e q).keeps x fun y => (hs.2 b hb).trans
theorem mk_list {A : Around} {E : Value → Shared → Prop} {T H s vs xs} {Q : V → List AO → Prop} (hC : CloMono S.C) (r : SR S T H s) (vr : VRs S.C T vs xs) (hl : vs.length ≤ 1000) (q : Q (.ref H.length) (H ++ [.list vs])) :
  wpAny (model S.prog S.w) A (newList xs) (EP S T s Q) E s := by
 refine wpAny_newObj_type ?_ (by show xs.toArray.size ≤ sizeLine; rw [List.size_toArray, sizeLine_eq, ← vr.length]; lia)
 obtain ⟨T', _, g, r', v⟩ := r.alloc hC (o := { cls := .type "list", data := .seq xs.toArray }) (ao := .list vs) rfl fun T' le _ => ⟨xs, 0, Heap.get?_push_size _ rfl, vr.mono hC le⟩
 exact ⟨T', _, _, g, r', v, q⟩
noncomputable def tupW (a : ESW) : EW := fun ρ H Q => a ρ H fun vs H' => vs.length ≤ 1000 ∧ Q (.tup vs) H'
noncomputable def listW (a : ESW) : EW := fun ρ H Q => a ρ H fun vs H' => vs.length ≤ 1000 ∧ Q (.ref H'.length) (H' ++ [.list vs])
noncomputable def dict0W : EW := fun _ H Q => Q (.ref H.length) (H ++ [.dict []])
theorem SE.tup (hC : CloMono S.C) {es k pos a} (h : SEs S sc n es a) : SE S sc n (.Tuple es k pos) (tupW a) := by
 intro A E T H env ρ s Q ro he r fr q
 refine Tuple_ (h.run hC ro he r fr q fun T' H' vs xs s' g r' fr' vr q' => ?_)
 exact wpAny_mono (mk_tuple hC r' vr q'.1 q'.2) (fun _ _ e => e.go g) fun _ _ e => e
theorem SE.list (hC : CloMono S.C) {es pos a} (h : SEs S sc n es a) : SE S sc n (.List es pos) (listW a) := by
 intro A E T H env ρ s Q ro he r fr q
 refine List_ (h.run hC ro he r fr q fun T' H' vs xs s' g r' fr' vr q' => ?_)
 exact wpAny_mono (mk_list hC r' vr q'.1 q'.2) (fun _ _ e => e.go g) fun _ _ e => e
theorem dict_new (prog : Program) (w : World) (h : Heap) : (h.push { cls := .type "dict", data := .dict #[] }).DictOf (intKind prog w) h.objs.size [] :=
 ⟨_, #[], 0, Heap.get?_push_size _ rfl, ⟨rfl, rfl, rfl⟩, rfl, fun _ he => by simp at he, .nil, List.nodup_nil⟩
theorem mk_dict0 {A : Around} {E : Value → Shared → Prop} {T H s} {Q : V → List AO → Prop} (hC : CloMono S.C) (r : SR S T H s) (q : Q (.ref H.length) (H ++ [.dict []])) :
  wpAny (model S.prog S.w) A newDict (EP S T s Q) E s := by
 refine wpAny_newObj_type ?_ (by exact Nat.zero_le _)
 obtain ⟨T', _, g, r', v⟩ := r.alloc hC (o := { cls := .type "dict", data := .dict #[] }) (ao := .dict []) rfl fun T' le _ => ⟨[], dict_new _ _ _, .nil⟩
 exact ⟨T', _, _, g, r', v, q⟩
theorem SE.dict0 (hC : CloMono S.C) {pos} : SE S sc n (.Dict [] [] pos) dict0W := by
 intro A E T H env ρ s Q ro he r fr q
 rw [eval_Dict_empty]
 exact wpAny_bind (wpAny_standAt (mk_dict0 hC r q))
noncomputable def binI (op : Operator) (x y : Int) (H : List AO) (Q : V → List AO → Prop) : Prop :=
 match op with
 | .Add => Q (.int (x + y)) H
 | .Sub => Q (.int (x - y)) H
 | .Mult => IntMulOk x y ∧ Q (.int (x * y)) H
 | .FloorDiv => y ≠ 0 ∧ y.natAbs < 1073741824 ∧ Q (.int (x.fdiv y)) H
 | .Mod => y ≠ 0 ∧ Q (.int (x.fmod y)) H
 | .Pow => 0 ≤ y ∧ (Builtin.Int.intBits x : Int) * y ≤ 2 ^ 27 ∧ Q (.int (x ^ y.toNat)) H
 | .LShift => 0 ≤ y ∧ y ≤ 1000000 ∧ x.natAbs < 2 ^ 64 ∧ Q (.int (x * 2 ^ y.toNat)) H
 | .RShift => 0 ≤ y ∧ Q (.int (x.fdiv (2 ^ y.toNat))) H
 | .BitAnd => Q (.int (Builtin.bitAnd x y)) H
 | .BitOr => Q (.int (Builtin.bitOr x y)) H
 | .BitXor => Q (.int (Builtin.bitXor x y)) H
 | _ => False
noncomputable def binT (op : Operator) (l r : List V) (H : List AO) (Q : V → List AO → Prop) : Prop :=
 match op with
 | .Add => l.length ≠ 0 ∧ r.length ≠ 0 ∧ l.length + r.length ≤ 1000 ∧ Q (.tup (l ++ r)) H
 | _ => False
noncomputable def binR (op : Operator) (i j : Nat) (H : List AO) (Q : V → List AO → Prop) : Prop :=
 match op with
 | .Add => ∃ l r, H[i]? = some (.list l) ∧ H[j]? = some (.list r) ∧ l.length + r.length ≤ 1000 ∧ Q (.ref H.length) (H ++ [.list (l ++ r)])
 | _ => False
noncomputable def ifI (b : V) (P : Int → Prop) : Prop := match b with | .int y => P y | _ => False
noncomputable def ifT (b : V) (P : List V → Prop) : Prop := match b with | .tup y => P y | _ => False
noncomputable def ifR (b : V) (P : Nat → Prop) : Prop := match b with | .ref y => P y | _ => False
theorem ifI_inv {b P} (h : ifI b P) : ∃ y, b = .int y ∧ P y := by cases b <;> first | exact ⟨_, rfl, h⟩ | exact h.elim
theorem ifT_inv {b P} (h : ifT b P) : ∃ y, b = .tup y ∧ P y := by cases b <;> first | exact ⟨_, rfl, h⟩ | exact h.elim
theorem ifR_inv {b P} (h : ifR b P) : ∃ y, b = .ref y ∧ P y := by cases b <;> first | exact ⟨_, rfl, h⟩ | exact h.elim
noncomputable def binV (op : Operator) (a b : V) (H : List AO) (Q : V → List AO → Prop) : Prop :=
 match a with
 | .int x => ifI b fun y => binI op x y H Q
 | .tup l => ifT b fun r => binT op l r H Q
 | .ref i => ifR b fun j => binR op i j H Q
 | _ => False
theorem VR.ref_inv {C T k x} (h : VR C T (.ref k) x) : ∃ a, x = .ref a ∧ T.ids[k]? = some a := by cases h with | ref e => exact ⟨_, rfl, e⟩
theorem VR.int_inv {C T k x} (h : VR C T (.int k) x) : ∃ t, x = .int k t := by cases h; exact ⟨_, rfl⟩
theorem VR.str_inv {C T k x} (h : VR C T (.str k) x) : ∃ t, x = .str (Str.ofString k) t := by cases h; exact ⟨_, rfl⟩
theorem VR.tup_inv {C T l x} (h : VR C T (.tup l) x) : ∃ a xs n, x = .ref a ∧ T.F a = some { cls := .type "tuple", data := .seq xs.toArray n } ∧ VRs C T l xs := by cases h with | tup e r => exact ⟨_, _, _, rfl, e, r⟩
theorem bin_ok (hC : CloMono S.C) {op a b A} {E : Value → Shared → Prop} {T H s Q x y} (ro : Roomy n A) (r : SR S T H s) (va : VR S.C T a x) (vb : VR S.C T b y) (q : binV op a b H Q) :
  wpAny (model S.prog S.w) A (binaryOp op x y) (EP S T s Q) E s := by
 cases a with
 | int a =>
  obtain ⟨b, rfl, q⟩ := ifI_inv q
  obtain ⟨t, rfl⟩ := va.int_inv; obtain ⟨u, rfl⟩ := vb.int_inv
  cases op with
  | Add => exact P.add_int (EP.tok r (.int _ _) q)
  | Sub => exact P.sub_int (EP.tok r (.int _ _) q)
  | Mult => exact P.mul_int (EP.tok r (.int _ _) q.2) q.1
  | FloorDiv => exact floordiv_int q.1 (EP.tok r (.int _ _) q.2.2) (.inl (PyProof.noPylong_small q.2.1))
  | Mod => exact mod_int_or ro.hd (fun h => absurd h q.1) fun _ => EP.tok r (.int _ _) q.2
  | Pow => exact pow_int q.1 q.2.1 (EP.tok r (.int _ _) q.2.2)
  | LShift => exact lshift_int_small q.1 q.2.1 q.2.2.1 (EP.tok r (.int _ _) q.2.2.2)
  | RShift => exact rshift_int q.1 (EP.tok r (.int _ _) q.2)
  | BitAnd => exact and_int (EP.tok r (.int _ _) q)
  | BitOr => exact or_int (EP.tok r (.int _ _) q)
  | BitXor => exact xor_int (EP.tok r (.int _ _) q)
  | _ => exact q.elim
 | tup l =>
  obtain ⟨r₂, rfl, q⟩ := ifT_inv q
  cases op with
  | Add =>
   obtain ⟨a, xs, n, rfl, ea, ra⟩ := va.tup_inv; obtain ⟨b, ys, m, rfl, eb, rb⟩ := vb.tup_inv
   have l1 := ra.length; have l2 := rb.length
   obtain ⟨q1, q2, q3, q⟩ := q
   refine P.add_tuple (r.fz _ _ ea) (r.fz _ _ eb) (by intro h; simp at h; subst h; exact q1 l1) (by intro h; simp at h; subst h; exact q2 l2) ?_ (by rw [sizeLine_eq, List.size_toArray, List.size_toArray]; lia)
   obtain ⟨T', _, g, r', v⟩ := r.tup hC (ra.append rb)
   rw [List.append_toArray]
   exact ⟨T', _, _, g, r', v, q⟩
  | _ => exact q.elim
 | ref i =>
  obtain ⟨j, rfl, q⟩ := ifR_inv q
  cases op with
  | Add =>
   obtain ⟨a, rfl, ea⟩ := va.ref_inv; obtain ⟨b, rfl, eb⟩ := vb.ref_inv
   obtain ⟨l, r₂, h1, h2, q3, q⟩ := q
   obtain ⟨xs, _, e1, v1⟩ := r.at ea h1
   obtain ⟨ys, _, e2, v2⟩ := r.at eb h2
   have l1 := v1.length; have l2 := v2.length
   refine P.add_list e1 e2 ?_ (by rw [sizeLine_eq, List.size_toArray, List.size_toArray]; lia)
   rw [List.append_toArray]
   obtain ⟨T', _, g, r', v⟩ := r.alloc hC (o := { cls := .type "list", data := .seq (xs ++ ys).toArray }) (ao := .list (l ++ r₂)) rfl fun T' le _ => ⟨xs ++ ys, 0, Heap.get?_push_size _ rfl, (v1.append v2).mono hC le⟩
   exact ⟨T', _, _, g, r', v, q⟩
  | _ => exact q.elim
 | _ => exact q.elim
noncomputable def binW (op : Operator) (a b : EW) : EW := fun ρ H Q => a ρ H fun x H' => b ρ H' fun y H'' => binV op x y H'' Q
theorem SE.bin (hC : CloMono S.C) {op l r pos a b} (ha : SE S sc n l a) (hb : SE S sc n r b) : SE S sc n (.BinOp l op r pos) (binW op a b) := by
 intro A E T H env ρ s Q ro he r fr q
 refine wpAny_BinOp (ha.run hC ro he r fr q fun T₁ H₁ v x s₁ g₁ r₁ fr₁ v₁ q₁ => hb.run hC ro he r₁ fr₁ q₁ fun T₂ H₂ u y s₂ g₂ r₂ fr₂ v₂ q₂ => ?_)
 exact wpAny_mono (bin_ok hC ro r₂ (v₁.mono hC g₂.le) v₂ q₂) (fun _ _ e => e.go (g₁.trans g₂)) fun _ _ e => e
noncomputable def inpI (op : Operator) (x y : Int) (H : List AO) (Q : V → List AO → Prop) : Prop :=
 match op with
 | .Add => Q (.int (x + y)) H
 | .Sub => Q (.int (x - y)) H
 | .BitAnd => Q (.int (Builtin.bitAnd x y)) H
 | .BitOr => Q (.int (Builtin.bitOr x y)) H
 | _ => False
noncomputable def inpV (op : Operator) (a b : V) (H : List AO) (Q : V → List AO → Prop) : Prop := ifI a fun x => ifI b fun y => inpI op x y H Q
theorem inp_ok {op a b A} {E : Value → Shared → Prop} {T H s Q x y} (r : SR S T H s) (va : VR S.C T a x) (vb : VR S.C T b y) (q : inpV op a b H Q) :
  wpAny (model S.prog S.w) A (inplaceOp op x y) (EP S T s Q) E s := by
 obtain ⟨a, rfl, q1⟩ := ifI_inv q
 obtain ⟨b, rfl, q⟩ := ifI_inv q1
 obtain ⟨t, rfl⟩ := va.int_inv; obtain ⟨u, rfl⟩ := vb.int_inv
 cases op with
 | Add => exact P.iadd_int (EP.tok r (.int _ _) q)
 | Sub => exact P.isub_int (EP.tok r (.int _ _) q)
 | BitAnd => exact iand_int (EP.tok r (.int _ _) q)
 | BitOr => exact ior_int (EP.tok r (.int _ _) q)
 | _ => exact q.elim
noncomputable def negW (a : EW) : EW := fun ρ H Q => a ρ H fun v H' => ifI v fun i => Q (.int (-i)) H'
theorem SE.neg (hC : CloMono S.C) {e pos a} (h : SE S sc n e a) : SE S sc n (.UnaryOp .USub e pos) (negW a) := by
 intro A E T H env ρ s Q ro he r fr q
 refine UnaryOp_ (h.run hC ro he r fr q fun T₁ H₁ v x s₁ g₁ r₁ fr₁ v₁ q₁ => ?_)
 obtain ⟨i, rfl, q₁⟩ := ifI_inv q₁
 obtain ⟨t, rfl⟩ := v₁.int_inv
 exact P.neg_int ((EP.tok r₁ (.int _ _) q₁).go g₁)
end
end Mine
end
section
open PySem PySem.W PyProof.Rows
set_option maxRecDepth 100000
namespace Mine
noncomputable def dget (d : List (Int × V)) (k : Int) : Option V := (d.find? fun p => p.1 = k).map (·.2)
noncomputable def dput (d : List (Int × V)) (k : Int) (v : V) : List (Int × V) :=
 if d.any (fun p => p.1 = k) then d.map (fun p => if p.1 = k then (p.1, v) else p) else d ++ [(k, v)]
theorem Pairs.get {C T d e} (h : Pairs C T d e) (k : Int) : OV C T (dget d k) (valueAt e k) := by
 induction h with
 | nil => exact .none
 | @cons j v x d e r _ ih =>
  unfold dget valueAt at ih ⊢
  rw [List.find?_cons, List.find?_cons]
  by_cases hj : j = k
  ·simp only [hj, decide_true]; exact .some r
  ·simp only [hj, decide_false]; exact ih
theorem Pairs.any {C T d e} (h : Pairs C T d e) (k : Int) : d.any (fun p => p.1 = k) = e.any (fun p => p.1 = k) := by
 induction h with
 | nil => rfl
 | @cons j v x d e r _ ih => rw [List.any_cons, List.any_cons, ih]
theorem Pairs.map {C T d e} (h : Pairs C T d e) (k : Int) {v x} (r : VR C T v x) : Pairs C T (d.map (fun p => if p.1 = k then (p.1, v) else p)) (e.map (fun p => if p.1 = k then (p.1, x) else p)) := by
 induction h with
 | nil => exact .nil
 | @cons j u y d e r' _ ih =>
  rw [List.map_cons, List.map_cons]
  by_cases hj : j = k
  ·simp only [hj, if_true]; exact .cons r ih
  ·simp only [hj, if_false]; exact .cons r' ih
theorem Pairs.snoc {C T d e} (h : Pairs C T d e) (k : Int) {v x} (r : VR C T v x) : Pairs C T (d ++ [(k, v)]) (e ++ [(k, x)]) := by
 induction h with
 | nil => exact .cons r .nil
 | cons r' _ ih => exact .cons r' ih
theorem Pairs.put {C T d e} (h : Pairs C T d e) (k : Int) {v x} (r : VR C T v x) : Pairs C T (dput d k v) (stored e k x) := by
 unfold dput stored
 rw [h.any k]
 split
 ·exact h.map k r
 ·exact h.snoc k r
theorem Pairs.length {C T d e} (h : Pairs C T d e) : d.length = e.length := by
 induction h with
 | nil => rfl
 | cons _ _ ih => rw [List.length_cons, List.length_cons, ih]
mutual
inductive VEq (H : List AO) : Nat → V → V → Prop
 | none {n} : VEq H n .none .none
 | int {n} (i : Int) : VEq H n (.int i) (.int i)
 | str {n} {s : String} : PyData.strOk (Str.ofString s) = true → VEq H n (.str s) (.str s)
 | tup {n l r} : VEqs H n l r → VEq H (n + 1) (.tup l) (.tup r)
 | ref {n i j l r} : H[i]? = some (.list l) → H[j]? = some (.list r) → VEqs H n l r → VEq H (n + 1) (.ref i) (.ref j)
inductive VEqs (H : List AO) : Nat → List V → List V → Prop
 | nil {n} : VEqs H n [] []
 | cons {n a b l r} : VEq H n a b → VEqs H n l r → VEqs H n (a :: l) (b :: r)
end
theorem VEq.reads {S : Sur} {T H s} (r : SR S T H s) {n a b} (h : VEq H n a b) : ∀ {x y}, VR S.C T a x → VR S.C T b y → ∃ d as bs, Reads s.heap x d as ∧ Reads s.heap y d bs ∧ d.canLay0 = true ∧ d.depth ≤ n := by
 refine VEq.rec (motive_1 := fun n a b _ => ∀ {x y}, VR S.C T a x → VR S.C T b y → ∃ d as bs, Reads s.heap x d as ∧ Reads s.heap y d bs ∧ d.canLay0 = true ∧ d.depth ≤ n)
  (motive_2 := fun n a b _ => ∀ {x y}, VRs S.C T a x → VRs S.C T b y → ∃ d as bs, ReadsAll s.heap x d as ∧ ReadsAll s.heap y d bs ∧ PyData.canLayAll0 d = true ∧ PyData.depthAll d ≤ n) ?_ ?_ ?_ ?_ ?_ ?_ ?_ h
 ·intro n x y va vb
  cases va; cases vb
  exact ⟨_, _, _, Reads.none, Reads.none, rfl, Nat.zero_le _⟩
 ·intro n i x y va vb
  obtain ⟨t, rfl⟩ := va.int_inv; obtain ⟨u, rfl⟩ := vb.int_inv
  exact ⟨_, _, _, Reads.int i t, Reads.int i u, rfl, Nat.zero_le _⟩
 ·intro n i h x y va vb
  obtain ⟨t, rfl⟩ := va.str_inv; obtain ⟨u, rfl⟩ := vb.str_inv
  exact ⟨_, _, _, Reads.str _ t, Reads.str _ u, h, Nat.zero_le _⟩
 ·intro n l r₂ _ ih x y va vb
  obtain ⟨a, xs, _, rfl, ea, va⟩ := va.tup_inv; obtain ⟨b, ys, _, rfl, eb, vb⟩ := vb.tup_inv
  obtain ⟨d, as, bs, h1, h2, h3, h4⟩ := ih va vb
  exact ⟨.tuple d, _, _, reads_tuple_at (r.fz _ _ ea) rfl rfl (by simpa using h1), reads_tuple_at (r.fz _ _ eb) rfl rfl (by simpa using h2), h3, Nat.succ_le_succ h4⟩
 ·intro n i j l r₂ e1 e2 _ ih x y va vb
  obtain ⟨a, rfl, ea⟩ := va.ref_inv; obtain ⟨b, rfl, eb⟩ := vb.ref_inv
  obtain ⟨xs, _, g1, va⟩ := r.at ea e1
  obtain ⟨ys, _, g2, vb⟩ := r.at eb e2
  obtain ⟨d, as, bs, h1, h2, h3, h4⟩ := ih va vb
  exact ⟨.list d, _, _, reads_list_at g1 rfl rfl (by simpa using h1), reads_list_at g2 rfl rfl (by simpa using h2), h3, Nat.succ_le_succ h4⟩
 ·intro n x y va vb
  cases va; cases vb
  exact ⟨[], _, _, ReadsAll.nil, ReadsAll.nil, rfl, Nat.zero_le _⟩
 ·intro n a b l r₂ _ _ i1 i2 x y va vb
  cases va with | cons a as => cases vb with | cons b bs =>
  obtain ⟨d, _, _, h1, h2, h3, h4⟩ := i1 a b
  obtain ⟨ds, _, _, k1, k2, k3, k4⟩ := i2 as bs
  exact ⟨d :: ds, _, _, ReadsAll.cons h1 k1, ReadsAll.cons h2 k2, by simp only [PyData.canLayAll0, h3, k3]; rfl, Nat.max_le.mpr ⟨h4, k4⟩⟩
noncomputable def cmpI (op : CmpOp) (x y : Int) (Q : Bool → Prop) : Prop :=
 match op with
 | .Eq => Q (x == y)
 | .NotEq => Q (x != y)
 | .Lt => Q (decide (x < y))
 | .LtE => Q (decide (x ≤ y))
 | .Gt => Q (decide (x > y))
 | .GtE => Q (decide (x ≥ y))
 | _ => False
noncomputable def cmpD (op : CmpOp) (a b : V) (H : List AO) (Q : Bool → Prop) : Prop :=
 match op with
 | .Eq => VEq H 20 a b ∧ Q true
 | .NotEq => VEq H 20 a b ∧ Q false
 | _ => False
noncomputable def cmpIR (op : CmpOp) (x : Int) (k : Nat) (H : List AO) (Q : Bool → Prop) : Prop :=
 match op with
 | .In => (∃ d, H[k]? = some (.dict d) ∧ Q (dget d x).isSome) ∨ (∃ l : List Int, H[k]? = some (.list (l.map V.int)) ∧ Q (l.any (· == x)))
 | .NotIn => (∃ d, H[k]? = some (.dict d) ∧ Q (!(dget d x).isSome)) ∨ (∃ l : List Int, H[k]? = some (.list (l.map V.int)) ∧ Q (!(l.any (· == x))))
 | _ => cmpD op (.int x) (.ref k) H Q
noncomputable def cmpST (op : CmpOp) (x : String) (l : List V) (H : List AO) (Q : Bool → Prop) : Prop :=
 match op with
 | .In => ∃ ss : List String, l = ss.map V.str ∧ Q (ss.any (· == x))
 | .NotIn => ∃ ss : List String, l = ss.map V.str ∧ Q (!(ss.any (· == x)))
 | _ => cmpD op (.str x) (.tup l) H Q
noncomputable def cmpSS (op : CmpOp) (x y : String) (H : List AO) (Q : Bool → Prop) : Prop :=
 match op with
 | .Eq => Q (x == y)
 | _ => cmpD op (.str x) (.str y) H Q
noncomputable def cmpQ (op : CmpOp) (a b : V) (H : List AO) (Q : Bool → Prop) : Prop :=
 match a with
 | .int x => (match b with | .int y => cmpI op x y Q | .ref k => cmpIR op x k H Q | b => cmpD op (.int x) b H Q)
 | .str x => (match b with | .str y => cmpSS op x y H Q | .tup l => cmpST op x l H Q | b => cmpD op (.str x) b H Q)
 | a => cmpD op a b H Q
noncomputable def cmpV (op : CmpOp) (a b : V) (H : List AO) (Q : V → List AO → Prop) : Prop := cmpQ op a b H fun c => Q (.bool c) H
section
variable {S : Sur} {sc : Scope} {n : Nat}
theorem VRs.ints {C T} {l : List Int} : ∀ {xs}, VRs C T (l.map .int) xs → IntsAre xs l := by
 induction l with
 | nil => intro xs h; cases h; exact .nil
 | cons i l ih => intro xs h; cases h with
  | cons a r => obtain ⟨t, rfl⟩ := VR.int_inv a; exact .cons _ _ (ih r)
theorem VRs.strs {C T} {l : List String} : ∀ {xs}, VRs C T (l.map .str) xs → StrsAre xs (l.map Str.ofString) := by
 induction l with
 | nil => intro xs h; cases h; exact .nil
 | cons i l ih => intro xs h; cases h with
  | cons a r => obtain ⟨t, rfl⟩ := VR.str_inv a; exact .cons _ _ (ih r)
theorem beq_ofString (y x : String) : (Str.ofString y == Str.ofString x) = (y == x) := by
 by_cases h : y = x
 ·subst h; rw [beq_self_eq_true, beq_self_eq_true]
 ·rw [beq_eq_false_iff_ne.mpr h]
  exact beq_eq_false_iff_ne.mpr fun e => h (ofString_inj e)
theorem any_ofString (l : List String) (x : String) : (l.map Str.ofString).any (· == Str.ofString x) = l.any (· == x) := by
 rw [List.any_map]
 congr 1
 funext y
 exact beq_ofString y x
theorem eq_ofString (x y : String) : ((Str.ofString x).cps.toList == (Str.ofString y).cps.toList) = (x == y) := by
 by_cases h : x = y
 ·subst h; rw [beq_self_eq_true, beq_self_eq_true]
 ·rw [beq_eq_false_iff_ne.mpr h]
  refine beq_eq_false_iff_ne.mpr fun e => h (ofString_inj ?_)
  have := Array.toList_inj.mp e
  cases hx : Str.ofString x; cases hy : Str.ofString y; rw [hx, hy] at this; exact congrArg Str.mk this
theorem not_modules {T : Ty} {H : List AO} {s : Shared} {k a : Nat} (r : SR S T H s) (hk : T.ids[k]? = some a) : (a == sysModules) = false := by
 have := r.low a (List.mem_of_getElem? hk)
 cases q : (a == sysModules) with
 | false => rfl
 | true =>
  have q' : a = 1 := eq_of_beq q
  subst q'
  exact absurd this (by decide)
theorem isSome_ov {C T v o} (h : OV C T v o) : o.isSome = v.isSome := by cases h <;> rfl
theorem cmpD_ok {op a b A} {E : Value → Shared → Prop} {T H s Q x y} (ro : Roomy n A) (r : SR S T H s) (va : VR S.C T a x) (vb : VR S.C T b y) (q : cmpD op a b H fun c => Q (.bool c) H) :
  wpAny (model S.prog S.w) A (compareOp op x y) (EP S T s Q) E s := by
 have hu : A.units + 64 < cLine := by have := ro.units; have : cLine = 9900 := rfl; lia
 cases op with
 | Eq =>
  obtain ⟨d, as, bs, h1, h2, h3, h4⟩ := q.1.reads r va vb
  have hs : SeqAt.shaped d = true := by show (d.canLay0 && decide (d.depth ≤ 64)) = true; rw [h3, decide_eq_true (by lia)]; rfl
  refine eq_dataH h1 h2 hs hs hu ?_
  rw [SeqAt.eqv_refl d h3]
  exact EP.here r (.bool _) q.2
 | NotEq =>
  obtain ⟨d, as, bs, h1, h2, h3, h4⟩ := q.1.reads r va vb
  have hs : SeqAt.shaped d = true := by show (d.canLay0 && decide (d.depth ≤ 64)) = true; rw [h3, decide_eq_true (by lia)]; rfl
  refine ne_dataH h1 h2 hs hs hu ?_
  rw [SeqAt.eqv_refl d h3]
  exact EP.here r (.bool _) q.2
 | _ => exact q.elim
theorem cmp_ok {op a b A} {E : Value → Shared → Prop} {T H s Q x y} (ro : Roomy n A) (r : SR S T H s) (va : VR S.C T a x) (vb : VR S.C T b y) (q : cmpV op a b H Q) :
  wpAny (model S.prog S.w) A (compareOp op x y) (EP S T s Q) E s := by
 cases a with
 | int i =>
  cases b with
  | int j =>
   obtain ⟨t, rfl⟩ := va.int_inv; obtain ⟨u, rfl⟩ := vb.int_inv
   cases op with
   | Eq => exact P.eq_int (EP.here r (.bool _) q)
   | NotEq => exact P.ne_int (EP.here r (.bool _) q)
   | Lt => exact P.lt_int (EP.here r (.bool _) q)
   | LtE => exact P.le_int (EP.here r (.bool _) q)
   | Gt => exact P.gt_int (EP.here r (.bool _) q)
   | GtE => exact P.ge_int (EP.here r (.bool _) q)
   | _ => exact q.elim
  | ref k =>
   cases op with
   | In =>
    obtain ⟨t, rfl⟩ := va.int_inv; obtain ⟨b, rfl, eb⟩ := vb.ref_inv
    rcases q with ⟨d, hd, q⟩ | ⟨l, hl, q⟩
    ·obtain ⟨e, h1, h2⟩ := r.at eb hd
     refine wpAny_in_of (intKind_is _ _ _ _) (not_modules r eb) h1.mapOf ?_
     rw [isSome_ov (h2.get _)]
     exact EP.tok r (.bool _) q
    ·obtain ⟨xs, m, h1, h2⟩ := r.at eb hl
     exact in_list_ints ⟨_, h1, rfl, m, rfl⟩ h2.ints (EP.here r (.bool _) q)
   | NotIn =>
    obtain ⟨t, rfl⟩ := va.int_inv; obtain ⟨b, rfl, eb⟩ := vb.ref_inv
    rcases q with ⟨d, hd, q⟩ | ⟨l, hl, q⟩
    ·obtain ⟨e, h1, h2⟩ := r.at eb hd
     refine wpAny_notIn_of (intKind_is _ _ _ _) (not_modules r eb) h1.mapOf ?_
     rw [isSome_ov (h2.get _)]
     exact EP.tok r (.bool _) q
    ·obtain ⟨xs, m, h1, h2⟩ := r.at eb hl
     exact notin_list_ints ⟨_, h1, rfl, m, rfl⟩ h2.ints (EP.here r (.bool _) q)
   | _ => exact cmpD_ok ro r va vb q
  | _ => exact cmpD_ok ro r va vb q
 | str i =>
  cases b with
  | str j =>
   cases op with
   | Eq =>
    obtain ⟨t, rfl⟩ := va.str_inv; obtain ⟨u, rfl⟩ := vb.str_inv
    refine P.eq_str ?_
    rw [eq_ofString]
    exact EP.here r (.bool _) q
   | _ => exact cmpD_ok ro r va vb q
  | tup l =>
   cases op with
   | In =>
    obtain ⟨t, rfl⟩ := va.str_inv; obtain ⟨b, xs, m, rfl, eb, rb⟩ := vb.tup_inv
    obtain ⟨ss, rfl, q⟩ := q
    refine in_tuple_strs ⟨_, r.fz _ _ eb, rfl, m, rfl⟩ (by simpa using rb.strs) ?_
    rw [any_ofString]
    exact EP.here r (.bool _) q
   | NotIn =>
    obtain ⟨t, rfl⟩ := va.str_inv; obtain ⟨b, xs, m, rfl, eb, rb⟩ := vb.tup_inv
    obtain ⟨ss, rfl, q⟩ := q
    refine notin_tuple_strs ⟨_, r.fz _ _ eb, rfl, m, rfl⟩ (by simpa using rb.strs) ?_
    rw [any_ofString]
    exact EP.here r (.bool _) q
   | _ => exact cmpD_ok ro r va vb q
  | _ => exact cmpD_ok ro r va vb q
 | _ => exact cmpD_ok ro r va vb q
theorem TP.here {T : Ty} {s : Shared} {Q : Bool → List AO → Prop} {b : Bool} {H} (r : SR S T H s) (q : Q b H) : TP S T s Q b s := ⟨T, H, .refl _ _ _, r, q⟩
noncomputable def truV (v : V) (H : List AO) (Q : Bool → List AO → Prop) : Prop :=
 match v with
 | .bool b => Q b H
 | .int i => Q (i != 0) H
 | .none => Q false H
 | _ => False
theorem tru_ok {v A} {E : Value → Shared → Prop} {T H s Q x} (r : SR S T H s) (va : VR S.C T v x) (q : truV v H Q) :
  wpAny (model S.prog S.w) A (truthy x) (TP S T s Q) E s := by
 cases v with
 | bool b => cases va; exact wpAny_truthy_bool (TP.here r q)
 | int i => obtain ⟨t, rfl⟩ := va.int_inv; exact P.truthy_int (TP.here r q)
 | none => cases va; exact truthy_none (TP.here r q)
 | _ => exact False.elim q
theorem ST.run (hC : CloMono S.C) {e W} (h : ST S sc n e W) {A : Around} {E : Value → Shared → Prop} {T H env ρ s Q} {R : Bool → Shared → Prop} (ro : Roomy n A) (he : env.scope = sc) (r : SR S T H s) (fr : FR S T env ρ s) (hW : W ρ H Q)
  (k : ∀ T' H' b s', Go [] T s T' s' → SR S T' H' s' → FR S T' env ρ s' → Q b H' → R b s') :
  wpAny (model S.prog S.w) A (isTrue e env (eval e env)) R E s :=
 wpAny_mono (h ro he r fr hW) (fun b s' e => by obtain ⟨T', H', g, r', q⟩ := e; exact k T' H' b s' g r' (fr.go hC g) q) fun _ _ e => e
noncomputable def plainTW (a : EW) : TW := fun ρ H Q => a ρ H fun v H' => truV v H' Q
theorem ST.plain (hC : CloMono S.C) {e a} (h : SE S sc n e a) (hp : ∀ env whole, isTrue e env whole = (do let v ← whole; standAt e.pos; holding [v] (truthy v)) := by intros; rfl) : ST S sc n e (plainTW a) := by
 intro A E T H env ρ s Q ro he r fr q
 refine isTrue_plain (h.run hC ro he r fr q fun T₁ H₁ v x s₁ g₁ r₁ fr₁ v₁ q₁ => ?_) (hp _ _)
 exact wpAny_mono (tru_ok r₁ v₁ q₁) (fun _ _ e => e.go g₁) fun _ _ e => e
noncomputable def cmpW (op : CmpOp) (a b : EW) : EW := fun ρ H Q => a ρ H fun x H' => b ρ H' fun y H'' => cmpV op x y H'' Q
theorem SE.cmp (hC : CloMono S.C) {op l r pos a b} (ha : SE S sc n l a) (hb : SE S sc n r b) (hm : behindInMarks op r = false := by with_unfolding_all rfl) : SE S sc n (.Compare l [op] [r] pos) (cmpW op a b) := by
 intro A E T H env ρ s Q ro he r fr q
 refine wpAny_Compare1 (ha.run hC ro he r fr q fun T₁ H₁ v x s₁ g₁ r₁ fr₁ v₁ q₁ => hb.run hC ro he r₁ fr₁ q₁ fun T₂ H₂ u y s₂ g₂ r₂ fr₂ v₂ q₂ => ?_) hm
 exact wpAny_mono (cmp_ok ro r₂ (v₁.mono hC g₂.le) v₂ q₂) (fun _ _ e => e.go (g₁.trans g₂)) fun _ _ e => e
noncomputable def cmpTW (op : CmpOp) (a b : EW) : TW := fun ρ H Q => a ρ H fun x H' => b ρ H' fun y H'' => cmpV op x y H'' fun v H₃ => truV v H₃ Q
theorem ST.cmp (hC : CloMono S.C) {op l r pos a b} (ha : SE S sc n l a) (hb : SE S sc n r b) (hm : behindInMarks op r = false := by with_unfolding_all rfl) : ST S sc n (.Compare l [op] [r] pos) (cmpTW op a b) := by
 intro A E T H env ρ s Q ro he r fr q
 refine wpAny_isTrue_Compare1 (ha.run hC ro he r fr q fun T₁ H₁ v x s₁ g₁ r₁ fr₁ v₁ q₁ => hb.run hC ro he r₁ fr₁ q₁ fun T₂ H₂ u y s₂ g₂ r₂ fr₂ v₂ q₂ => ?_) hm
 refine wpAny_mono (cmp_ok ro r₂ (v₁.mono hC g₂.le) v₂ q₂) (fun z s₃ e => ?_) fun _ _ e => e
 obtain ⟨T₃, H₃, v₃, g₃, r₃, vr₃, q₃⟩ := e
 exact wpAny_mono (tru_ok r₃ vr₃ q₃) (fun _ _ e => e.go (g₁.trans (g₂.trans g₃))) fun _ _ e => e
noncomputable def chain2TW (op op' : CmpOp) (a b c : EW) : TW := fun ρ H Q => a ρ H fun x H₁ => b ρ H₁ fun y H₂ => cmpV op x y H₂ fun v H₃ => truV v H₃ fun t H₄ =>
 if t then c ρ H₄ fun z H₅ => cmpV op' y z H₅ fun v H₆ => truV v H₆ Q else Q false H₄
theorem testChain_link {M : Model} {A : Around} {E : Value → Shared → Prop} {s : Shared} {pos : Pos} {a : Value} {op op' : CmpOp} {ops : List CmpOp} {r r' : Sem Value} {rs : List (Sem Value)} {Q : Bool → Shared → Prop}
  (h : wpAny M A r (fun b s₁ => wpAny M A (compareOp op a b) (fun c s₂ => wpAny M A (truthy c)
   (fun t s₃ => if t then wpAny M A (testChain pos b (op' :: ops) (r' :: rs)) Q E s₃ else Q false s₃) E s₂) E s₁) E s) :
  wpAny M A (testChain pos a (op :: op' :: ops) (r :: r' :: rs)) Q E s := by
 show wpAny M A (do
  let rv ← holding [a] r
  standAt pos
  let c ← holding [a, rv] (compareOp op a rv)
  release [a, rv] [c]
  if ← holding [c, rv] (truthy c) then testChain pos rv (op' :: ops) (r' :: rs) else pure false) Q E s
 refine wpAny_bind (wpAny_holding (wpAny_mono h (fun b s₁ h₁ => wpAny_bind (wpAny_standAt (wpAny_bind (wpAny_holding (wpAny_mono h₁ (fun c s₂ h₂ =>
  wpAny_bind (wpAny_release' (wpAny_bind (wpAny_holding (wpAny_mono h₂ (fun t s₃ h₃ => ?_) fun _ _ x => x))))) fun _ _ x => x))))) fun _ _ x => x))
 cases t with
 | false => exact wpAny_pure h₃
 | true => exact h₃
theorem testChain_last {M : Model} {A : Around} {E : Value → Shared → Prop} {s : Shared} {pos : Pos} {a : Value} {op : CmpOp} {r : Sem Value} {Q : Bool → Shared → Prop}
  (h : wpAny M A r (fun b s₁ => wpAny M A (compareOp op a b) (fun c s₂ => wpAny M A (truthy c) Q E s₂) E s₁) E s) : wpAny M A (testChain pos a [op] [r]) Q E s := by
 show wpAny M A (do
  let rv ← holding [a] r
  standAt pos
  let c ← operate [a, rv] (compareOp op a rv)
  holding [c] (truthy c)) Q E s
 exact wpAny_bind (wpAny_holding (wpAny_mono h (fun b s₁ h₁ => wpAny_bind (wpAny_standAt (wpAny_bind (wpAny_operate' (wpAny_mono h₁ (fun c s₂ h₂ => wpAny_holding h₂) fun _ _ x => x))))) fun _ _ x => x))
theorem ST.chain2 (hC : CloMono S.C) {op op' l r r' pos a b c} (ha : SE S sc n l a) (hb : SE S sc n r b) (hc : SE S sc n r' c) (hm : lastMarks [op, op'] [r, r'] = false := by with_unfolding_all rfl) :
  ST S sc n (.Compare l [op, op'] [r, r'] pos) (chain2TW op op' a b c) := by
 intro A E T H env ρ s Q ro he r fr q
 refine isTrue_chain (ha.run hC ro he r fr q fun T₁ H₁ v x s₁ g₁ r₁ fr₁ v₁ q₁ => testChain_link (hb.run hC ro he r₁ fr₁ q₁ fun T₂ H₂ u y s₂ g₂ r₂ fr₂ v₂ q₂ => ?_)) hm
 refine wpAny_mono (cmp_ok ro r₂ (v₁.mono hC g₂.le) v₂ q₂) (fun z s₃ e => ?_) fun _ _ e => e
 obtain ⟨T₃, H₃, v₃, g₃, r₃, vr₃, q₃⟩ := e
 refine wpAny_mono (tru_ok r₃ vr₃ q₃) (fun t s₄ e => ?_) fun _ _ e => e
 obtain ⟨T₄, H₄, g₄, r₄, q₄⟩ := e
 have g := g₁.trans (g₂.trans (g₃.trans g₄))
 cases t with
 | false => exact ⟨T₄, H₄, g, r₄, q₄⟩
 | true =>
  rw [if_pos rfl]
  refine testChain_last (hc.run hC ro he r₄ (fr.go hC g) q₄ fun T₅ H₅ v₅ x₅ s₅ g₅ r₅ fr₅ vr₅ q₅ => ?_)
  refine wpAny_mono (cmp_ok ro r₅ (v₂.mono hC (g₃.trans (g₄.trans g₅)).le) vr₅ q₅) (fun z s₆ e => ?_) fun _ _ e => e
  obtain ⟨T₆, H₆, v₆, g₆, r₆, vr₆, q₆⟩ := e
  exact wpAny_mono (tru_ok r₆ vr₆ q₆) (fun _ _ e => e.go (g.trans (g₅.trans g₆))) fun _ _ e => e
noncomputable def notTW (a : TW) : TW := fun ρ H Q => a ρ H fun b H' => Q (!b) H'
noncomputable def andTW (a b : TW) : TW := fun ρ H Q => a ρ H fun c H' => if c then b ρ H' Q else Q false H'
noncomputable def orTW (a b : TW) : TW := fun ρ H Q => a ρ H fun c H' => if c then Q true H' else b ρ H' Q
noncomputable def trueTW (b : Bool) : TW := fun _ H Q => Q b H
theorem ST.not (hC : CloMono S.C) {e pos a} (h : ST S sc n e a) : ST S sc n (.UnaryOp .Not e pos) (notTW a) := by
 intro A E T H env ρ s Q ro he r fr q
 exact isTrue_not (h.run hC ro he r fr q fun T₁ H₁ b s₁ g₁ r₁ fr₁ q₁ => ⟨T₁, H₁, g₁, r₁, q₁⟩)
theorem ST.and0 {pos} : ST S sc n (.BoolOp .And [] pos) (trueTW true) := fun _ _ r _ q => isTrue_and_nil (TP.here r q)
theorem ST.or0 {pos} : ST S sc n (.BoolOp .Or [] pos) (trueTW false) := fun _ _ r _ q => isTrue_or_nil (TP.here r q)
theorem ST.and (hC : CloMono S.C) {e es pos a b} (h : ST S sc n e a) (k : ST S sc n (.BoolOp .And es pos) b) : ST S sc n (.BoolOp .And (e :: es) pos) (andTW a b) := by
 intro A E T H env ρ s Q ro he r fr q
 refine isTrue_and (h.run hC ro he r fr q fun T₁ H₁ c s₁ g₁ r₁ fr₁ q₁ => ?_)
 cases c with
 | false => exact ⟨T₁, H₁, g₁, r₁, q₁⟩
 | true => exact wpAny_mono (k ro he r₁ fr₁ q₁) (fun _ _ e => e.go g₁) fun _ _ e => e
theorem ST.or (hC : CloMono S.C) {e es pos a b} (h : ST S sc n e a) (k : ST S sc n (.BoolOp .Or es pos) b) : ST S sc n (.BoolOp .Or (e :: es) pos) (orTW a b) := by
 intro A E T H env ρ s Q ro he r fr q
 refine isTrue_or (h.run hC ro he r fr q fun T₁ H₁ c s₁ g₁ r₁ fr₁ q₁ => ?_)
 cases c with
 | true => exact ⟨T₁, H₁, g₁, r₁, q₁⟩
 | false => exact wpAny_mono (k ro he r₁ fr₁ q₁) (fun _ _ e => e.go g₁) fun _ _ e => e
noncomputable def iteW (t : TW) (a b : EW) : EW := fun ρ H Q => t ρ H fun c H' => if c then a ρ H' Q else b ρ H' Q
theorem SE.ite (hC : CloMono S.C) {t x y pos a b c} (h : ST S sc n t c) (ha : SE S sc n x a) (hb : SE S sc n y b) : SE S sc n (.IfExp t x y pos) (iteW c a b) := by
 intro A E T H env ρ s Q ro he r fr q
 show wpAny _ _ (do if ← isTrue t env (eval t env) then eval x env else eval y env) _ _ _
 refine wpAny_bind (h.run hC ro he r fr q fun T₁ H₁ c s₁ g₁ r₁ fr₁ q₁ => ?_)
 cases c with
 | true => exact wpAny_mono (ha ro he r₁ fr₁ q₁) (fun _ _ e => e.go g₁) fun _ _ e => e
 | false => exact wpAny_mono (hb ro he r₁ fr₁ q₁) (fun _ _ e => e.go g₁) fun _ _ e => e
noncomputable def orW (a b : EW) : EW := fun ρ H Q => a ρ H fun v H' => truV v H' fun c H'' => if c then Q v H'' else b ρ H'' Q
noncomputable def andW (a b : EW) : EW := fun ρ H Q => a ρ H fun v H' => truV v H' fun c H'' => if c then b ρ H'' Q else Q v H''
theorem boolOp_two {M : Model} {A : Around} {E : Value → Shared → Prop} {s : Shared} {pos : Pos} {op : BoolOp} {x y : Sem Value} {rest : List (Sem Value)} {Q : Value → Shared → Prop}
  (h : wpAny M A x (fun v s₁ => wpAny M A (truthy v) (fun t s₂ => match op, t with | .And, false | .Or, true => Q v s₂ | _, _ => wpAny M A (boolOp pos op (y :: rest)) Q E s₂) E s₁) E s) :
  wpAny M A (boolOp pos op (x :: y :: rest)) Q E s := by
 show wpAny M A (do
  let v ← x
  standAt pos
  let t ← holding [v] (truthy v)
  match op, t with
  | .And, false | .Or, true => pure v
  | _, _ => boolOp pos op (y :: rest)) Q E s
 refine wpAny_bind (wpAny_mono h (fun v s₁ h₁ => wpAny_bind (wpAny_standAt (wpAny_bind (wpAny_holding (wpAny_mono h₁ (fun t s₂ h₂ => ?_) fun _ _ x => x))))) fun _ _ x => x)
 cases op <;> cases t <;> first | exact wpAny_pure h₂ | exact h₂
theorem SE.bool1 {op e pos a} (h : SE S sc n e a) : SE S sc n (.BoolOp op [e] pos) a := fun ro he r fr q => h ro he r fr q
theorem SE.or (hC : CloMono S.C) {e e' es pos a b} (h : SE S sc n e a) (k : SE S sc n (.BoolOp .Or (e' :: es) pos) b) : SE S sc n (.BoolOp .Or (e :: e' :: es) pos) (orW a b) := by
 intro A E T H env ρ s Q ro he r fr q
 show wpAny _ _ (boolOp pos .Or (eval e env :: eval e' env :: evalEach es env)) _ _ _
 refine boolOp_two (h.run hC ro he r fr q fun T₁ H₁ v x s₁ g₁ r₁ fr₁ v₁ q₁ => ?_)
 refine wpAny_mono (tru_ok r₁ v₁ q₁) (fun t s₂ e => ?_) fun _ _ e => e
 obtain ⟨T₂, H₂, g₂, r₂, q₂⟩ := e
 cases t with
 | true => exact ⟨T₂, H₂, v, g₁.trans g₂, r₂, v₁.mono hC g₂.le, q₂⟩
 | false => exact wpAny_mono (k ro he r₂ (fr₁.go hC g₂) q₂) (fun _ _ e => e.go (g₁.trans g₂)) fun _ _ e => e
theorem SE.and (hC : CloMono S.C) {e e' es pos a b} (h : SE S sc n e a) (k : SE S sc n (.BoolOp .And (e' :: es) pos) b) : SE S sc n (.BoolOp .And (e :: e' :: es) pos) (andW a b) := by
 intro A E T H env ρ s Q ro he r fr q
 show wpAny _ _ (boolOp pos .And (eval e env :: eval e' env :: evalEach es env)) _ _ _
 refine boolOp_two (h.run hC ro he r fr q fun T₁ H₁ v x s₁ g₁ r₁ fr₁ v₁ q₁ => ?_)
 refine wpAny_mono (tru_ok r₁ v₁ q₁) (fun t s₂ e => ?_) fun _ _ e => e
 obtain ⟨T₂, H₂, g₂, r₂, q₂⟩ := e
 cases t with
 | false => exact ⟨T₂, H₂, v, g₁.trans g₂, r₂, v₁.mono hC g₂.le, q₂⟩
 | true => exact wpAny_mono (k ro he r₂ (fr₁.go hC g₂) q₂) (fun _ _ e => e.go (g₁.trans g₂)) fun _ _ e => e
end
end Mine
end
section
open PySem PySem.W PyProof.Rows
set_option maxRecDepth 100000
namespace Mine
section
variable {S : Sur} {sc : Scope} {n : Nat}
theorem names_ne {env : Env} (nd : (env.scope.names.map (·.1)).Nodup) {i j : Nat} {x y : Str} {k l : NameKind} (hi : env.scope.names[i]? = some (x, k)) (hj : env.scope.names[j]? = some (y, l)) (h : j ≠ i) : y ≠ x := by
 intro e
 subst e
 have h1 : (env.scope.names.map (·.1))[i]? = some y := by rw [List.getElem?_map, hi]; rfl
 have h2 : (env.scope.names.map (·.1))[j]? = some y := by rw [List.getElem?_map, hj]; rfl
 have a := List.getElem?_eq_some_iff.mp h1
 have b := List.getElem?_eq_some_iff.mp h2
 exact h ((List.getElem_inj nd).mp (b.2.trans a.2.symm))
theorem SR.other {T H s} (r : SR S T H s) {a : Addr} {h' : Heap} {t : Tok} (hs : Heap.SameBut a s.heap h') (hi : a ∉ T.ids) (hF : T.F a = none) : SR S T H { s with heap := h', toks := t } := by
 have hne : ∀ b x, T.F b = some x → b ≠ a := fun b x e q => by subst q; rw [hF] at e; cases e
 exact ⟨fun b x e => (hs.2 b (hne b x e)).trans (r.fz b x e), r.len, fun k b x e q => (r.obj k b x e q).keeps x fun y => (hs.2 b (fun z => hi (z ▸ List.mem_of_getElem? e))).trans, r.nd, r.dis, r.st, r.low, r.big⟩
theorem Go.other {T : Ty} {s : Shared} {a : Addr} {h' : Heap} {t : Tok} {M : List Addr} (hs : Heap.SameBut a s.heap h') (hM : a ∈ M) (ha : ∃ o, h'.get? a = some o) : Go M T s T { s with heap := h', toks := t } :=
 ⟨⟨h', t, rfl⟩, fun b x e _ n => (hs.2 b (fun q => n (q ▸ hM))).trans e, fun b x e => if q : b = a then q ▸ ha else ⟨x, (hs.2 b q).trans e⟩, .refl T, fun _ h => .inl h, fun _ _ h => .inl h⟩
theorem getD_set (l : List (Option V)) (i j : Nat) (v : Option V) (h : i < l.length) : (l.set i v).getD j none = if j = i then v else l.getD j none := by
 rw [List.getD_eq_getElem?_getD, List.getD_eq_getElem?_getD]
 by_cases e : j = i
 ·subst e; rw [List.getElem?_set_self h, if_pos rfl]; rfl
 ·rw [List.getElem?_set_ne (fun z => e z.symm), if_neg e]
theorem store_ok {x : Str} {i : Nat} {k : NameKind} {v : V} {y : Value} {A} {E : Value → Shared → Prop} {T H env ρ s} {Q : Rho → List AO → Prop} (hi : slot env.scope x = some (i, k)) (hk : (k == .local || k == .cell) = true) (h0 : (k == .local || (env.scope.names.lookup (Str.ofString ".0")).isNone) = true)
  (r : SR S T H s) (fr : FR S T env ρ s) (vr : VR S.C T v y) (q : Q (ρ.set i (some v)) H) : wpAny (model S.prog S.w) A (storeName env x y) (UP S T s env Q) E s := by
 obtain ⟨h1, h2⟩ := slot_get hi
 have hkind : env.kindOf x = some k := h2
 have hlt : i < ρ.length := by rw [fr.len]; exact (List.getElem?_eq_some_iff.mp h1).1
 obtain ⟨m, hn, hm⟩ := fr.ns
 cases k <;> try (exact absurd hk (by decide))
 ·refine wpAny_storeName_local hkind hn (fun h' hn' hs => ?_) (by rw [fr.kind]; rfl)
  refine ⟨T, H, _, Go.other hs List.mem_cons_self (let ⟨o, _, _, h, _⟩ := hn'; ⟨o, h⟩), r.other hs fr.L.1 fr.L.2, ?_, q⟩
  refine ⟨fr.glob, fr.blt, fr.kind, by rw [List.length_set]; exact fr.len, fr.nd, ⟨_, hn', fun j z e => ?_⟩, fun j z l e hl => ?_, fr.one, fr.L, fun c e => ⟨(fr.ci c e).1, let ⟨o, h⟩ := (fr.ci c e).2; if q : c = env.locals then q ▸ (let ⟨o, _, _, h, _⟩ := hn'; ⟨o, h⟩) else ⟨o, (hs.2 c q).trans h⟩⟩, fr.cF⟩
  ·rw [getD_set _ _ _ _ hlt]
   by_cases hj : j = i
   ·subst hj
    rw [h1] at e; cases e
    rw [if_pos rfl, if_pos rfl]
    exact .some vr
   ·rw [if_neg hj, if_neg (names_ne fr.nd h1 e hj)]
    exact hm j z e
  ·obtain ⟨c, mv, a, ⟨o, ho, hd⟩, ov⟩ := fr.cell j z l e hl
   have hj : j ≠ i := fun q => by subst q; rw [h1] at e; cases e; rcases hl with hl | hl <;> cases hl
   refine ⟨c, mv, a, ⟨o, (hs.2 c fun q => ?_).trans ho, hd⟩, by rw [getD_set _ _ _ _ hlt, if_neg hj]; exact ov⟩
   subst q
   obtain ⟨o', es, ep, ho', hd', _⟩ := hn
   rw [ho'] at ho; cases ho; rw [hd'] at hd; cases hd
 ·obtain ⟨c, mv, hc, hcell, ov⟩ := fr.cell i x _ h1 (.inl rfl)
  refine wpAny_storeName_cell fr.kind hkind hc hcell fun h' hcell' hs => ?_
  have cF := fr.cF i x c h1 hc
  have ci := fr.ci c (lookup_mem hc)
  refine ⟨T, H, _, Go.other (t := s.toks) hs (mem_own_cell hc h0) (let ⟨o, h, _⟩ := hcell'; ⟨o, h⟩), r.other hs ci.1 cF, ?_, q⟩
  have hL : env.locals ≠ c := fun q => by
   obtain ⟨o', es, ep, ho', hd', _⟩ := hn
   obtain ⟨o, ho, hd⟩ := hcell
   rw [← q, ho'] at ho; cases ho; rw [hd'] at hd; cases hd
  refine ⟨fr.glob, fr.blt, fr.kind, by rw [List.length_set]; exact fr.len, fr.nd, ⟨m, hn.sameBut hs hL, fun j z e => ?_⟩, fun j z l e hl => ?_, fr.one, fr.L, fun c' e => ⟨(fr.ci c' e).1, let ⟨o, h⟩ := (fr.ci c' e).2; if q : c' = c then q ▸ (let ⟨o, h, _⟩ := hcell'; ⟨o, h⟩) else ⟨o, (hs.2 c' q).trans h⟩⟩, fr.cF⟩
  ·have hj : j ≠ i := fun q => by subst q; rw [h1] at e; cases e
   rw [getD_set _ _ _ _ hlt, if_neg hj]; exact hm j z e
  ·obtain ⟨c', mv', a, ⟨o, ho, hd⟩, ov'⟩ := fr.cell j z l e hl
   by_cases hj : j = i
   ·subst hj
    rw [h1] at e; cases e
    rw [hc] at a; cases a
    exact ⟨c, _, hc, hcell', by rw [getD_set _ _ _ _ hlt, if_pos rfl]; exact .some vr⟩
   ·refine ⟨c', mv', a, ⟨o, (hs.2 c' fun q => ?_).trans ho, hd⟩, by rw [getD_set _ _ _ _ hlt, if_neg hj]; exact ov'⟩
    subst q
    exact names_ne fr.nd h1 e hj (fr.one _ _ _ a hc)
noncomputable def nameA (i : Nat) : V → Rho → List AO → (Rho → List AO → Prop) → Prop := fun v ρ H Q => Q (ρ.set i (some v)) H
theorem SA.name {x pos i k} (hi : slot sc x = some (i, k)) (hk : (k == .local || k == .cell) = true := by rfl) (h0 : (k == .local || (sc.names.lookup (Str.ofString ".0")).isNone) = true := by rfl) : SA S sc n (.Name x pos) (nameA i) := by
 intro A E T H env ρ s Q v y ro he r fr vr q
 subst he
 show wpAny _ _ (do standAt pos; bindName env x y) _ _ _
 exact wpAny_bind (wpAny_standAt (wpAny_bindName (store_ok hi hk h0 r fr vr q)))
theorem list_put {prog : Program} {w : World} {l : Addr} {items : Array Value} {m : Nat} {k : Int} {t : Tok} {v : Value} {A : Around} {E : Value → Shared → Prop} {s : Shared} {Q : Unit → Shared → Prop}
  (hl : s.heap.get? l = some { cls := .type "list", dict := none, data := .seq items m, slots := #[] }) (h0 : 0 ≤ k) (hf : k < 2 ^ 63) (hk : k < items.size)
  (hQ : ∀ h', h'.get? l = some { cls := .type "list", dict := none, data := .seq (items.setIfInBounds k.toNat v) m, slots := #[] } → Heap.SameBut l s.heap h' → Q () { s with heap := h' }) :
  wpAny (model prog w) A (setItem (.ref l) (.int k t) v) Q E s := by
 have ty : s.TypeIs (.ref l) "list" := ⟨_, hl, rfl⟩
 unfold setItem
 try with_reducible refine wpAny_holding ?_
 first | refine wpAny_bind (wpAny_pure ?_) | skip
 refine wpAny_bind (wpAny_sequenceKey ty (by decide) ?_)
 refine wpAny_bind (wpAny_callSpecial?_slot (name := Str.ofString "__setitem__") ty slot_list_setitem (wpAny_call_entry slot_list_setitem ty entry_list_setitem ?_ (args_list_setitem _ _ _)))
 show wpAny _ _ (Builtin.List.listSubscript? (.int k t) >>= _) _ _ s
 refine wpAny_bind (wpAny_listSubscript_int (fitsIndex_of h0 hf) ?_)
 clear hf
 obtain ⟨j, rfl⟩ := Int.eq_ofNat_of_zero_le h0
 have hj : j < items.size := by lia
 have e : (Obj.mapSeq (·.setIfInBounds j v) { cls := .type "list", dict := none, data := .seq items m, slots := #[] } : Obj) = { cls := .type "list", dict := none, data := .seq (items.setIfInBounds j v) m, slots := #[] } := by
  simp only [Obj.mapSeq, Array.size_setIfInBounds, beq_self_eq_true, if_true]
 show wpAny _ _ ((seqItemAt l j >>= fun r => pure (r.map (j, ·))) >>= _) _ _ s
 refine wpAny_bind (wpAny_bind (wpAny_seqItemAt hl rfl (wpAny_pure ?_)))
 rw [Array.getElem?_eq_getElem hj]
 show wpAny _ _ (setSeqItemAt l j v >>= _) _ _ s
 refine wpAny_bind (wpAny_setSeqItemAt hl rfl ?_)
 have fin := hQ (s.heap.update l (Obj.mapSeq (·.setIfInBounds j v))) (by rw [Heap.get?_update_self _ hl (by rw [e]; rfl), e]; rfl) (Heap.SameBut.update ..)
 first
  | exact wpAny_bind (wpAny_pure (wpAny_pure ⟨.none, rfl, wpAny_pure fin⟩))
  | exact wpAny_pure ⟨.none, rfl, wpAny_pure fin⟩
noncomputable def setV (o i v : V) (H : List AO) (Q : List AO → Prop) : Prop :=
 match o, i with
 | .ref k, .int j => (∃ d, H[k]? = some (.dict d) ∧ d.length ≤ 1000 ∧ Q (H.set k (.dict (dput d j v)))) ∨
   (∃ l : List V, H[k]? = some (.list l) ∧ 0 ≤ j ∧ j < l.length ∧ l.length ≤ 1000 ∧ Q (H.set k (.list (l.set j.toNat v))))
 | _, _ => False
theorem set_ok {A} {E : Value → Shared → Prop} {T H s Q o i v x y z} (r : SR S T H s) (vo : VR S.C T o x) (vi : VR S.C T i y) (vv : VR S.C T v z) (q : setV o i v H Q) :
  wpAny (model S.prog S.w) A (setItem x y z) (fun _ s' => ∃ H', Go [] T s T s' ∧ SR S T H' s' ∧ Q H') E s := by
 cases i with
 | int j =>
  cases o with
  | ref k =>
   obtain ⟨a, rfl, ea⟩ := vo.ref_inv; obtain ⟨t, rfl⟩ := vi.int_inv
   rcases q with ⟨d, hd, hl, q⟩ | ⟨l, hl, h0, h1, h2, q⟩
   ·obtain ⟨e, g1, g2⟩ := r.at ea hd
    refine wpAny_setItem_pairs (intKind_is _ _ _ _) g1 (fun h' hd' hs => ?_) (by rw [sizeLine_eq, ← g2.length]; lia)
    obtain ⟨g, r'⟩ := r.put (ao := .dict (dput d _ v)) (t := s.toks + 1) ea hs ⟨_, hd', g2.put _ vv⟩
    exact ⟨_, g, r', q⟩
   ·obtain ⟨xs, m, g1, g2⟩ := r.at ea hl
    have e1 := g2.length
    have e2 : xs.toArray.size = l.length := by rw [List.size_toArray]; exact e1.symm
    refine list_put g1 h0 (by lia) (by rw [e2]; exact h1) fun h' ho hs => ?_
    obtain ⟨g, r'⟩ := r.put (ao := .list (l.set j.toNat v)) (t := s.toks) ea hs ⟨xs.set j.toNat z, m, by rw [ho]; simp, g2.set vv j.toNat⟩
    exact ⟨_, g, r', q⟩
  | _ => exact False.elim q
 | _ => cases o <;> exact False.elim q
noncomputable def subA (a b : EW) : V → Rho → List AO → (Rho → List AO → Prop) → Prop := fun v ρ H Q => a ρ H fun o H' => b ρ H' fun i H'' => setV o i v H'' (Q ρ)
theorem SA.sub (hC : CloMono S.C) {o i pos a b} (ha : SE S sc n o a) (hb : SE S sc n i b) : SA S sc n (.Subscript o i pos) (subA a b) := by
 intro A E T H env ρ s Q v y ro he r fr vr q
 rw [arm_assign_Subscript]
 refine wpAny_bind (wpAny_holding (ha.run hC ro he r fr q fun T₁ H₁ u x s₁ g₁ r₁ fr₁ v₁ q₁ => wpAny_bind (wpAny_holding (hb.run hC ro he r₁ fr₁ q₁ fun T₂ H₂ u₂ x₂ s₂ g₂ r₂ fr₂ v₂ q₂ => ?_))))
 refine wpAny_bind (wpAny_standAt (wpAny_bind (wpAny_holding (wpAny_mono (set_ok r₂ (v₁.mono hC g₂.le) v₂ (vr.mono hC (g₁.trans g₂).le) q₂) (fun _ s₃ h => ?_) fun _ _ e => e))))
 obtain ⟨H₃, g₃, r₃, q₃⟩ := h
 exact wpAny_release' ⟨T₂, H₃, ρ, (g₁.trans (g₂.trans g₃)).nil, r₃, fr₂.go hC g₃, q₃⟩
end
end Mine
end
section
open PySem PySem.W PyProof.Rows
set_option maxRecDepth 100000
namespace Mine
section
variable {S : Sur} {sc : Scope} {n : Nat}
noncomputable def falseBW : BW := fun _ _ _ => False
theorem SS.absurd {st} : SS S sc n st falseBW := fun _ _ _ _ q => q.elim
noncomputable def nextBW : BW := fun ρ H Q => Q .next ρ H
noncomputable def contBW : BW := fun ρ H Q => Q .cont ρ H
theorem SS.cont {pos} : SS S sc n (.Continue pos) contBW := by
 intro A E T H env ρ s Q ro he r fr q
 rw [arm_exec_Continue]
 exact wpAny_bind (wpAny_standAt (wpAny_pure ⟨T, H, ρ, .cont, .refl _ _ _, r, fr, .cont, q⟩))
noncomputable def retBW (a : EW) : BW := fun ρ H Q => a ρ H fun v H' => Q (.ret v) ρ H'
theorem SS.ret (hC : CloMono S.C) {e pos a} (h : SE S sc n e a) : SS S sc n (.Return (some e) pos) (retBW a) := by
 intro A E T H env ρ s Q ro he r fr q
 exact wpAny_Return_some (h.run hC ro he r fr q fun T₁ H₁ v x s₁ g₁ r₁ fr₁ v₁ q₁ => ⟨T₁, H₁, ρ, .ret v, g₁.nil, r₁, fr₁, .ret v₁, q₁⟩)
noncomputable def ifBW (t : TW) (a b : BW) : BW := fun ρ H Q => t ρ H fun c H' => if c then a ρ H' Q else b ρ H' Q
theorem SS.ite (hC : CloMono S.C) {e x y pos t a b} (h : ST S sc n e t) (ha : SB S sc n x a) (hb : SB S sc n y b) : SS S sc n (.If e x y pos) (ifBW t a b) := by
 intro A E T H env ρ s Q ro he r fr q
 refine wpAny_If (h.run hC ro he r fr q fun T₁ H₁ c s₁ g₁ r₁ fr₁ q₁ => ?_)
 cases c with
 | true => exact wpAny_mono (ha ro he r₁ fr₁ q₁) (fun _ _ e => e.go g₁.nil) fun _ _ e => e
 | false => exact wpAny_mono (hb ro he r₁ fr₁ q₁) (fun _ _ e => e.go g₁.nil) fun _ _ e => e
noncomputable def seqBW (a b : BW) : BW := fun ρ H Q => a ρ H fun f ρ' H' => match f with | .next => b ρ' H' Q | f => Q f ρ' H'
theorem SB.nil : SB S sc n [] nextBW := by
 intro A E T H env ρ s Q ro he r fr q
 exact wpAny_execs_nil ⟨T, H, ρ, .next, .refl _ _ _, r, fr, .next, q⟩
theorem SB.cons {st rest a b} (h : SS S sc n st a) (k : SB S sc n rest b) : SB S sc n (st :: rest) (seqBW a b) := by
 intro A E T H env ρ s Q ro he r fr q
 refine wpAny_execs_cons (wpAny_mono (h ro he r fr q) (fun f s₁ e => ?_) fun _ _ e => e)
 obtain ⟨T₁, H₁, ρ₁, g, g₁, r₁, fr₁, fl, q₁⟩ := e
 cases fl with
 | next => exact wpAny_mono (k ro he r₁ fr₁ q₁) (fun _ _ e => e.go g₁) fun _ _ e => e
 | brk => exact ⟨T₁, H₁, ρ₁, _, g₁, r₁, fr₁, .brk, q₁⟩
 | cont => exact ⟨T₁, H₁, ρ₁, _, g₁, r₁, fr₁, .cont, q₁⟩
 | ret v => exact ⟨T₁, H₁, ρ₁, _, g₁, r₁, fr₁, .ret v, q₁⟩
noncomputable def exprBW (a : EW) : BW := fun ρ H Q => a ρ H fun v H' => match v with | .none => Q .next ρ H' | _ => False
theorem SS.expr (hC : CloMono S.C) {e pos a} (h : SE S sc n e a) (hs : ∀ env, swapsWith e none pos.line env = pure false := by intro _; rfl) : SS S sc n (.Expr e pos) (exprBW a) := by
 intro A E T H env ρ s Q ro he r fr q
 refine wpAny_Expr (h.run hC ro he r fr q fun T₁ H₁ v x s₁ g₁ r₁ fr₁ v₁ q₁ => ?_) (by show (env.scope.kind == .module && _) = false; rw [fr.kind]; rfl) (hs _)
 split at q₁
 ·cases v₁
  exact ⟨T₁, H₁, ρ, .next, g₁.nil, r₁, fr₁, .next, q₁⟩
 ·exact q₁.elim
noncomputable def asgBW (a : EW) (t : V → Rho → List AO → (Rho → List AO → Prop) → Prop) : BW := fun ρ H Q => a ρ H fun v H' => t v ρ H' fun ρ' H'' => Q .next ρ' H''
theorem assign_one {A} {E : Value → Shared → Prop} {s} {env : Env} {t e : Expr} {pos : Pos} {Q : Flow → Shared → Prop}
  (h : wpAny (model S.prog S.w) A (eval e env) (fun v s₁ => wpAny (model S.prog S.w) A (assign t env v) (fun _ => Q .next) E s₁) E s)
  (hs : swapsWith e (some t) pos.line env = pure false) (hw : swappedStores [t] e env = pure none) (hst : (assignEach [t] env).map (·.2) = [assign t env]) :
  wpAny (model S.prog S.w) A (exec (.Assign [t] e pos) env) Q E s := by
 rw [arm_exec_Assign]
 refine wpAny_bind (wpAny_standAt (wpAny_bind ?_))
 show wpAny _ _ (swapsWith e (some t) pos.line env) _ _ _
 rw [hs]
 refine wpAny_pure ?_
 rw [if_neg Bool.false_ne_true]
 refine wpAny_bind (wpAny_mono h (fun v s₁ h₁ => ?_) fun _ _ e => e)
 rw [hw, hst]
 refine wpAny_bind (wpAny_pure ?_)
 show wpAny _ _ ((assignAll v [assign t env] : Sem Unit) >>= fun _ => (pure Flow.next : Sem Flow)) _ _ _
 exact wpAny_bind (wpAny_mono h₁ (fun _ _ e => wpAny_pure e) fun _ _ e => e)
theorem SS.asg (hC : CloMono S.C) {t e pos a b} (h : SE S sc n e a) (k : SA S sc n t b) (hs : ∀ env, swapsWith e (some t) pos.line env = pure false := by intro _; rfl) (hw : ∀ env, swappedStores [t] e env = pure none := by intro _; rfl)
  (hst : ∀ env, (assignEach [t] env).map (·.2) = [assign t env] := by intro _; rfl) : SS S sc n (.Assign [t] e pos) (asgBW a b) := by
 intro A E T H env ρ s Q ro he r fr q
 refine assign_one (h.run hC ro he r fr q fun T₁ H₁ v x s₁ g₁ r₁ fr₁ v₁ q₁ => ?_) (hs env) (hw env) (hst env)
 refine wpAny_mono (k ro he r₁ fr₁ v₁ q₁) (fun _ s₂ e => ?_) fun _ _ e => e
 obtain ⟨T₂, H₂, ρ₂, g₂, r₂, fr₂, q₂⟩ := e
 exact ⟨T₂, H₂, ρ₂, .next, g₁.nil.trans g₂, r₂, fr₂, .next, q₂⟩
noncomputable abbrev ASW := List V → Rho → List AO → (Rho → List AO → Prop) → Prop
noncomputable def SAs (S : Sur) (sc : Scope) (n : Nat) (ts : List Expr) (W : ASW) : Prop :=
 ∀ {A : Around} {E : Value → Shared → Prop} {T H env ρ s Q vs xs}, Roomy n A → env.scope = sc → SR S T H s → FR S T env ρ s → VRs S.C T vs xs → W vs ρ H Q →
  wpAny (model S.prog S.w) A (assignInOrder ((assignEach ts env).map (·.2)) xs) (UP S T s env Q) E s
noncomputable def nilAs : ASW := fun vs ρ H Q => match vs with | [] => Q ρ H | _ => False
noncomputable def consAs (a : V → Rho → List AO → (Rho → List AO → Prop) → Prop) (b : ASW) : ASW := fun vs ρ H Q => match vs with | v :: r => a v ρ H fun ρ' H' => b r ρ' H' Q | [] => False
theorem SAs.nil : SAs S sc n [] nilAs := by
 intro A E T H env ρ s Q vs xs ro he r fr vr q
 unfold nilAs at q
 split at q
 ·cases vr
  exact wpAny_pure ⟨T, H, ρ, .refl _ _ _, r, fr, q⟩
 ·exact q.elim
theorem SAs.cons (hC : CloMono S.C) {t ts a b} (h : SA S sc n t a) (k : SAs S sc n ts b) (ht : ∀ env, assignEach (t :: ts) env = (false, assign t env) :: assignEach ts env := by intro _; rfl) : SAs S sc n (t :: ts) (consAs a b) := by
 intro A E T H env ρ s Q vs xs ro he r fr vr q
 unfold consAs at q
 split at q
 ·cases vr with
  | cons v₁ vr =>
   rw [ht]
   show wpAny _ _ (holding _ (assign t env _) >>= fun _ => assignInOrder ((assignEach ts env).map (·.2)) _) _ _ _
   refine wpAny_bind (wpAny_holding (wpAny_mono (h ro he r fr v₁ q) (fun _ s₁ e => ?_) fun _ _ e => e))
   obtain ⟨T₁, H₁, ρ₁, g₁, r₁, fr₁, q₁⟩ := e
   exact wpAny_mono (k ro he r₁ fr₁ (vr.mono hC g₁.le) q₁) (fun _ _ e => e.go g₁) fun _ _ e => e
 ·exact q.elim
noncomputable def tupA (m : Nat) (b : ASW) : V → Rho → List AO → (Rho → List AO → Prop) → Prop := fun v ρ H Q => match v with | .tup l => l.length = m ∧ b l ρ H Q | _ => False
theorem FR.grow (hC : CloMono S.C) {T env ρ s} (fr : FR S T env ρ s) {h : Heap} {t : Tok} (hk : ∀ a o, s.heap.get? a = some o → h.get? a = some o) : FR S T env ρ { s with heap := h, toks := t } := fr.go hC (Go.grow hk)
theorem SA.tup (hC : CloMono S.C) {ts k pos b} (h : SAs S sc n ts b) (hst : ∀ env, (assignEach ts env).findIdx? (·.1) = none := by intro _; rfl) (hl : ∀ env, (assignEach ts env).length = ts.length := by intro _; rfl) : SA S sc n (.Tuple ts k pos) (tupA ts.length b) := by
 intro A E T H env ρ s Q v y ro he r fr vr q
 unfold tupA at q
 split at q
 ·obtain ⟨a, xs, m, rfl, ea, ra⟩ := vr.tup_inv
  have ht : s.heap.IsTuple a xs.toArray := ⟨_, r.fz _ _ ea, rfl, m, rfl⟩
  refine wpAny_assign_Tuple ro.hd ht (by rw [hl, List.size_toArray, ← ra.length]; exact q.1.symm) (hst env) fun h' hx => ?_
  have hk : ∀ b o, s.heap.get? b = some o → h'.get? b = some o := fun b o e => hx b o (Nat.ne_of_lt (Heap.lt_size e)) e
  exact wpAny_mono (h ro he (r.grow (t := s.toks) hk) (fr.grow hC (t := s.toks) hk) ra q.2) (fun _ _ e => e.go (Go.grow hk)) fun _ _ e => e
 ·exact q.elim
noncomputable def augNameBW (i : Nat) (op : Operator) (a : EW) : BW := fun ρ H Q => match ρ.getD i none with
 | some v => a ρ H fun u H' => inpV op v u H' fun r H'' => Q .next (ρ.set i (some r)) H''
 | none => False
theorem SS.augName (hC : CloMono S.C) {x px op e pos a i k} (hi : slot sc x = some (i, k)) (h : SE S sc n e a) (hk : (k == .local) = true := by rfl) : SS S sc n (.AugAssign (.Name x px) op e pos) (augNameBW i op a) := by
 intro A E T H env ρ s Q ro he r fr q
 subst he
 obtain ⟨h1, h2⟩ := slot_get hi
 have hkl : k = .local := eq_of_beq hk
 subst hkl
 unfold augNameBW at q
 split at q
 ·rename_i v hv
  obtain ⟨m, hn, hm⟩ := fr.ns
  have := hm i x h1
  rw [hv] at this
  obtain ⟨y, ey, vr⟩ := OV.some_left this
  refine wpAny_AugAssign_Name (wpAny_loadName_local fr.kind h2 hn ey (h.run hC ro rfl r fr q fun T₁ H₁ u z s₁ g₁ r₁ fr₁ v₁ q₁ => ?_))
  refine wpAny_mono (inp_ok r₁ (vr.mono hC g₁.le) v₁ q₁) (fun w s₂ e => ?_) fun _ _ e => e
  obtain ⟨T₂, H₂, v₂, g₂, r₂, vr₂, q₂⟩ := e
  refine wpAny_mono (store_ok hi rfl rfl r₂ (fr₁.go hC g₂) vr₂ (Q := fun ρ' H' => Q .next ρ' H') q₂) (fun _ s₃ e => ?_) fun _ _ e => e
  obtain ⟨T₃, H₃, ρ₃, g₃, r₃, fr₃, q₃⟩ := e
  exact ⟨T₃, H₃, ρ₃, .next, (g₁.trans g₂).nil.trans g₃, r₃, fr₃, .next, q₃⟩
 ·exact q.elim
end
end Mine
end
section
open PySem PySem.W PyProof.Rows
set_option maxRecDepth 100000
namespace Mine
section
variable {S : Sur} {sc : Scope} {n : Nat}
theorem SR.priv {T H s} (r : SR S T H s) {I : Addr} {h' : Heap} {t : Tok} (hk : ∀ b o, b ≠ I → s.heap.get? b = some o → h'.get? b = some o) (hi : I ∉ T.ids) (hF : T.F I = none) : SR S T H { s with heap := h', toks := t } := by
 have hne : ∀ b x, T.F b = some x → b ≠ I := fun b x e q => by subst q; rw [hF] at e; cases e
 exact ⟨fun b x e => hk b x (hne b x e) (r.fz b x e), r.len, fun k b x e q => (r.obj k b x e q).keeps x fun y => hk b y (fun z => hi (z ▸ List.mem_of_getElem? e)), r.nd, r.dis, r.st, r.low, r.big⟩
theorem Go.priv {M T₀ s₀ T s} (g : Go M T₀ s₀ T s) {I : Addr} {h' : Heap} {t : Tok} (hk : ∀ b o, b ≠ I → s.heap.get? b = some o → h'.get? b = some o) (hi : ∃ o, h'.get? I = some o) (hM : I ∈ M) : Go M T₀ s₀ T { s with heap := h', toks := t } where
 up := by obtain ⟨h, u, rfl⟩ := g.up; exact ⟨h', t, rfl⟩
 keep := fun a o e n m => hk a o (fun q => m (q ▸ hM)) (g.keep a o e n m)
 alive := fun a o e => by
  obtain ⟨o', e'⟩ := g.alive a o e
  by_cases q : a = I
  ·exact q ▸ hi
  ·exact ⟨o', hk a o' q e'⟩
 le := g.le
 new := g.new
 newF := g.newF
theorem Go.priv0 {M T₀ s₀ T s} (g : Go M T₀ s₀ T s) {I : Addr} {h' : Heap} {t : Tok} (hk : ∀ b o, b ≠ I → s.heap.get? b = some o → h'.get? b = some o) (h : s₀.heap.get? I = none) : Go M T₀ s₀ T { s with heap := h', toks := t } where
 up := by obtain ⟨h, u, rfl⟩ := g.up; exact ⟨h', t, rfl⟩
 keep := fun a o e n m => hk a o (fun q => by subst q; rw [h] at e; cases e) (g.keep a o e n m)
 alive := fun a o e => by
  obtain ⟨o', e'⟩ := g.alive a o e
  exact ⟨o', hk a o' (fun q => by subst q; rw [h] at e; cases e) e'⟩
 le := g.le
 new := g.new
 newF := g.newF
theorem FR.priv {T env ρ s} (f : FR S T env ρ s) {I : Addr} {h' : Heap} {t : Tok} (hk : ∀ b o, b ≠ I → s.heap.get? b = some o → h'.get? b = some o) (hL : I ∉ all env) : FR S T env ρ { s with heap := h', toks := t } where
 glob := f.glob
 blt := f.blt
 kind := f.kind
 len := f.len
 nd := f.nd
 ns := by
  obtain ⟨m, ⟨o, es, ep, ho, r⟩, q⟩ := f.ns
  exact ⟨m, ⟨o, es, ep, hk _ _ (fun z => hL (z ▸ List.mem_cons_self)) ho, r⟩, q⟩
 cell := fun i x k e h => by
  obtain ⟨c, mv, a, ⟨o, ho, r⟩, q⟩ := f.cell i x k e h
  exact ⟨c, mv, a, ⟨o, hk _ _ (fun z => hL (z ▸ mem_all_cell a)) ho, r⟩, q⟩
 one := f.one
 L := f.L
 ci := fun c e => by
  obtain ⟨a, o, ho⟩ := f.ci c e
  exact ⟨a, o, hk _ _ (fun z => hL (z ▸ List.mem_cons_of_mem _ e)) ho⟩
 cF := f.cF
theorem Go.drop {M T s T₂ s₂ T' s'} {I : Addr} (a : Go M T s T₂ s₂) (b : Go (I :: M) T₂ s₂ T' s') (h : s.heap.get? I = none) : Go M T s T' s' where
 up := by obtain ⟨h, t, rfl⟩ := a.up; obtain ⟨h', t', e⟩ := b.up; exact ⟨h', t', e⟩
 keep := fun x o e n m => b.keep x o (a.keep x o e n m) (fun q => (a.new x q).elim n fun z => by rw [e] at z; cases z) (fun q => (List.mem_cons.mp q).elim (fun z => by subst z; rw [h] at e; cases e) m)
 alive := fun x o e => by obtain ⟨o', e'⟩ := a.alive x o e; exact b.alive x o' e'
 le := a.le.trans b.le
 new := fun x q => (b.new x q).elim (fun z => a.new x z) fun z => .inr (a.back z)
 newF := fun x o q => (b.newF x o q).elim (fun z => a.newF x o z) fun z => .inr (a.back z)
inductive Src where
 | list (k : Nat) (l : List V)
 | tup (l : List V)
 | range (n : Int)
noncomputable def Src.items : Src → List V
 | .list _ l => l
 | .tup l => l
 | .range n => (List.range n.toNat).map fun (i : Nat) => V.int i
noncomputable def Src.ok (src : Src) (H : List AO) : Prop := match src with
 | .list k l => H[k]? = some (.list l)
 | _ => True
noncomputable def ItAt (S : Sur) (T : Ty) (h : Heap) (I : Addr) (i : Nat) : Src → Prop
 | .list k _ => ∃ ax, T.ids[k]? = some ax ∧ h.IsListIter I ax i
 | .tup l => ∃ t xs m, T.F t = some { cls := .type "tuple", data := .seq xs.toArray m } ∧ VRs S.C T l xs ∧ h.IsTupleIter I t i
 | .range n => IsRangeIter h I i ((n.toNat : Int) - i) 1
theorem ItAt.mono (hC : CloMono S.C) {T T' : Ty} {h h' : Heap} {I : Addr} {i : Nat} {src : Src} (x : ItAt S T h I i src) (le : TyLe T T') (hk : ∀ o, h.get? I = some o → h'.get? I = some o) : ItAt S T' h' I i src := by
 cases src with
 | list k l => obtain ⟨ax, a, o, ho, r⟩ := x; exact ⟨ax, le.id a, o, hk o ho, r⟩
 | tup l => obtain ⟨t, xs, m, a, b, o, ho, r⟩ := x; exact ⟨t, xs, m, le.F _ _ a, b.mono hC le, o, hk o ho, r⟩
 | range n => exact hk _ x
theorem ItAt.has {T : Ty} {h : Heap} {I : Addr} {i : Nat} {src : Src} (x : ItAt S T h I i src) : ∃ o, h.get? I = some o ∧ ∃ nm, o.cls = .type nm ∧ ["enumerate", "zip", "dict_itemiterator", "dict_reverseitemiterator", "odict_iterator", "itertools.zip_longest", "itertools.pairwise"].contains nm = false := by
 cases src with
 | list k l => obtain ⟨ax, a, o, ho, hc, r⟩ := x; exact ⟨o, ho, _, hc, by decide⟩
 | tup l => obtain ⟨t, xs, m, a, b, o, ho, hc, r⟩ := x; exact ⟨o, ho, _, hc, by decide⟩
 | range n => exact ⟨_, x, _, rfl, by decide⟩
theorem next_item {A} {E : Value → Shared → Prop} {T H s I i src v} {Q : Option Value → Shared → Prop} (r : SR S T H s) (x : ItAt S T s.heap I i src) (ok : src.ok H) (e : src.items[i]? = some v)
  (h : ∀ y h' t, VR S.C T v y → ItAt S T h' I (i + 1) src → (∀ b o, b ≠ I → s.heap.get? b = some o → h'.get? b = some o) → Q (some y) { s with heap := h', toks := t }) :
  wpAny (model S.prog S.w) A (pyNext (.ref I)) Q E s := by
 cases src with
 | list k l =>
  obtain ⟨ax, a, it⟩ := x
  obtain ⟨xs, m, g1, g2⟩ := r.at a ok
  obtain ⟨y, ey, vr⟩ := g2.get e
  exact wpAny_pyNext_list_item it ⟨_, g1, rfl, m, rfl⟩ (x := y) (by simpa using ey) fun h' it' hs => h y h' s.toks vr ⟨ax, a, it'⟩ fun b o hb => (hs.2 b hb).trans
 | tup l =>
  obtain ⟨t, xs, m, a, b, it⟩ := x
  obtain ⟨y, ey, vr⟩ := b.get e
  exact wpAny_pyNext_tuple_item it ⟨_, r.fz _ _ a, rfl, m, rfl⟩ (x := y) (by simpa using ey) fun h' it' hs => h y h' s.toks vr ⟨t, xs, m, a, b, it'⟩ fun b o hb => (hs.2 b hb).trans
 | range n =>
  have hlt : i < n.toNat := by
   have := (List.getElem?_eq_some_iff.mp e).1
   simpa [Src.items] using this
  have hv : v = .int i := by
   have : (Src.range n).items[i]? = some (V.int i) := by simp [Src.items, hlt]
   rw [this] at e; exact (Option.some.inj e).symm
  subst hv
  refine wpAny_pyNext_range_item x (by lia) fun h' it' hs => h _ h' _ (.int _ _) ?_ fun b o hb => (hs.2 b hb).trans
  have e1 : ((i : Int) + 1) = ((i + 1 : Nat) : Int) := by lia
  have e2 : ((n.toNat : Int) - i - 1) = (n.toNat : Int) - ((i + 1 : Nat) : Int) := by lia
  show IsRangeIter h' I _ _ 1
  rw [show (((i + 1 : Nat) : Int)) = (i : Int) + 1 from e1.symm, show (n.toNat : Int) - ((i : Int) + 1) = (n.toNat : Int) - i - 1 from by lia]; exact it'
theorem next_end {A : Around} {E : Value → Shared → Prop} {T H s I i src} {Q : Option Value → Shared → Prop} (hh : A.handled = none) (r : SR S T H s) (x : ItAt S T s.heap I i src) (ok : src.ok H) (e : src.items[i]? = none)
  (h : ∀ h' t, (∀ b o, b ≠ I → s.heap.get? b = some o → h'.get? b = some o) → Q none { s with heap := h', toks := t }) :
  wpAny (model S.prog S.w) A (pyNext (.ref I)) Q E s := by
 cases src with
 | list k l =>
  obtain ⟨ax, a, it⟩ := x
  obtain ⟨xs, m, g1, g2⟩ := r.at a ok
  have hl := g2.length
  have e' : l[i]? = none := e
  refine wpAny_pyNext_list_end hh it ⟨_, g1, rfl, m, rfl⟩ ?_ fun h' hs => h h' s.toks hs
  rw [List.getElem?_eq_none_iff] at e'
  simp; lia
 | tup l =>
  obtain ⟨t, xs, m, a, b, it⟩ := x
  have hl := b.length
  have e' : l[i]? = none := e
  refine wpAny_pyNext_tuple_end hh it ⟨_, r.fz _ _ a, rfl, m, rfl⟩ ?_ fun h' hs => h h' s.toks hs
  rw [List.getElem?_eq_none_iff] at e'
  simp; lia
 | range n =>
  have hle : n.toNat ≤ i := by
   have := List.getElem?_eq_none_iff.mp e
   simpa [Src.items] using this
  exact wpAny_pyNext_range_end hh x (by lia) fun h' hs => h h' s.toks hs
theorem lot_ok {A} {E : Value → Shared → Prop} {s I v} {t : Expr} {Q : Unit → Shared → Prop}
  (x : ∃ o, s.heap.get? I = some o ∧ ∃ nm, o.cls = .type nm ∧ ["enumerate", "zip", "dict_itemiterator", "dict_reverseitemiterator", "odict_iterator", "itertools.zip_longest", "itertools.pairwise"].contains nm = false) (h : Q () s) :
  wpAny (model S.prog S.w) A (letOwnedTupleGo t (.ref I) v) Q E s := by
 obtain ⟨o, ho, nm, hc, hn⟩ := x
 have key : wpAny (model S.prog S.w) A (do
   let (.ref r, .ref a) := ((Value.ref I), v) | return
   let o ← load r
   match o.cls, o.data with
   | .type n, .fields vs =>
    if ["enumerate", "zip", "dict_itemiterator", "dict_reverseitemiterator", "odict_iterator", "itertools.zip_longest", "itertools.pairwise"].contains n && vs[0]? == some (rawInt a) then
     rule "for.unpacks-the-owned-tuple"
     updateField r 0 .none
   | _, _ => pure ()) Q E s := by
  cases v with
  | ref a =>
   refine wpAny_bind (wpAny_load ho ?_)
   obtain ⟨cls, dd, data, sl⟩ := o
   dsimp only at hc
   subst hc
   cases data <;> first | (simp only [hn, Bool.false_and, Bool.false_eq_true, if_false]; exact wpAny_pure h) | exact wpAny_pure h
  | _ => exact wpAny_pure h
 cases t <;> first | exact wpAny_pure h | exact key
noncomputable abbrev SW := Rho → List AO → (Src → List AO → Prop) → Prop
inductive IP (S : Sur) (T : Ty) (s : Shared) (Q : Src → List AO → Prop) (it : Value) (s₂ : Shared) : Prop
 | mk (T' : Ty) (H' : List AO) (src : Src) (I : Addr) (g : Go [] T s T' s₂) (r : SR S T' H' s₂) (e : it = .ref I) (i : ItAt S T' s₂.heap I 0 src) (n : s.heap.get? I = none) (m : I ∉ T'.ids) (f : T'.F I = none) (q : Q src H')
noncomputable def SI (S : Sur) (sc : Scope) (n : Nat) (e : Expr) (W : SW) : Prop :=
 ∀ {A : Around} {E : Value → Shared → Prop} {T H env ρ s Q}, Roomy n A → env.scope = sc → SR S T H s → FR S T env ρ s → W ρ H Q →
  wpAny (model S.prog S.w) A (eval e env) (fun x s₁ => wpAny (model S.prog S.w) A (pyIter x) (IP S T s Q) E s₁) E s
noncomputable def srcW (a : EW) : SW := fun ρ H Q => a ρ H fun v H' => match v with
 | .ref k => ∃ l, H'[k]? = some (.list l) ∧ Q (.list k l) H'
 | .tup l => Q (.tup l) H'
 | _ => False
theorem fresh_not {T H s} (r : SR S T H s) : s.heap.objs.size ∉ T.ids ∧ T.F s.heap.objs.size = none := by
 refine ⟨fun h => absurd (r.lt h) (Nat.lt_irrefl _), ?_⟩
 cases e : T.F s.heap.objs.size with
 | none => rfl
 | some o => exact absurd (Heap.lt_size (r.fz _ _ e)) (Nat.lt_irrefl _)
theorem SI.of (hC : CloMono S.C) {e a} (h : SE S sc n e a) : SI S sc n e (srcW a) := by
 intro A E T H env ρ s Q ro he r fr q
 refine h.run hC ro he r fr q fun T₁ H₁ v x s₁ g₁ r₁ fr₁ v₁ q₁ => ?_
 have nf := fresh_not r₁
 have ns := g₁.back (no_size s₁.heap)
 split at q₁
 ·obtain ⟨l, hl, q₁⟩ := q₁
  obtain ⟨a, rfl, ea⟩ := v₁.ref_inv
  obtain ⟨xs, m, h1, h2⟩ := r₁.at ea hl
  refine wpAny_pyIter_list ⟨_, h1, rfl, m, rfl⟩ ?_
  have hk : ∀ b o, s₁.heap.get? b = some o → (s₁.heap.push { cls := .type "list_iterator", data := .fields #[.ref a, .int 0 0] }).get? b = some o := fun b o e => Heap.get?_push_of_some _ e
  exact ⟨T₁, H₁, .list _ l, _, g₁.trans (Go.grow (t := s₁.toks) hk), r₁.grow hk, rfl, ⟨a, ea, _, Heap.get?_push_size _ rfl, rfl, rfl⟩, ns, nf.1, nf.2, q₁⟩
 ·obtain ⟨a, xs, m, rfl, ea, ra⟩ := v₁.tup_inv
  refine wpAny_pyIter_tuple ⟨_, r₁.fz _ _ ea, rfl, m, rfl⟩ ?_
  have hk : ∀ b o, s₁.heap.get? b = some o → (s₁.heap.push { cls := .type "tuple_iterator", data := .fields #[.ref a, .int 0 0] }).get? b = some o := fun b o e => Heap.get?_push_of_some _ e
  exact ⟨T₁, H₁, .tup _, _, g₁.trans (Go.grow (t := s₁.toks) hk), r₁.grow hk, rfl, ⟨a, xs, m, ea, ra, _, Heap.get?_push_size _ rfl, rfl, rfl⟩, ns, nf.1, nf.2, q₁⟩
 ·exact q₁.elim
noncomputable def loopW (ok : List AO → Prop) (step : V → BW) : List V → BW
 | [] => fun ρ H Q => ok H ∧ Q .next ρ H
 | v :: vs => fun ρ H Q => ok H ∧ step v ρ H fun f ρ' H' => match f with
  | .next | .cont => loopW ok step vs ρ' H' Q
  | .brk => Q .next ρ' H'
  | .ret u => Q (.ret u) ρ' H'
noncomputable def forBW (a : SW) (t : V → Rho → List AO → (Rho → List AO → Prop) → Prop) (b : BW) : BW := fun ρ H Q => a ρ H fun src H' => loopW src.ok (fun v ρ H Q => t v ρ H fun ρ' H' => b ρ' H' Q) src.items ρ H' Q
inductive ForI (S : Sur) (env : Env) (T₂ : Ty) (s₂ : Shared) (I : Addr) (src : Src) (W : List V → BW) (Q : Fl → Rho → List AO → Prop) (k : Nat) (s' : Shared) : Prop
 | mk (T' : Ty) (H' : List AO) (ρ' : Rho) (i : Nat) (e : k = src.items.length - i) (l : i ≤ src.items.length) (g : Go (I :: own env) T₂ s₂ T' s') (r : SR S T' H' s') (f : FR S T' env ρ' s') (t : ItAt S T' s'.heap I i src) (q : W (src.items.drop i) ρ' H' Q)
theorem SS.for (hC : CloMono S.C) {t e body pos a tA b} (h : SI S sc n e a) (ht : SA S sc n t tA) (hb : SB S sc n body b) (hs : ∀ env x, foldedSetIterable e env x = pure x := by intro _ _; rfl) : SS S sc n (.For t e body [] pos) (forBW a tA b) := by
 intro A E T H env ρ s Q ro he r fr q
 refine wpAny_For (wpAny_mono (h ro he r fr q) (fun x s₁ h₁ => wpAny_mono h₁ (fun it s₂ h₂ => ?_) fun _ _ e => e) fun _ _ e => e) (hs env)
 obtain ⟨T₂, H₂, src, I, g₂, r₂, rfl, it₂, hI, hi, hF, q₂⟩ := h₂
 have fr₂ := fr.go hC g₂
 have hL : I ∉ all env := fun z => by
  rcases List.mem_cons.mp z with z | z
  ·obtain ⟨m, ⟨o, es, ep, ho, _⟩, _⟩ := fr.ns
   rw [← z, hI] at ho; cases ho
  ·obtain ⟨o, ho⟩ := (fr.ci I z).2
   rw [hI] at ho; cases ho
 obtain ⟨oI, hoI, _⟩ := it₂.has
 refine codeAny_forLoop_any (ForI S env T₂ s₂ I src (loopW src.ok fun v ρ H Q => tA v ρ H fun ρ' H' => b ρ' H' Q) Q) ?_ _ ⟨T₂, H₂, ρ, 0, rfl, Nat.zero_le _, .refl _ _ _, r₂, fr₂, it₂, q₂⟩
 rintro k s' ⟨T', H', ρ', i, rfl, hi', g', r', fr', it', q'⟩
 have nI := g'.out hoI hi
 have nF := g'.outF hoI hF
 by_cases hlt : i < src.items.length
 ·rw [List.drop_eq_getElem_cons hlt] at q'
  obtain ⟨ok, q'⟩ := q'
  refine next_item r' it' ok (List.getElem?_eq_getElem hlt) fun y h' t' vr it₃ hk => ?_
  have g₃ : Go (I :: own env) T₂ s₂ T' { s' with heap := h', toks := t' } := g'.priv hk (let ⟨o, h, _⟩ := it₃.has; ⟨o, h⟩) List.mem_cons_self
  have r₃ : SR S T' H' { s' with heap := h', toks := t' } := r'.priv hk nI nF
  have fr₃ : FR S T' env ρ' { s' with heap := h', toks := t' } := fr'.priv hk hL
  refine lot_ok it₃.has ?_
  refine wpAny_mono (ht ro he r₃ fr₃ vr q') (fun _ s₄ h₄ => ?_) fun _ _ e => e
  obtain ⟨T₄, H₄, ρ₄, g₄, r₄, fr₄, q₄⟩ := h₄
  refine wpAny_mono (hb ro he r₄ fr₄ q₄) (fun f s₅ h₅ => ?_) fun _ _ e => e
  obtain ⟨T₅, H₅, ρ₅, f', g₅, r₅, fr₅, fl, q₅⟩ := h₅
  have g₄₅ := g₄.trans g₅
  have gg : Go (I :: own env) T₂ s₂ T₅ s₅ := g₃.trans (g₄₅.weak fun _ h => List.mem_cons_of_mem _ h)
  have again : loopW src.ok (fun v ρ H Q => tA v ρ H fun ρ' H' => b ρ' H' Q) (src.items.drop (i + 1)) ρ₅ H₅ Q → ∃ m, m < src.items.length - i ∧ ForI S env T₂ s₂ I src (loopW src.ok fun v ρ H Q => tA v ρ H fun ρ' H' => b ρ' H' Q) Q m s₅ := fun z =>
   ⟨src.items.length - (i + 1), by lia, T₅, H₅, ρ₅, i + 1, rfl, hlt, gg, r₅, fr₅, it₃.mono hC g₄₅.le (fun o ho => g₄₅.keep I o ho nI fun z => hL (own_all z)), z⟩
  cases fl with
  | next => exact again q₅
  | cont => exact again q₅
  | brk => exact ⟨T₅, H₅, ρ₅, .next, g₂.nil.drop gg hI, r₅, fr₅, .next, q₅⟩
  | ret v => exact ⟨T₅, H₅, ρ₅, .ret _, g₂.nil.drop gg hI, r₅, fr₅, .ret v, q₅⟩
 ·have hd : src.items.drop i = [] := List.drop_eq_nil_of_le (by lia)
  rw [hd] at q'
  obtain ⟨ok, q'⟩ := q'
  refine next_end ro.hd r' it' ok (List.getElem?_eq_none (by lia)) fun h' t' hk => wpAny_execs_nil ?_
  exact ⟨T', H', ρ', .next, (g₂.nil.drop g' hI).priv0 hk hI, r'.priv hk nI nF, fr'.priv hk hL, .next, q'⟩
end
end Mine
end
section
open PySem PySem.W PyProof.Rows
set_option maxRecDepth 100000
namespace Mine
section
variable {S : Sur} {sc : Scope} {n : Nat}
noncomputable def KeepOk (S : Sur) (f : Value) : Prop := ∀ (h : Heap), S.K.In h → ∃ k, (k = Keeper.frame ∨ k = Keeper.machine ∨ k = Keeper.boundFrame) ∧ Looks (model S.prog S.w) h (keeperOf f) k
theorem KeepOk.fn {f : Value} (hk : keepIn S.K f = true) : KeepOk S f := fun h X => keeps_K hk h X
theorem KeepOk.builtin {id : String} : KeepOk S (.builtin id) := fun _ _ => ⟨_, .inr (.inl rfl), Looks.now⟩
theorem KeepOk.type {T : String} : KeepOk S (.type T) := fun _ _ => ⟨_, .inr (.inl rfl), Looks.now⟩
noncomputable def CN (S : Sur) (n : Nat) (x : Str) (spec : FW) : Prop :=
 ∃ f, KeepOk S f ∧ Fn S n f spec ∧ ∀ {A : Around} {E : Value → Shared → Prop} {T H env ρ s pos} {Q : Value → Shared → Prop}, SR S T H s → FR S T env ρ s → env.kindOf x = some .globalImplicit → Q f s →
  wpAny (model S.prog S.w) A (eval (.Name x pos) env) Q E s
theorem CN.fn (hS : Stat S) {x : Str} {f : Value} {spec : FW} (hf : nsIn S.K mainGlobals x = some (some f)) (hk : keepIn S.K f = true) (F : Fn S n f spec) (hd : (x == ("__debug__" : Str)) = false := by decide) : CN S n x spec :=
 ⟨f, .fn hk, F, fun r fr hx q => glob_eval hS r fr hx hf q hd⟩
theorem CN.built (hS : Stat S) {x : Str} {f : Value} {spec : FW} (hf : nsIn S.K mainGlobals x = some none) (hb : bootBuiltins x = some f) (hk : KeepOk S f) (F : Fn S n f spec) (hn : x ≠ "__name__" := by decide) (hd : (x == ("__debug__" : Str)) = false := by decide) : CN S n x spec :=
 ⟨f, hk, F, fun r fr hx q => built_eval hS r fr hx hf hb q hn hd⟩
theorem Fn.le {f : Value} {spec : FW} {k : Nat} (F : Fn S n f spec) (h : n ≤ k) : Fn S k f spec := fun ro r vr q => F (ro.le h) r vr q
theorem CN.le {x : Str} {spec : FW} {k : Nat} (c : CN S n x spec) (h : n ≤ k) : CN S k x spec := by obtain ⟨f, a, b, c⟩ := c; exact ⟨f, a, b.le h, c⟩
theorem args_ok (hS : Stat S) {f : Value} {e : Expr} {es : List Expr} {a : ESW} {first : List Value} (hk : KeepOk S f) (h : SEs S sc n (e :: es) a) (hc : ∀ env, starEach (e :: es) env = (false, eval e env) :: starEach es env) (hp : ∀ env, (starEach es env).any (·.1) = false)
  {A : Around} {E : Value → Shared → Prop} {T H env ρ s Q} {pos : Pos} {R : Value → Shared → Prop} (ro : Roomy n A) (he : env.scope = sc) (r : SR S T H s) (fr : FR S T env ρ s) (hW : a ρ H Q)
  (k : ∀ T' H' vs xs s', Go [] T s T' s' → SR S T' H' s' → FR S T' env ρ s' → VRs S.C T' vs xs → Q vs H' → wpAny (model S.prog S.w) A (call f (first ++ xs) []) R E s') :
  wpAny (model S.prog S.w) A (callWith pos f first (backTo pos (starEach (e :: es) env)) []) R E s := by
 have hb : (backTo pos (starEach es env)).any (·.1) = false := by
  have : ∀ l : List (Bool × Sem Value), (backTo pos l).any (·.1) = l.any (·.1) := fun l => by
   unfold backTo
   rw [List.any_map]
   rfl
  rw [this]; exact hp env
 have key : wpAny (model S.prog S.w) A (spliced (backTo pos (starEach (e :: es) env))) (fun vs s₁ => S.K.In s₁.heap ∧ wpAny (model S.prog S.w) A (call f (first ++ vs) []) R E s₁) E s :=
  h.run hS.C ro he r fr hW fun T' H' vs xs s' g r' fr' vr q => ⟨hS.In r', k T' H' vs xs s' g r' fr' vr q⟩
 rw [hc] at key ⊢
 have hx : backTo pos ((false, eval e env) :: starEach es env) = (false, eval e env) :: backTo pos (starEach es env) := rfl
 rw [hx] at key ⊢
 exact callWith_of (P := fun h => S.K.In h) (by show ((false || (backTo pos (starEach es env)).any (·.1)) || false) = false; rw [hb]; rfl) hk (Calls.evalArgs_plain key)
theorem args0_ok (hS : Stat S) {f : Value} {first : List Value} (hk : KeepOk S f) {A : Around} {E : Value → Shared → Prop} {T H s} {env : Env} {pos : Pos} {R : Value → Shared → Prop} (r : SR S T H s)
  (k : wpAny (model S.prog S.w) A (call f first []) R E s) :
  wpAny (model S.prog S.w) A (callWith pos f first (backTo pos (starEach [] env)) []) R E s :=
 callWith_of (P := fun h => S.K.In h) rfl hk (evalArgs_nil3 ⟨hS.In r, by rw [List.append_nil]; exact k⟩)
noncomputable def callW (a : ESW) (spec : FW) : EW := fun ρ H Q => a ρ H fun vs H' => spec vs H' Q
theorem SE.call (hS : Stat S) {x p e es pos a spec i} (hx : slot sc x = some (i, .globalImplicit)) (c : CN S n x spec) (h : SEs S sc n (e :: es) a) (hc : ∀ env, starEach (e :: es) env = (false, eval e env) :: starEach es env := by intro _; rfl)
  (hp : ∀ env, (starEach es env).any (·.1) = false := by intro _; rfl) : SE S sc n (.Call (.Name x p) (e :: es) [] pos) (callW a spec) := by
 intro A E T H env ρ s Q ro he r fr q
 obtain ⟨f, hk, F, ev⟩ := c
 have hx' : env.kindOf x = some .globalImplicit := by subst he; exact (slot_get hx).2
 refine wpAny_Call_NameR (ev r fr hx' ?_)
 refine args_ok hS hk h hc hp ro he r fr q fun T' H' vs xs s' g r' fr' vr q' => ?_
 exact wpAny_mono (F ro r' vr q') (fun _ _ e => e.go g) fun _ _ e => e
noncomputable def rangeW (a : ESW) : SW := fun ρ H Q => a ρ H fun vs H' => match vs with
 | [.int m] => -1000000 < m ∧ m < 1000000 ∧ Q (.range m) H'
 | _ => False
theorem inv_tr {P : List V → Prop} {R : Nat → Prop} {vs : List V} (q : match vs with | [.tup l] => P l | [.ref k] => R k | _ => False) : (∃ l, vs = [.tup l] ∧ P l) ∨ (∃ k, vs = [.ref k] ∧ R k) := by
 cases vs with
 | nil => exact False.elim q
 | cons v vs =>
  cases vs with
  | cons _ _ => cases v <;> exact False.elim q
  | nil => cases v with
   | tup l => exact .inl ⟨l, rfl, q⟩
   | ref k => exact .inr ⟨k, rfl, q⟩
   | _ => exact False.elim q
theorem inv_i {P : Int → Prop} {vs : List V} (q : match vs with | [.int i] => P i | _ => False) : ∃ i, vs = [.int i] ∧ P i := by
 cases vs with
 | nil => exact False.elim q
 | cons v vs =>
  cases vs with
  | cons _ _ => cases v <;> exact False.elim q
  | nil => cases v with
   | int i => exact ⟨i, rfl, q⟩
   | _ => exact False.elim q
theorem inv_r {P : Nat → Prop} {vs : List V} (q : match vs with | [.ref i] => P i | _ => False) : ∃ i, vs = [.ref i] ∧ P i := by
 cases vs with
 | nil => exact False.elim q
 | cons v vs =>
  cases vs with
  | cons _ _ => cases v <;> exact False.elim q
  | nil => cases v with
   | ref i => exact ⟨i, rfl, q⟩
   | _ => exact False.elim q
theorem SI.range (hS : Stat S) {p e pos a i} (hx : slot sc "range" = some (i, .globalImplicit)) (hf : nsIn S.K mainGlobals "range" = some none) (h : SEs S sc n [e] a) (hc : ∀ env, starEach [e] env = [(false, eval e env)] := by intro _; rfl) :
  SI S sc n (.Call (.Name "range" p) [e] [] pos) (rangeW a) := by
 intro A E T H env ρ s Q ro he r fr q
 have hx' : env.kindOf "range" = some .globalImplicit := by subst he; exact (slot_get hx).2
 refine wpAny_Call_NameR (built_eval hS r fr hx' hf (v := .type "range") (by boot_fast) ?_)
 refine args_ok hS .type h hc (fun _ => rfl) ro he r fr q fun T' H' vs xs s' g r' fr' vr q' => ?_
 obtain ⟨m, rfl, q1, q2, q'⟩ := inv_i q'
 ·cases vr with
  | cons v vr =>
   cases vr
   obtain ⟨t, rfl⟩ := v.int_inv
   refine call_range_1 ?_
   have hk : ∀ b o, s'.heap.get? b = some o → (s'.heap.push { cls := .type "range", data := .fields #[.int 0 s'.toks, .int m t, .int 1 (s'.toks + 1)] }).get? b = some o := fun b o e => Heap.get?_push_of_some _ e
   have r₁ := r'.grow (t := s'.toks + 1 + 1) hk
   have g₁ := g.trans (Go.grow (t := s'.toks + 1 + 1) hk)
   refine wpAny_pyIter_range (IsRange.new ..) (small_one (by decide) (by decide) (by lia) (by lia)) ?_
   have nf := fresh_not r₁
   have ns := g₁.back (no_size _)
   refine ⟨T', H', .range m, _, g₁.trans (Go.grow (t := s'.toks + 1 + 1) fun b o e => Heap.get?_push_of_some _ e), r₁.grow (t := s'.toks + 1 + 1) fun b o e => Heap.get?_push_of_some _ e, rfl, ?_, ns, nf.1, nf.2, q'⟩
   have hsz : Builtin.Range.rangeSize 0 m 1 = (m.toNat : Int) - (0 : Nat) := by rw [rangeSize_one]; split <;> lia
   show IsRangeIter _ _ _ _ 1
   rw [← hsz]
   exact Heap.get?_push_size _ rfl
end
end Mine
end
section
open PySem PySem.W PyProof.Rows
set_option maxRecDepth 100000
namespace Mine
section
variable {S : Sur} {sc : Scope} {n : Nat}
theorem SR.allocAt (hC : CloMono S.C) {T H s} (r : SR S T H s) {h' : Heap} {t : Tok} {a : Addr} {ao : AO} (hk : ∀ b o, s.heap.get? b = some o → h'.get? b = some o) (ha : s.heap.objs.size ≤ a)
  (ho : ∀ T', TyLe T T' → T'.ids = T.ids ++ [a] → OR S.prog S.w S.C S.cl T' h' ao a) :
  ∃ T', T'.ids = T.ids ++ [a] ∧ Go [] T s T' { s with heap := h', toks := t } ∧ SR S T' (H ++ [ao]) { s with heap := h', toks := t } ∧ VR S.C T' (.ref H.length) (.ref a) := by
 let T' : Ty := ⟨T.F, T.ids ++ [a]⟩
 have le : TyLe T T' := ⟨fun _ _ e => e, List.prefix_append _ _⟩
 have hn : s.heap.get? a = none := by
  cases e : s.heap.get? a with
  | none => rfl
  | some o => exact absurd (Heap.lt_size e) (Nat.not_lt.mpr ha)
 have hget : ∀ k b, (T.ids ++ [a])[k]? = some b → (k < H.length ∧ T.ids[k]? = some b) ∨ (k = H.length ∧ b = a) := fun k b e => by
  rw [List.getElem?_append] at e
  split at e
  ·rename_i h; exact .inl ⟨by rw [← r.len]; exact h, e⟩
  ·rename_i h
   have hk : k - T.ids.length = 0 := by
    rcases Nat.eq_zero_or_pos (k - T.ids.length) with z | z
    ·exact z
    ·rw [List.getElem?_eq_none (by show 1 ≤ _; exact z)] at e; cases e
   rw [hk] at e
   have := r.len
   exact .inr ⟨by lia, by simpa using e.symm⟩
 refine ⟨T', rfl, ⟨⟨h', t, rfl⟩, fun b x e _ _ => hk b x e, fun b x e => ⟨x, hk b x e⟩, le, fun b h => ?_, fun b x e => .inl e⟩,
  ⟨fun b x e => hk b x (r.fz b x e), by show (T.ids ++ _).length = _; simp [r.len], fun k b x e q => ?_, ?_, fun b h => ?_, r.st, fun b h => ?_, r.big⟩, .ref (by show (T.ids ++ _)[_]? = _; rw [← r.len]; simp)⟩
 ·rcases List.mem_append.mp h with h | h
  ·exact .inl h
  ·simp at h; exact .inr (h ▸ hn)
 ·rcases hget k b e with ⟨h1, h2⟩ | ⟨h1, h2⟩
  ·rw [List.getElem?_append_left h1] at q
   exact ((r.obj k b x h2 q).mono hC le).keeps x fun y => hk b y
  ·subst h1 h2
   simp at q; subst q
   exact ho T' le rfl
 ·show (T.ids ++ _).Nodup
  rw [List.nodup_append]
  refine ⟨r.nd, by simp, fun b h c hc => ?_⟩
  simp at hc; subst hc
  exact Nat.ne_of_lt (Nat.lt_of_lt_of_le (r.lt h) ha)
 ·rcases List.mem_append.mp h with h | h
  ·exact r.dis b h
  ·simp at h; subst h
   cases q : T.F b with
   | none => rfl
   | some x => have := r.fz _ _ q; rw [hn] at this; cases this
 ·rcases List.mem_append.mp h with h | h
  ·exact r.low b h
  ·simp at h; subst h; exact Nat.lt_of_lt_of_le r.gt ha
theorem SR.tupAt (hC : CloMono S.C) {T : Ty} {H s vs xs} (r : SR S T H s) (vr : VRs S.C T vs xs) {h' : Heap} {t : Tok} {a : Addr} {m : Nat} (hk : ∀ b o, s.heap.get? b = some o → h'.get? b = some o) (hn : s.heap.get? a = none)
  (ho : h'.get? a = some { cls := .type "tuple", data := .seq xs.toArray m }) :
  ∃ T', Go [] T s T' { s with heap := h', toks := t } ∧ SR S T' H { s with heap := h', toks := t } ∧ VR S.C T' (.tup vs) (.ref a) := by
 let T' : Ty := ⟨fun b => if b = a then some { cls := .type "tuple", data := .seq xs.toArray m } else T.F b, T.ids⟩
 have lt : ∀ b o, T.F b = some o → b ≠ a := fun b o e q => by subst q; have := r.fz _ _ e; rw [hn] at this; cases this
 have le : TyLe T T' := ⟨fun b o e => by show (if _ then _ else _) = _; rw [if_neg (lt b o e)]; exact e, List.prefix_refl _⟩
 have inv : ∀ b o, T'.F b = some o → (b = a ∧ o = { cls := .type "tuple", data := .seq xs.toArray m }) ∨ T.F b = some o := fun b o e => by
  by_cases h : b = a
  ·have e' : (if b = a then some _ else T.F b) = some o := e
   rw [if_pos h] at e'; exact .inl ⟨h, (Option.some.inj e').symm⟩
  ·have e' : (if b = a then _ else T.F b) = some o := e
   rw [if_neg h] at e'; exact .inr e'
 refine ⟨T', ⟨⟨h', t, rfl⟩, fun b o e _ _ => hk b o e, fun b o e => ⟨o, hk b o e⟩, le, fun b h => .inl h, fun b o e => ?_⟩, ⟨fun b o e => ?_, r.len, fun k b o e q => ?_, r.nd, fun b h => ?_, fun b o e => le.F b o (r.st b o e), r.low, let ⟨o, e⟩ := r.big; ⟨o, le.F _ _ e⟩⟩, .tup (a := a) (n := m) (by show (if _ then _ else _) = _; rw [if_pos rfl]) (vr.mono hC le)⟩
 ·exact (inv b o e).elim (fun z => .inr (z.1 ▸ hn)) .inl
 ·rcases inv b o e with ⟨rfl, rfl⟩ | z
  ·exact ho
  ·exact hk b o (r.fz b o z)
 ·exact ((r.obj k b o e q).mono hC le).keeps o fun y => hk b y
 ·show (if _ then _ else _) = _
  have : b ≠ a := fun q => by
   obtain ⟨o, e⟩ := r.has h
   rw [q, hn] at e; cases e
  rw [if_neg this]; exact r.dis b h
theorem VRs.one {C T v xs} (h : VRs C T [v] xs) : ∃ x, xs = [x] ∧ VR C T v x := by
 cases h with | cons a r => cases r; exact ⟨_, rfl, a⟩
noncomputable def lenF : FW := fun vs H Q => match vs with
 | [.tup l] => l.length ≤ 1000 ∧ Q (.int l.length) H
 | [.ref k] => ∃ l : List V, H[k]? = some (.list l) ∧ l.length ≤ 1000 ∧ Q (.int l.length) H
 | _ => False
theorem len_ok : Fn S n (.builtin "len") lenF := by
 intro A E T H s Q vs xs ro r vr q
 rcases inv_tr q with ⟨_, rfl, q⟩ | ⟨_, rfl, q⟩
 ·obtain ⟨x, rfl, v⟩ := vr.one
  obtain ⟨a, ys, m, rfl, ea, ra⟩ := v.tup_inv
  have e := ra.length
  refine P.len_tuple (r.fz _ _ ea) (by rw [List.size_toArray, ← e]; lia) ?_
  rw [List.size_toArray, ← e]
  exact EP.tok r (.int _ _) q.2
 ·obtain ⟨x, rfl, v⟩ := vr.one
  obtain ⟨a, rfl, ea⟩ := v.ref_inv
  obtain ⟨l, hl, hz, q⟩ := q
  obtain ⟨ys, m, h1, h2⟩ := r.at ea hl
  have e := h2.length
  refine Calls.call_len_list ⟨_, h1, rfl, m, rfl⟩ (by rw [List.size_toArray, ← e]; lia) ?_
  rw [List.size_toArray, ← e]
  exact EP.tok r (.int _ _) q
noncomputable def listF : FW := fun vs H Q => match vs with
 | [.tup l] => l.length ≤ 1000 ∧ Q (.ref H.length) (H ++ [.list l])
 | [.ref k] => ∃ l : List V, H[k]? = some (.list l) ∧ l.length ≤ 1000 ∧ Q (.ref H.length) (H ++ [.list l])
 | _ => False
theorem list_ok (hC : CloMono S.C) : Fn S n (.type "list") listF := by
 intro A E T H s Q vs xs ro r vr q
 rcases inv_tr q with ⟨_, rfl, q⟩ | ⟨_, rfl, q⟩
 ·obtain ⟨x, rfl, v⟩ := vr.one
  obtain ⟨a, ys, m, rfl, ea, ra⟩ := v.tup_inv
  have e := ra.length
  refine call_list_seq a (T := "tuple") (.inr rfl) (r.fz _ _ ea) rfl rfl (fun h' c' hk ho => ?_) (by rw [List.size_toArray, sizeLine_eq, ← e]; lia)
  obtain ⟨T', _, g, r', v'⟩ := r.allocAt hC (t := s.toks) (ao := .list _) hk (Nat.le_refl _) fun T' le _ => ⟨ys, c', ho, ra.mono hC le⟩
  exact ⟨T', _, _, g, r', v', q.2⟩
 ·obtain ⟨x, rfl, v⟩ := vr.one
  obtain ⟨a, rfl, ea⟩ := v.ref_inv
  obtain ⟨l, hl, hz, q⟩ := q
  obtain ⟨ys, m, h1, h2⟩ := r.at ea hl
  have e := h2.length
  refine call_list_seq a (T := "list") (.inl rfl) h1 rfl rfl (fun h' c' hk ho => ?_) (by rw [List.size_toArray, sizeLine_eq, ← e]; lia)
  obtain ⟨T', _, g, r', v'⟩ := r.allocAt hC (t := s.toks) (ao := .list l) hk (Nat.le_refl _) fun T' le _ => ⟨ys, c', ho, h2.mono hC le⟩
  exact ⟨T', _, _, g, r', v', q⟩
noncomputable def tupleF : FW := fun vs H Q => match vs with
 | [.tup l] => Q (.tup l) H
 | [.ref k] => ∃ l : List V, H[k]? = some (.list l) ∧ l.length ≤ 1000 ∧ Q (.tup l) H
 | _ => False
theorem tuple_ok (hC : CloMono S.C) : Fn S n (.type "tuple") tupleF := by
 intro A E T H s Q vs xs ro r vr q
 rcases inv_tr q with ⟨_, rfl, q⟩ | ⟨_, rfl, q⟩
 ·obtain ⟨x, rfl, v⟩ := vr.one
  have v0 := v
  obtain ⟨a, ys, m, rfl, ea, ra⟩ := v.tup_inv
  exact call_tuple_same (items := ys.toArray) ⟨_, r.fz _ _ ea, rfl, m, rfl⟩ ⟨T, H, _, .refl _ _ _, r, v0, q⟩
 ·obtain ⟨x, rfl, v⟩ := vr.one
  obtain ⟨a, rfl, ea⟩ := v.ref_inv
  obtain ⟨l, hl, hz, q⟩ := q
  obtain ⟨ys, m, h1, h2⟩ := r.at ea hl
  have e := h2.length
  refine call_tuple_list ⟨_, h1, rfl, m, rfl⟩ (fun h' hk => ?_) (by rw [List.size_toArray, sizeLine_eq, ← e]; lia)
  have hn : s.heap.get? h'.objs.size = none := by
   cases z : s.heap.get? h'.objs.size with
   | none => rfl
   | some o => have := hk _ _ z; rw [no_size] at this; cases this
  obtain ⟨T', g, r', v'⟩ := r.tupAt hC h2 (t := s.toks) (h' := h'.push { cls := .type "tuple", data := .seq ys.toArray }) (fun b o z => Heap.get?_push_of_some _ (hk b o z)) hn (Heap.get?_push_size _ rfl)
  exact ⟨T', _, _, g, r', v', q⟩
noncomputable def dictF : FW := fun vs H Q => match vs with
 | [.ref k] => ∃ d, H[k]? = some (.dict d) ∧ d.length ≤ 1000 ∧ Q (.ref H.length) (H ++ [.dict d])
 | _ => False
theorem dict_ok (hC : CloMono S.C) : Fn S n (.type "dict") dictF := by
 intro A E T H s Q vs xs ro r vr q
 obtain ⟨_, rfl, q⟩ := inv_r q
 ·obtain ⟨x, rfl, v⟩ := vr.one
  obtain ⟨a, rfl, ea⟩ := v.ref_inv
  obtain ⟨d, hd, hz, q⟩ := q
  obtain ⟨e, h1, h2⟩ := r.at ea hd
  refine kt_call_dict (not_modules r ea) h1 (by rw [sizeLine_eq, ← h2.length]; lia) fun h' hm hs => ?_
  have hk : ∀ b o, s.heap.get? b = some o → h'.get? b = some o := fun b o z => (hs.2 b (Nat.ne_of_lt (Heap.lt_size z))).trans (Heap.get?_push_of_some _ z)
  obtain ⟨T', _, g, r', v'⟩ := r.allocAt hC (t := s.toks) (ao := .dict d) hk (Nat.le_refl _) fun T' le _ => ⟨e, hm, h2.mono hC le⟩
  exact ⟨T', _, _, g, r', v', q⟩
noncomputable def intF : FW := fun vs H Q => match vs with
 | [.int i] => Q (.int i) H
 | _ => False
theorem int_ok : Fn S n (.type "int") intF := by
 intro A E T H s Q vs xs ro r vr q
 obtain ⟨_, rfl, q⟩ := inv_i q
 ·obtain ⟨x, rfl, v⟩ := vr.one
  obtain ⟨t, rfl⟩ := v.int_inv
  exact call_int_int (EP.here r (.int _ _) q)
noncomputable def absF : FW := fun vs H Q => match vs with
 | [.int i] => Q (.int (if i < 0 then -i else i)) H
 | _ => False
theorem abs_ok : Fn S n (.builtin "abs") absF := by
 intro A E T H s Q vs xs ro r vr q
 obtain ⟨_, rfl, q⟩ := inv_i q
 ·obtain ⟨x, rfl, v⟩ := vr.one
  obtain ⟨t, rfl⟩ := v.int_inv
  exact call_abs_int fun u tk => EP.tok r (.int _ _) q
end
end Mine
end
section
open PySem PySem.W PyProof.Rows
set_option maxRecDepth 100000
namespace Mine
section
variable {S : Sur} {sc : Scope} {n : Nat}
noncomputable def getV (o i : V) (H : List AO) (Q : V → List AO → Prop) : Prop :=
 match o, i with
 | .ref k, .int j => (∃ d v, H[k]? = some (.dict d) ∧ dget d j = some v ∧ Q v H) ∨ (∃ (l : List V) (v : V), H[k]? = some (.list l) ∧ 0 ≤ j ∧ j < 1000000 ∧ l[j.toNat]? = some v ∧ Q v H)
 | .tup l, .int j => ∃ v, 0 ≤ j ∧ j < 1000000 ∧ l[j.toNat]? = some v ∧ Q v H
 | _, _ => False
theorem seqIndex_ok {j : Int} {m : Nat} (h0 : 0 ≤ j) (h1 : j.toNat < m) : seqIndex? j m = some j.toNat := seqIndex_of h0 (by lia)
theorem get_ok {o i A} {E : Value → Shared → Prop} {T H s Q x y} (r : SR S T H s) (vo : VR S.C T o x) (vi : VR S.C T i y) (q : getV o i H Q) :
  wpAny (model S.prog S.w) A (getItem x y) (EP S T s Q) E s := by
 cases i with
 | int j =>
  cases o with
  | ref k =>
   obtain ⟨a, rfl, ea⟩ := vo.ref_inv; obtain ⟨t, rfl⟩ := vi.int_inv
   rcases q with ⟨d, v, hd, hv, q⟩ | ⟨l, v, hl, h0, h1, hv, q⟩
   ·obtain ⟨e, g1, g2⟩ := r.at ea hd
    have := g2.get (T := T) ‹Int›
    rw [hv] at this
    obtain ⟨z, ez, vr⟩ := OV.some_left this
    exact wpAny_getItem_of (intKind_is _ _ _ _) g1.mapOf ez (EP.tok r vr q)
   ·obtain ⟨xs, m, g1, g2⟩ := r.at ea hl
    obtain ⟨z, ez, vr⟩ := g2.get hv
    exact wpAny_getItem_list ⟨_, g1, rfl, m, rfl⟩ h0 (by lia) (by simpa using ez) (EP.here r vr q)
  | tup l =>
   obtain ⟨a, xs, m, rfl, ea, ra⟩ := vo.tup_inv; obtain ⟨t, rfl⟩ := vi.int_inv
   obtain ⟨v, h0, h1, hv, q⟩ := q
   obtain ⟨z, ez, vr⟩ := ra.get hv
   have hlt := (List.getElem?_eq_some_iff.mp ez).1
   exact P.getItem_tuple (r.fz _ _ ea) (by lia) (by lia) (seqIndex_ok h0 (by simpa using hlt)) (by simpa using ez) (EP.here r vr q)
  | _ => exact False.elim q
 | _ => cases o <;> exact False.elim q
noncomputable def subW (a b : EW) : EW := fun ρ H Q => a ρ H fun o H' => b ρ H' fun i H'' => getV o i H'' Q
theorem tail_ok {o i A} {E : Value → Shared → Prop} {T H s Q x y} {value slice : Expr} (r : SR S T H s) (vo : VR S.C T o x) (vi : VR S.C T i y) (q : getV o i H Q) (hs : ∀ o i, subscripted slice false o i = operate [o, i] (getItem o i)) :
  wpAny (model S.prog S.w) A (subscriptTail value slice x y) (EP S T s Q) E s := by
 have q' := q
 cases i with
 | int j =>
  cases o with
  | ref k =>
   obtain ⟨a, rfl, ea⟩ := vo.ref_inv
   rcases q' with ⟨d, v, hd, _⟩ | ⟨l, v, hl, _⟩
   ·obtain ⟨e, g1, g2⟩ := r.at ea hd
    exact tail_any g1.mapOf.typeIs slot_dict_getitem.lookup (get_ok r vo vi q) (hs _ _)
   ·obtain ⟨xs, m, g1, g2⟩ := r.at ea hl
    exact tail_any (T := "list") ⟨_, g1, rfl⟩ slot_list_getitem.lookup (get_ok r vo vi q) (hs _ _)
  | tup l =>
   obtain ⟨a, xs, m, rfl, ea, ra⟩ := vo.tup_inv
   exact tail_any (T := "tuple") ⟨_, r.fz _ _ ea, rfl⟩ F.slot_tuple_getitem.lookup (get_ok r vo vi q) (hs _ _)
  | _ => exact False.elim q'
 | _ => cases o <;> exact False.elim q'
theorem SE.sub (hC : CloMono S.C) {o i pos a b} (ha : SE S sc n o a) (hb : SE S sc n i b) (hs : ∀ o x, subscripted i false o x = operate [o, x] (getItem o x) := by intros; rfl) : SE S sc n (.Subscript o i pos) (subW a b) := by
 intro A E T H env ρ s Q ro he r fr q
 refine Subscript_ (ha.run hC ro he r fr q fun T₁ H₁ v x s₁ g₁ r₁ fr₁ v₁ q₁ => hb.run hC ro he r₁ fr₁ q₁ fun T₂ H₂ u y s₂ g₂ r₂ fr₂ v₂ q₂ => ?_)
 exact wpAny_mono (tail_ok r₂ (v₁.mono hC g₂.le) v₂ q₂ hs) (fun _ _ e => e.go (g₁.trans g₂)) fun _ _ e => e
structure AttrOk (S : Sur) (x : String) : Prop where
 plain : plainGet S.K S.cl (Str.ofString x) = true
 dict : hasDictIn S.K S.cl = true
 none : findIn S.K (.ref S.cl) (Str.ofString x) = some none
noncomputable def flk (fs : List (String × V)) (x : String) : Option V := (fs.find? fun p => p.1 = x).map (·.2)
theorem isStr_ofString (n x : String) (t : Tok) : (Value.str (Str.ofString n) t).isStr (Str.ofString x) = decide (n = x) := by
 show (Str.ofString n == Str.ofString x) = _
 rw [beq_ofString]
 by_cases h : n = x
 ·subst h; simp
 ·simp [h]
theorem Flds.get {C P T} {fs es} (h : Flds C P T fs es) (x : String) : ∃ o, getL (Str.ofString x) es = some o ∧ OV C T (flk fs x) o := by
 have hr : ∀ {fs es}, Flds C P T fs es → es.any (·.refKey) = false := by
  intro fs es h
  induction h with
  | nil => rfl
  | cons _ _ ih => rw [List.any_cons, ih]; rfl
 unfold getL
 rw [hr h]
 clear hr
 induction h with
 | nil => exact ⟨.none, rfl, .none⟩
 | @cons n v y t d e r _ ih =>
  rw [List.find?_cons]
  unfold flk
  rw [List.find?_cons]
  dsimp only
  rw [isStr_ofString]
  by_cases hn : n = x
  ·rw [decide_eq_true hn]; exact ⟨_, rfl, .some r⟩
  ·rw [decide_eq_false hn]; exact ih
theorem VR.handed {C T v x} (h : VR C T v x) : handedIn x = true := by cases h <;> rfl
theorem SR.inst {T H s} (r : SR S T H s) {k j : Nat} {fs} {x : Addr} (hx : T.ids[k]? = some x) (h1 : H[k]? = some (.inst j)) (h2 : H[j]? = some (.ns fs)) :
  ∃ dx es m, T.ids[j]? = some dx ∧ InstAt s.heap x (instObj S.cl dx) S.cl (some (dictOf es m)) ∧ s.heap.get? dx = some (dictOf es m) ∧ Flds S.C S.w.params T fs es := by
 obtain ⟨dx, e1, g1⟩ := r.at hx h1
 obtain ⟨es, m, g2, f⟩ := r.at e1 h2
 exact ⟨dx, es, m, e1, ⟨g1, rfl, rfl, g2⟩, g2, f⟩
noncomputable def attrV (x : String) (v : V) (H : List AO) (Q : V → List AO → Prop) : Prop := match v with
 | .ref k => ∃ j fs u, H[k]? = some (.inst j) ∧ H[j]? = some (.ns fs) ∧ flk fs x = some u ∧ Q u H
 | _ => False
theorem attr_ok (hS : Stat S) {x : String} (ax : AttrOk S x) {v A} {E : Value → Shared → Prop} {T H s Q y ex} (r : SR S T H s) (vr : VR S.C T v y) (q : attrV x v H Q) :
  wpAny (model S.prog S.w) A (getAttr y (Str.ofString x) ex) (EP S T s Q) E s := by
 unfold attrV at q
 split at q
 ·obtain ⟨a, rfl, ea⟩ := vr.ref_inv
  obtain ⟨j, fs, u, h1, h2, h3, q⟩ := q
  obtain ⟨dx, es, m, ej, I, g, f⟩ := r.inst ea h1 h2
  obtain ⟨o, ho, ov⟩ := f.get x
  rw [h3] at ov
  obtain ⟨z, rfl, vz⟩ := OV.some_left ov
  exact get_value (hS.In r) I (plainGet_of ax.plain).1 (findObj_own ax.dict ax.none rfl ho) vz.handed (EP.tok r vz q)
 ·exact q.elim
noncomputable def attrW (x : String) (a : EW) : EW := fun ρ H Q => a ρ H fun v H' => attrV x v H' Q
theorem SE.attr (hS : Stat S) {x : String} {nm np pos a} (ax : AttrOk S x) (h : SE S sc n (.Name nm np) a) : SE S sc n (.Attribute (.Name nm np) (Str.ofString x) pos) (attrW x a) := by
 intro A E T H env ρ s Q ro he r fr q
 refine Attribute_name (h.run hS.C ro he r fr q fun T₁ H₁ v y s₁ g₁ r₁ fr₁ v₁ q₁ => ?_)
 exact wpAny_mono (attr_ok hS ax r₁ v₁ q₁) (fun _ _ e => e.go g₁) fun _ _ e => e
theorem push_toArray (xs : List Value) (y : Value) : xs.toArray.push y = (xs ++ [y]).toArray := by simp
noncomputable def IsMeth (o : Expr) (name : Str) (apos pos : Pos) (args : List Expr) : Prop := ∀ env, ∃ pl, eval (.Call (.Attribute o name apos) args [] pos) env = (do
   let ov ← eval o env
   standAt apos.atName
   let (f, first) ← holding [ov] (getMethod ov name pl)
   callWith pos f first (backTo pos (starEach args env)) [])
theorem IsL_put {T H s} (r : SR S T H s) {k a : Nat} {xs : List Value} {m : Nat} {l : List V} (ea : T.ids[k]? = some a) (g1 : s.heap.get? a = some { cls := .type "list", dict := none, data := .seq xs.toArray m, slots := #[] })
  {f : Array Value → Array Value} {ys : List Value} (hf : f xs.toArray = ys.toArray) (v : VRs S.C T l ys) :
  Go [] T s T { s with heap := s.heap.update a (Obj.mapSeq f) } ∧ SR S T (H.set k (.list l)) { s with heap := s.heap.update a (Obj.mapSeq f) } := by
 have g2 := IsL.update g1 f
 rw [hf] at g2
 exact r.put (t := s.toks) ea (Heap.SameBut.update ..) ⟨ys, _, g2, v⟩
noncomputable def appendW (a b : EW) : EW := fun ρ H Q => a ρ H fun x H' => match x with
 | .ref k => ∃ l₀, H'[k]? = some (.list l₀) ∧ b ρ H' fun v H'' => ∃ l : List V, H''[k]? = some (.list l) ∧ l.length ≤ 1000 ∧ Q .none (H''.set k (.list (l ++ [v])))
 | _ => False
theorem SE.append (hS : Stat S) {o e apos pos a b} (ho : SE S sc n o a) (h : SE S sc n e b) (hc : ∀ env, starEach [e] env = [(false, eval e env)] := by intro _; rfl)
  (hm : IsMeth o (Str.ofString "append") apos pos [e] := by intro _; exact ⟨_, rfl⟩) :
  SE S sc n (.Call (.Attribute o (Str.ofString "append") apos) [e] [] pos) (appendW a b) := by
 intro A E T H env ρ s Q ro he r fr q
 obtain ⟨pl, he'⟩ := hm env
 refine MethodCall_ (pl := pl) (ho.run hS.C ro he r fr q fun T₁ H₁ v x s₁ g₁ r₁ fr₁ v₁ q₁ => ?_) he'
 split at q₁
 ·obtain ⟨l₀, h0, q₁⟩ := q₁
  obtain ⟨a, rfl, ea⟩ := v₁.ref_inv
  obtain ⟨xs, m, g, _⟩ := r₁.at ea h0
  refine getMethod_builtin (T := "list") ⟨_, g, rfl⟩ PySem.F.plainAttrs_list PySem.F.slot_list_append PySem.F.type_list_append (fun b z => by cases z; exact ⟨_, g, rfl⟩) ?_
  rw [hc]
  refine P.append_list (h.run hS.C ro he r₁ fr₁ q₁ fun T₂ H₂ u y s₂ g₂ r₂ fr₂ v₂ q₂ => ?_)
  obtain ⟨l, h1, hz, q₂⟩ := q₂
  obtain ⟨ys, m', g', vr⟩ := r₂.at (g₂.le.id ea) h1
  have e := vr.length
  obtain ⟨g₃, r₃⟩ := IsL_put r₂ (g₂.le.id ea) g' (f := fun xs => xs.push y) (push_toArray ys y) (vr.append (.cons v₂ .nil))
  exact ⟨_, _, by rw [List.size_toArray, sizeLine_eq]; lia, g', T₂, _, _, g₁.trans (g₂.trans g₃), r₃, .none, q₂⟩
 ·exact q₁.elim
noncomputable def reverseW (a : EW) : EW := fun ρ H Q => a ρ H fun x H' => match x with
 | .ref k => ∃ l : List V, H'[k]? = some (.list l) ∧ l.length ≤ 1000 ∧ Q .none (H'.set k (.list l.reverse))
 | _ => False
theorem SE.reverse (hS : Stat S) {o apos pos a} (ho : SE S sc n o a) (hm : IsMeth o (Str.ofString "reverse") apos pos [] := by intro _; exact ⟨_, rfl⟩) :
  SE S sc n (.Call (.Attribute o (Str.ofString "reverse") apos) [] [] pos) (reverseW a) := by
 intro A E T H env ρ s Q ro he r fr q
 obtain ⟨pl, he'⟩ := hm env
 refine MethodCall_ (pl := pl) (ho.run hS.C ro he r fr q fun T₁ H₁ v x s₁ g₁ r₁ fr₁ v₁ q₁ => ?_) he'
 split at q₁
 ·obtain ⟨l, h0, hz, q₁⟩ := q₁
  obtain ⟨a, rfl, ea⟩ := v₁.ref_inv
  obtain ⟨xs, m, g, vr⟩ := r₁.at ea h0
  have e := vr.length
  refine getMethod_builtin (T := "list") ⟨_, g, rfl⟩ PySem.F.plainAttrs_list PySem.F.slot_list_reverse PySem.F.type_list_reverse (fun b z => by cases z; exact ⟨_, g, rfl⟩) ?_
  refine P.reverse_list g ?_ (by rw [List.size_toArray, sizeLine_eq]; lia)
  obtain ⟨g₃, r₃⟩ := IsL_put r₁ ea g (f := fun x => x.reverse) (ys := xs.reverse) (by simp) vr.reverse
  exact ⟨T₁, _, _, g₁.trans g₃, r₃, .none, q₁⟩
 ·exact q₁.elim
noncomputable def indexW (a b : EW) : EW := fun ρ H Q => a ρ H fun x H' => match x with
 | .ref k => ∃ l₀, H'[k]? = some (.list l₀) ∧ b ρ H' fun v H'' => ∃ (l : List Int) (i : Int) (j : Nat), v = .int i ∧ H''[k]? = some (.list (l.map V.int)) ∧ l.length ≤ 1000 ∧ l[j]? = some i ∧ (∀ m < j, l[m]? ≠ some i) ∧ Q (.int j) H''
 | _ => False
theorem SE.index (hS : Stat S) {o e apos pos a b} (ho : SE S sc n o a) (h : SE S sc n e b) (hc : ∀ env, starEach [e] env = [(false, eval e env)] := by intro _; rfl)
  (hm : IsMeth o (Str.ofString "index") apos pos [e] := by intro _; exact ⟨_, rfl⟩) :
  SE S sc n (.Call (.Attribute o (Str.ofString "index") apos) [e] [] pos) (indexW a b) := by
 intro A E T H env ρ s Q ro he r fr q
 obtain ⟨pl, he'⟩ := hm env
 refine MethodCall_ (pl := pl) (ho.run hS.C ro he r fr q fun T₁ H₁ v x s₁ g₁ r₁ fr₁ v₁ q₁ => ?_) he'
 split at q₁
 ·obtain ⟨l₀, h0, q₁⟩ := q₁
  obtain ⟨a, rfl, ea⟩ := v₁.ref_inv
  obtain ⟨xs, m, g, _⟩ := r₁.at ea h0
  refine getMethod_builtin (T := "list") ⟨_, g, rfl⟩ PySem.F.plainAttrs_list PySem.F.slot_list_index PySem.F.type_list_index (fun b z => by cases z; exact ⟨_, g, rfl⟩) ?_
  rw [hc]
  refine P.index_list (h.run hS.C ro he r₁ fr₁ q₁ fun T₂ H₂ u y s₂ g₂ r₂ fr₂ v₂ q₂ => ?_)
  obtain ⟨l, i, j, rfl, h1, hz, hj, hno, q₂⟩ := q₂
  obtain ⟨t, rfl⟩ := v₂.int_inv
  obtain ⟨ys, m', g', vr⟩ := r₂.at (g₂.le.id ea) h1
  have hi := vr.ints
  have e := vr.length
  rw [List.length_map] at e
  have hjl := (List.getElem?_eq_some_iff.mp hj).1
  have val : ∀ k (hk : k < ys.toArray.size), PyProof.Rows.isInt i ys.toArray[k] = (l[k]'(by simpa [e] using hk) == i) := fun k hk => by
   have hk' : k < ys.length := by simpa using hk
   have hkl : k < l.length := by lia
   obtain ⟨z, ez, vz⟩ := vr.get (i := k) (w := V.int l[k]) (by simp [hkl])
   obtain ⟨tz, rfl⟩ := vz.int_inv
   have : ys.toArray[k] = .int l[k] tz := by
    have := (List.getElem?_eq_some_iff.mp ez).2
    simpa using this
   rw [this]; rfl
  have hje : l[j] = i := (List.getElem?_eq_some_iff.mp hj).2
  refine ⟨ys.toArray, m', PyProof.Rows.isInt i, j, by simpa [← e] using hjl, g', fun y hy => PyProof.Rows.eq_isInt i t hi y (by simpa using hy), by lia, ?_, fun k hk hkj => ?_, T₂, H₂, .int j, (g₁.trans g₂).trans Go.tok, r₂.tok _, .int _ _, q₂⟩
  ·rw [val, hje]; simp
  ·rw [val]
   have hkl : k < l.length := by lia
   have := hno k hkj
   rw [List.getElem?_eq_getElem hkl] at this
   simpa using this
 ·exact q₁.elim
noncomputable def dgetW (a b c : EW) : EW := fun ρ H Q => a ρ H fun x H' => match x with
 | .ref k => ∃ d₀, H'[k]? = some (.dict d₀) ∧ b ρ H' fun v H₁ => c ρ H₁ fun u H₂ => ∃ d i, v = .int i ∧ H₂[k]? = some (.dict d) ∧ Q ((Mine.dget d i).getD u) H₂
 | _ => False
theorem SE.dictGet (hS : Stat S) {o e e' apos pos a b c} (ho : SE S sc n o a) (h : SE S sc n e b) (h' : SE S sc n e' c) (hc : ∀ env, starEach [e, e'] env = [(false, eval e env), (false, eval e' env)] := by intro _; rfl)
  (hm : IsMeth o (Str.ofString "get") apos pos [e, e'] := by intro _; exact ⟨_, rfl⟩) :
  SE S sc n (.Call (.Attribute o (Str.ofString "get") apos) [e, e'] [] pos) (dgetW a b c) := by
 intro A E T H env ρ s Q ro he r fr q
 obtain ⟨pl, he'⟩ := hm env
 refine MethodCall_ (pl := pl) (ho.run hS.C ro he r fr q fun T₁ H₁ v x s₁ g₁ r₁ fr₁ v₁ q₁ => ?_) he'
 split at q₁
 ·obtain ⟨l₀, h0, q₁⟩ := q₁
  obtain ⟨a, rfl, ea⟩ := v₁.ref_inv
  obtain ⟨e₀, g, _⟩ := r₁.at ea h0
  refine getMethod_builtin (T := "dict") g.mapOf.typeIs PySem.F.plainAttrs_dict PySem.F.slot_dict_get PySem.F.type_dict_get g.mapOf.noDict ?_
  rw [hc]
  refine wpAny_dict_get2 (knd := intKind S.prog S.w) (not_modules r₁ ea) (h.run hS.C ro he r₁ fr₁ q₁ fun T₂ H₂ u y s₂ g₂ r₂ fr₂ v₂ q₂ => h'.run hS.C ro he r₂ fr₂ q₂ fun T₃ H₃ u' y' s₃ g₃ r₃ fr₃ v₃ q₃ => ?_)
  obtain ⟨d, i, rfl, hd, q₃⟩ := q₃
  obtain ⟨t, rfl⟩ := v₂.int_inv
  obtain ⟨e₁, g', pr⟩ := r₃.at ((g₂.trans g₃).le.id ea) hd
  refine ⟨i, valueAt e₁, intKind_is _ _ _ _, g'.mapOf, ?_⟩
  have ov := pr.get (T := T₃) i
  have gg := (g₁.trans (g₂.trans g₃)).trans (Go.tok (t := s₃.toks + 1))
  cases hv : Mine.dget d i with
  | none =>
   rw [hv] at ov q₃
   cases hw : valueAt e₁ i with
   | none => exact ⟨T₃, H₃, u', gg, r₃.tok _, v₃, q₃⟩
   | some z => rw [hw] at ov; cases ov
  | some w =>
   rw [hv] at ov q₃
   obtain ⟨z, ez, vz⟩ := OV.some_left ov
   rw [ez]
   exact ⟨T₃, H₃, w, gg, r₃.tok _, vz, q₃⟩
 ·exact q₁.elim
noncomputable def MN (S : Sur) (n : Nat) (x : String) (spec : FW) : Prop :=
 ∃ f : Addr, plainGet S.K S.cl (Str.ofString x) = true ∧ findIn S.K (.ref S.cl) (Str.ofString x) = some (some (.ref f)) ∧ isFn S.K (.ref f) = true ∧ keepIn S.K (.ref f) = true ∧ Fn S n (.ref f) spec
theorem MN.le {x : String} {spec : FW} {k : Nat} (c : MN S n x spec) (h : n ≤ k) : MN S k x spec := by obtain ⟨f, a, b, c, d, e⟩ := c; exact ⟨f, a, b, c, d, e.le h⟩
theorem getMethod_ok (hS : Stat S) {x : String} {f k j : Nat} {fs} {a A} {E : Value → Shared → Prop} {T H s pl} {Q : Value × List Value → Shared → Prop} (r : SR S T H s) (ea : T.ids[k]? = some a) (h1 : H[k]? = some (.inst j)) (h2 : H[j]? = some (.ns fs)) (h3 : flk fs x = none)
  (p : plainGet S.K S.cl (Str.ofString x) = true) (hf : findIn S.K (.ref S.cl) (Str.ofString x) = some (some (.ref f))) (hi : isFn S.K (.ref f) = true) (h : Q (.ref f, [.ref a]) s) :
  wpAny (model S.prog S.w) A (getMethod (.ref a) (Str.ofString x) pl) Q E s := by
 obtain ⟨dx, es, m, ej, I, g, fl⟩ := r.inst ea h1 h2
 obtain ⟨o, ho, ov⟩ := fl.get x
 rw [h3] at ov
 cases ov
 exact method_fn (hS.In r) I (plainGet_of p).1 (plainGet_of p).2 hf (beq_iff_eq.mp hi) (by show (lookIn (Str.ofString x) (dictOf es m)).map _ = _; rw [lookIn_dict, ho]; rfl) h
noncomputable def methW (x : String) (a : EW) (b : ESW) (spec : FW) : EW := fun ρ H Q => a ρ H fun v H' => match v with
 | .ref k => ∃ j fs, H'[k]? = some (.inst j) ∧ H'[j]? = some (.ns fs) ∧ flk fs x = none ∧ b ρ H' fun vs H'' => spec (.ref k :: vs) H'' Q
 | _ => False
theorem SE.meth (hS : Stat S) {x : String} {o e es apos pos a b spec} (c : MN S n x spec) (ho : SE S sc n o a) (h : SEs S sc n (e :: es) b) (hc : ∀ env, starEach (e :: es) env = (false, eval e env) :: starEach es env := by intro _; rfl) (hp : ∀ env, (starEach es env).any (·.1) = false := by intro _; rfl)
  (hm : IsMeth o (Str.ofString x) apos pos (e :: es) := by intro _; exact ⟨_, rfl⟩) :
  SE S sc n (.Call (.Attribute o (Str.ofString x) apos) (e :: es) [] pos) (methW x a b spec) := by
 intro A E T H env ρ s Q ro he r fr q
 obtain ⟨pl, he'⟩ := hm env
 obtain ⟨f, p, hf, hi, hk, F⟩ := c
 refine MethodCall_ (pl := pl) (ho.run hS.C ro he r fr q fun T₁ H₁ v x s₁ g₁ r₁ fr₁ v₁ q₁ => ?_) he'
 split at q₁
 ·obtain ⟨j, fs, h1, h2, h3, q₁⟩ := q₁
  obtain ⟨a, rfl, ea⟩ := v₁.ref_inv
  refine getMethod_ok hS r₁ ea h1 h2 h3 p hf hi ?_
  refine args_ok hS (.fn hk) h hc hp ro he r₁ fr₁ q₁ fun T₂ H₂ vs xs s₂ g₂ r₂ fr₂ vr q₂ => ?_
  exact wpAny_mono (F ro r₂ (.cons (.ref (g₂.le.id ea)) vr) q₂) (fun _ _ e => e.go (g₁.trans g₂)) fun _ _ e => e
 ·exact q₁.elim
noncomputable def meth0W (x : String) (a : EW) (spec : FW) : EW := fun ρ H Q => a ρ H fun v H' => match v with
 | .ref k => ∃ j fs, H'[k]? = some (.inst j) ∧ H'[j]? = some (.ns fs) ∧ flk fs x = none ∧ spec [.ref k] H' Q
 | _ => False
theorem SE.meth0 (hS : Stat S) {x : String} {o apos pos a spec} (c : MN S n x spec) (ho : SE S sc n o a) (hm : IsMeth o (Str.ofString x) apos pos [] := by intro _; exact ⟨_, rfl⟩) :
  SE S sc n (.Call (.Attribute o (Str.ofString x) apos) [] [] pos) (meth0W x a spec) := by
 intro A E T H env ρ s Q ro he r fr q
 obtain ⟨pl, he'⟩ := hm env
 obtain ⟨f, p, hf, hi, hk, F⟩ := c
 refine MethodCall_ (pl := pl) (ho.run hS.C ro he r fr q fun T₁ H₁ v x s₁ g₁ r₁ fr₁ v₁ q₁ => ?_) he'
 split at q₁
 ·obtain ⟨j, fs, h1, h2, h3, q₁⟩ := q₁
  obtain ⟨a, rfl, ea⟩ := v₁.ref_inv
  refine getMethod_ok hS r₁ ea h1 h2 h3 p hf hi ?_
  refine args0_ok hS (.fn hk) r₁ ?_
  exact wpAny_mono (F ro r₁ (.cons (.ref ea) .nil) q₁) (fun _ _ e => e.go g₁) fun _ _ e => e
 ·exact q₁.elim
end
end Mine
end
section
open PySem PySem.W PyProof.Rows
set_option maxRecDepth 100000
namespace Mine
section
variable {S : Sur} {sc : Scope} {n : Nat}
noncomputable def augSubBW (op : Operator) (a b c : EW) : BW := fun ρ H Q => a ρ H fun o H₁ => b ρ H₁ fun i H₂ => getV o i H₂ fun v H₃ => c ρ H₃ fun u H₄ => inpV op v u H₄ fun w H₅ => setV o i w H₅ fun H₆ => Q .next ρ H₆
theorem SS.augSub (hC : CloMono S.C) {o i spos op e pos a b c} (ha : SE S sc n o a) (hb : SE S sc n i b) (hc : SE S sc n e c) (hs : ∀ ov iv new, augStore i ov iv new = (do
  holding [new, ov, iv] (setItem ov iv new)
  release [new, ov, iv] []
  pure .next) := by intros; rfl) : SS S sc n (.AugAssign (.Subscript o i spos) op e pos) (augSubBW op a b c) := by
 intro A E T H env ρ s Q ro he r fr q
 rw [arm_exec_AugAssign_3]
 refine wpAny_bind (wpAny_standAt (wpAny_bind (ha.run hC ro he r fr q fun T₁ H₁ ov x s₁ g₁ r₁ fr₁ v₁ q₁ => wpAny_bind (wpAny_holding (hb.run hC ro he r₁ fr₁ q₁ fun T₂ H₂ iv y s₂ g₂ r₂ fr₂ v₂ q₂ => wpAny_bind (wpAny_holding (wpAny_bind (wpAny_standAt (wpAny_bind ?_)))))))))
 have v₁' := v₁.mono hC g₂.le
 refine wpAny_mono (get_ok r₂ v₁' v₂ q₂) (fun z s₃ h₃ => ?_) fun _ _ e => e
 obtain ⟨T₃, H₃, w, g₃, r₃, v₃, q₃⟩ := h₃
 refine wpAny_bind (wpAny_holding (hc.run hC ro he r₃ (fr₂.go hC g₃) q₃ fun T₄ H₄ u z' s₄ g₄ r₄ fr₄ v₄ q₄ => wpAny_bind (wpAny_standAt (wpAny_operate' ?_))))
 refine wpAny_mono (inp_ok r₄ (v₃.mono hC g₄.le) v₄ q₄) (fun z₅ s₅ h₅ => ?_) fun _ _ e => e
 obtain ⟨T₅, H₅, w₅, g₅, r₅, v₅, q₅⟩ := h₅
 rw [hs]
 have le : TyLe T₂ T₅ := (g₃.trans (g₄.trans g₅)).le
 refine wpAny_bind (wpAny_standAt (wpAny_bind (wpAny_holding (wpAny_mono (set_ok r₅ (v₁'.mono hC le) (v₂.mono hC le) v₅ q₅) (fun _ s₆ h₆ => ?_) fun _ _ e => e))))
 obtain ⟨H₆, g₆, r₆, q₆⟩ := h₆
 refine wpAny_bind (wpAny_release' (wpAny_pure ?_))
 exact ⟨T₅, H₆, ρ, .next, ((g₁.trans g₂).trans (g₃.trans (g₄.trans (g₅.trans g₆)))).nil, r₆, fr₄.go hC (g₅.trans g₆), .next, q₆⟩
noncomputable def whileW (t : TW) (b : BW) : Nat → BW
 | 0 => fun _ _ _ => False
 | k + 1 => fun ρ H Q => t ρ H fun c H' => if c then b ρ H' fun f ρ' H'' => match f with
   | .next | .cont => whileW t b k ρ' H'' Q
   | .brk => Q .next ρ' H''
   | .ret u => Q (.ret u) ρ' H'' else Q .next ρ H'
noncomputable def whileBW (t : TW) (b : BW) : BW := fun ρ H Q => ∃ k, whileW t b k ρ H Q
theorem SS.while (hC : CloMono S.C) {e body pos t b} (h : ST S sc n e t) (hb : SB S sc n body b) : SS S sc n (.While e body [] pos) (whileBW t b) := by
 intro A E T H env ρ s Q ro he r fr q
 obtain ⟨k, q⟩ := q
 refine wpAny_While (codeAny_whileLoop (fun m s' => ∃ T' H' ρ', Go (own env) T s T' s' ∧ SR S T' H' s' ∧ FR S T' env ρ' s' ∧ whileW t b m ρ' H' Q) ?_ k ⟨T, H, ρ, .refl _ _ _, r, fr, q⟩)
 rintro m s' ⟨T', H', ρ', g', r', fr', q'⟩
 cases m with
 | zero => exact q'.elim
 | succ m =>
  refine wpAny_mono (h ro he r' fr' q') (fun c s₁ h₁ => ?_) fun _ _ e => e
  obtain ⟨T₁, H₁, g₁, r₁, q₁⟩ := h₁
  have fr₁ := fr'.go hC g₁
  cases c with
  | false => exact wpAny_execs_nil ⟨T₁, H₁, ρ', .next, g'.trans g₁.nil, r₁, fr₁, .next, q₁⟩
  | true =>
   refine wpAny_mono (hb ro he r₁ fr₁ q₁) (fun f s₂ h₂ => ?_) fun _ _ e => e
   obtain ⟨T₂, H₂, ρ₂, f', g₂, r₂, fr₂, fl, q₂⟩ := h₂
   have gg := g'.trans (g₁.nil.trans g₂)
   cases fl with
   | next => exact ⟨m, Nat.lt_succ_self _, T₂, H₂, ρ₂, gg, r₂, fr₂, q₂⟩
   | cont => exact ⟨m, Nat.lt_succ_self _, T₂, H₂, ρ₂, gg, r₂, fr₂, q₂⟩
   | brk => exact ⟨T₂, H₂, ρ₂, .next, gg, r₂, fr₂, .next, q₂⟩
   | ret v => exact ⟨T₂, H₂, ρ₂, .ret _, gg, r₂, fr₂, .ret v, q₂⟩
end
end Mine
end
section
open PySem PySem.W PyProof.Rows
set_option maxRecDepth 100000
namespace Mine
section
variable {S : Sur} {n : Nat}
theorem bindL_not {k : Str → Option NameKind} {x : Str} : ∀ {b : List (Str × Value)} {m}, x ∉ b.map (·.1) → bindL k b m x = m x
 | [], _, _ => rfl
 | (y, v) :: b, m, h => by
  simp only [List.map_cons, List.mem_cons, not_or] at h
  rw [bindL, bindL_not h.2]
  split
  ·exact if_neg h.1
  ·rfl
theorem bindL_at {k : Str → Option NameKind} {x : Str} {v : Value} (hk : k x = some .local) : ∀ {b : List (Str × Value)} {m}, (b.map (·.1)).Nodup → (x, v) ∈ b → bindL k b m x = some v
 | (y, u) :: b, m, nd, h => by
  rw [List.map_cons, List.nodup_cons] at nd
  rcases List.mem_cons.mp h with h | h
  ·cases h
   rw [bindL, bindL_not nd.1, if_pos hk]; exact if_pos rfl
  ·rw [bindL]; exact bindL_at hk nd.2 h
theorem bindC_not {k : Str → Option NameKind} {x : Str} : ∀ {b : List (Str × Value)} {m}, x ∉ b.map (·.1) → bindC k b m x = m x
 | [], _, _ => rfl
 | (y, v) :: b, m, h => by
  simp only [List.map_cons, List.mem_cons, not_or] at h
  rw [bindC, bindC_not h.2]
  split
  ·rfl
  ·exact if_neg h.1
theorem bindC_at {k : Str → Option NameKind} {x : Str} {v : Value} (hk : k x ≠ some .local) : ∀ {b : List (Str × Value)} {m}, (b.map (·.1)).Nodup → (x, v) ∈ b → bindC k b m x = some v
 | (y, u) :: b, m, nd, h => by
  rw [List.map_cons, List.nodup_cons] at nd
  rcases List.mem_cons.mp h with h | h
  ·cases h
   rw [bindC, bindC_not nd.1, if_neg hk]; exact if_pos rfl
  ·rw [bindC]; exact bindC_at hk nd.2 h
theorem Roomy.deeper {A : Around} {env : Env} (h : Roomy (n + 1) A) : Roomy n (A.deeper env) := ⟨h.hd, by have := h.depth; show A.depth + 1 + 4 * n ≤ 900; lia, by have := h.units; show A.units + 3 + 40 * n ≤ 9000; lia⟩
theorem Roomy.room {A : Around} (h : Roomy n A) : A.depth < recursionLimit := by have := h.depth; show A.depth < 1000; lia
theorem Go.frame {M T s T₁ s₁ T' s'} (a : Go [] T s T₁ s₁) (b : Go M T₁ s₁ T' s') (h : ∀ x ∈ M, s.heap.get? x = none) : Go [] T s T' s' where
 up := by obtain ⟨h, t, rfl⟩ := a.up; obtain ⟨h', t', e⟩ := b.up; exact ⟨h', t', e⟩
 keep := fun x o e n m => b.keep x o (a.keep x o e n m) (fun q => (a.new x q).elim n fun z => by rw [e] at z; cases z) (fun q => by rw [h x q] at e; cases e)
 alive := fun x o e => by obtain ⟨o', e'⟩ := a.alive x o e; exact b.alive x o' e'
 le := a.le.trans b.le
 new := fun x q => (b.new x q).elim (fun z => a.new x z) fun z => .inr (a.back z)
 newF := fun x o q => (b.newF x o q).elim (fun z => a.newF x o z) fun z => .inr (a.back z)
noncomputable def defF (k m : Nat) (W : BW) : FW := fun vs H Q => vs.length = k ∧ W (vs.map some ++ List.replicate (m - k) none) H fun fl _ H' => match fl with
 | .ret v => Q v H'
 | .next => Q .none H'
 | _ => False
theorem size_none {T H s} (r : SR S T H s) {a : Addr} (h : s.heap.objs.size ≤ a) : s.heap.get? a = none ∧ a ∉ T.ids ∧ T.F a = none := by
 have hn : s.heap.get? a = none := by
  cases e : s.heap.get? a with
  | none => rfl
  | some o => exact absurd (Heap.lt_size e) (Nat.not_lt.mpr h)
 refine ⟨hn, fun z => absurd (r.lt z) (Nat.not_lt.mpr h), ?_⟩
 cases e : T.F a with
 | none => rfl
 | some o => have := r.fz _ _ e; rw [hn] at this; cases this
theorem pairwise_one {cs : List (Str × Addr)} (h : cs.Pairwise fun x y => x.2 ≠ y.2) {x y : Str} {c : Addr} (hx : (x, c) ∈ cs) (hy : (y, c) ∈ cs) : x = y := by
 induction cs with
 | nil => cases hx
 | cons p cs ih =>
  rw [List.pairwise_cons] at h
  rcases List.mem_cons.mp hx with ex | ex <;> rcases List.mem_cons.mp hy with ey | ey
  ·rw [← ey] at ex; exact congrArg Prod.fst ex
  ·exact absurd (by rw [← ex]) (h.1 _ ey)
  ·exact absurd (by rw [← ey]) (h.1 _ ex)
  ·exact ih h.2 ex ey
theorem lookup_mem2 {l : List (Str × Addr)} {x : Str} {c : Addr} (h : l.lookup x = some c) : (x, c) ∈ l := by
 induction l with
 | nil => cases h
 | cons p l ih =>
  obtain ⟨y, d⟩ := p
  rw [List.lookup_cons] at h
  split at h
  ·rename_i q; cases h; rw [eq_of_beq q]; exact List.mem_cons_self
  ·exact List.mem_cons_of_mem _ (ih h)
theorem lookup_of_get {names : List (Str × NameKind)} (nd : (names.map (·.1)).Nodup) {i : Nat} {x : Str} {k : NameKind} (h : names[i]? = some (x, k)) : names.lookup x = some k := by
 induction names generalizing i with
 | nil => cases h
 | cons p names ih =>
  obtain ⟨y, q⟩ := p
  rw [List.map_cons, List.nodup_cons] at nd
  cases i with
  | zero => cases h; simp
  | succ i =>
   have h' : names[i]? = some (x, k) := h
   have : x ≠ y := fun e => by
    subst e
    exact nd.1 (List.mem_map.mpr ⟨_, List.mem_of_getElem? h', rfl⟩)
   rw [List.lookup_cons, beq_eq_false_iff_ne.mpr this]
   exact ih nd.2 h'
structure ScopeOk (scope : Scope) (ps : List Str) : Prop where
 kind : scope.kind = .function
 co : scope.isCoroutine = false
 gen : scope.isGenerator = false
 nd : (scope.names.map (·.1)).Nodup
 first : (scope.names.take ps.length).map (·.1) = ps
 lc : ∀ p ∈ scope.names.take ps.length, p.2 = .local ∨ p.2 = .cell
 free : ∀ p ∈ scope.names, p.2 ≠ .free
 cells : ((cellsFrom 0 scope.names []).map (·.1)).Nodup
theorem ScopeOk.len {scope : Scope} {ps : List Str} (h : ScopeOk scope ps) : ps.length ≤ scope.names.length := by
 have := congrArg List.length h.first
 simp at this
 lia
theorem ScopeOk.nps {scope : Scope} {ps : List Str} (h : ScopeOk scope ps) : ps.Nodup := by
 rw [← h.first]
 exact List.Sublist.nodup ((List.take_sublist _ _).map _) h.nd
theorem ScopeOk.at {scope : Scope} {ps : List Str} (h : ScopeOk scope ps) {i : Nat} {x : Str} (e : ps[i]? = some x) : ∃ k, scope.names[i]? = some (x, k) ∧ (k = .local ∨ k = .cell) := by
 rw [← h.first, List.getElem?_map] at e
 obtain ⟨⟨y, k⟩, e1, rfl⟩ := Option.map_eq_some_iff.mp e
 have := h.lc _ (List.mem_of_getElem? e1)
 rw [List.getElem?_take] at e1
 split at e1
 ·exact ⟨k, e1, this⟩
 ·cases e1
theorem init_getD {vs : List V} {m i : Nat} : (vs.map some ++ List.replicate (m - vs.length) none).getD i none = vs[i]? := by
 rw [List.getD_eq_getElem?_getD, List.getElem?_append]
 split
 ·rename_i h
  rw [List.length_map] at h
  simp [h]
 ·rename_i h
  rw [List.length_map] at h
  rw [List.getElem?_eq_none (by lia : vs.length ≤ i)]
  rw [List.getElem?_replicate]
  split <;> rfl
theorem zip_mem {ps : List Str} {xs : List Value} {i : Nat} {x : Str} {v : Value} (h1 : ps[i]? = some x) (h2 : xs[i]? = some v) : (x, v) ∈ ps.zip xs := by
 have : (ps.zip xs)[i]? = some (x, v) := by rw [List.getElem?_zip_eq_some]; exact ⟨h1, h2⟩
 exact List.mem_of_getElem? this
theorem FR.init {T H s} (r : SR S T H s) {scope : Scope} {ps : List Str} (ok : ScopeOk scope ps) {vs : List V} {xs : List Value} (hl : vs.length = ps.length) (vr : VRs S.C T vs xs)
  {qual : Str} {a : Addr} {cd : Value} {env : Env} (he : env = newEnv scope s.heap.objs.size mainGlobals (cellsFrom (s.heap.objs.size + 1) scope.names []) qual (some a) cd none builtinsNs) {s' : Shared}
  (x : InCallC s env.locals (bindL env.kindOf (ps.zip xs) fun _ => none) env.cells (bindC env.kindOf (ps.zip xs) fun _ => none) s') :
  Go [] T s T s' ∧ SR S T H s' ∧ FR S T env (vs.map some ++ List.replicate (scope.names.length - ps.length) none) s' ∧ ∀ b ∈ own env, s.heap.get? b = none := by
 obtain ⟨h', t, rfl, hk⟩ := x.toInCall.done
 have hx := vr.length
 have hz : ((ps.zip xs).map (·.1)) = ps := by
  rw [List.map_fst_zip]; lia
 have above : ∀ nm c, (nm, c) ∈ env.cells → s.heap.objs.size ≤ c := fun nm c hm => by
  have := x.above nm c hm
  have e : env.locals = s.heap.objs.size := by rw [he]; rfl
  rw [e] at this; exact Nat.le_of_lt this
 have eL : env.locals = s.heap.objs.size := by rw [he]; rfl
 have eS : env.scope = scope := by rw [he]; rfl
 have eC : env.cells = cellsFrom (s.heap.objs.size + 1) scope.names [] := by rw [he]; rfl
 have inOwn : ∀ b ∈ own env, s.heap.objs.size ≤ b := fun b hb => by
  rcases List.mem_cons.mp (own_all hb) with z | z
  ·rw [z, eL]; exact Nat.le_refl _
  ·obtain ⟨⟨nm, c⟩, hm, rfl⟩ := List.mem_map.mp z
   exact above nm c hm
 have cellNd : (env.cells.map (·.1)).Nodup := by
  rw [eC]; exact cellsFrom_names scope.names 0 (s.heap.objs.size + 1) [] [] rfl ▸ ok.cells
 refine ⟨Go.grow hk, r.grow hk, ⟨?_, ?_, ?_, ?_, ?_, ⟨_, x.toInCall.ns, fun i y e => ?_⟩, fun i y k e hkk => ?_, fun p q c hp hq => pairwise_one x.apart (lookup_mem2 hp) (lookup_mem2 hq), ?_, fun c hc => ?_, fun i p c hp hc => ?_⟩, fun b hb => (size_none r (inOwn b hb)).1⟩
 ·rw [he]; rfl
 ·rw [he]; rfl
 ·rw [eS]; exact ok.kind
 ·rw [eS, List.length_append, List.length_map, List.length_replicate, hl]; have := ok.len; lia
 ·rw [eS]; exact ok.nd
 ·rw [eS] at e
  have hkd : env.kindOf y = some .local := by show env.scope.names.lookup y = _; rw [eS]; exact lookup_of_get ok.nd e
  rw [← hl, init_getD]
  cases hv : vs[i]? with
  | some v =>
   obtain ⟨z, ez, vz⟩ := vr.get hv
   have hi : i < ps.length := by rw [← hl]; exact (List.getElem?_eq_some_iff.mp hv).1
   have hp : ps[i]? = some y := by
    obtain ⟨k, e1, _⟩ := ok.at (List.getElem?_eq_getElem hi)
    rw [e] at e1; injection e1 with e1; injection e1 with e1 _
    rw [List.getElem?_eq_getElem hi, e1]
   rw [bindL_at hkd (by rw [hz]; exact ok.nps) (zip_mem hp ez)]
   exact .some vz
  | none =>
   rw [bindL_not (by
    rw [hz]
    intro hm
    obtain ⟨j, hj⟩ := List.getElem?_of_mem hm
    obtain ⟨k, e1, _⟩ := ok.at hj
    have hji : j = i := by
     by_cases q : j = i
     ·exact q
     ·exact absurd rfl (names_ne (env := env) (by rw [eS]; exact ok.nd) (by rw [eS]; exact e) (by rw [eS]; exact e1) q)
    subst hji
    have := (List.getElem?_eq_some_iff.mp hj).1
    rw [List.getElem?_eq_none_iff] at hv
    lia)]
   exact .none
 ·rw [eS] at e
  have hkd : env.kindOf y = some k := by show env.scope.names.lookup y = _; rw [eS]; exact lookup_of_get ok.nd e
  rcases hkk with rfl | rfl
  ·have hs : (env.cells.lookup y).isSome = true := by
    rw [eC]; exact cellsFrom_some _ _ _ (.inl (lookup_of_get ok.nd e))
   obtain ⟨c, hc⟩ := Option.isSome_iff_exists.mp hs
   refine ⟨c, _, hc, x.cell y c hc, ?_⟩
   have hne : env.kindOf y ≠ some .local := by rw [hkd]; intro z; cases z
   rw [← hl, init_getD]
   cases hv : vs[i]? with
   | some v =>
    obtain ⟨z, ez, vz⟩ := vr.get hv
    have hi : i < ps.length := by rw [← hl]; exact (List.getElem?_eq_some_iff.mp hv).1
    have hp : ps[i]? = some y := by
     obtain ⟨k, e1, _⟩ := ok.at (List.getElem?_eq_getElem hi)
     rw [e] at e1; injection e1 with e1; injection e1 with e1 _
     rw [List.getElem?_eq_getElem hi, e1]
    rw [bindC_at hne (by rw [hz]; exact ok.nps) (zip_mem hp ez)]
    exact .some vz
   | none =>
    rw [bindC_not (by
     rw [hz]
     intro hm
     obtain ⟨j, hj⟩ := List.getElem?_of_mem hm
     obtain ⟨k, e1, _⟩ := ok.at hj
     have hji : j = i := by
      by_cases q : j = i
      ·exact q
      ·exact absurd rfl (names_ne (env := env) (by rw [eS]; exact ok.nd) (by rw [eS]; exact e) (by rw [eS]; exact e1) q)
     subst hji
     have := (List.getElem?_eq_some_iff.mp hj).1
     rw [List.getElem?_eq_none_iff] at hv
     lia)]
    exact .none
  ·exact absurd rfl (ok.free _ (List.mem_of_getElem? e))
 ·rw [eL]; exact ⟨(size_none r (Nat.le_refl _)).2.1, (size_none r (Nat.le_refl _)).2.2⟩
 ·obtain ⟨⟨nm, c'⟩, hm, rfl⟩ := List.mem_map.mp hc
  refine ⟨(size_none r (above nm c' hm)).2.1, ?_⟩
  obtain ⟨o, ho, _⟩ := x.cell nm c' (lookup_of_mem_nodup cellNd hm)
  exact ⟨o, ho⟩
 ·exact (size_none r (above p c (lookup_mem2 hc))).2.2
noncomputable def FnC (S : Sur) (n : Nat) (f : Value) (W : FW) : Prop :=
 ∀ {A : Around} {R : Result → Shared → Prop} {T H s Q vs xs}, Roomy n A → SR S T H s → VRs S.C T vs xs → W vs H Q → (∀ v s', EP S T s Q v s' → R (.ok (.ret v)) s') → codeAny (model S.prog S.w) A (.call f ⟨xs, []⟩) R s
theorem FnC.fn {f : Value} {W : FW} (h : FnC S n f W) : Fn S n f W := fun ro r vr q => wpAny_call (h ro r vr q fun _ _ e => e)
theorem FnC.defB (hS : Stat S) {f : Addr} {name qual : Str} {params : Arguments} {body : List Stmt} {scope : Scope} {dV kV doc pm cdv ct oc : Value} {an od : Option Addr} {osl : Array (Option Value)} {ps : List Str} {W : BW}
  (ho : S.K.lookup f = some ⟨oc, od, .func (fnOf name qual params body scope dV kV doc pm an cdv ct), osl⟩) (hcd : codeIn S.K cdv qual = true) (ok : ScopeOk scope ps)
  (hb : ∀ (s : Shared) (xs : List Value), S.K.In s.heap → xs.length = ps.length → BindsTo s (fnOf name qual params body scope dV kV doc pm an cdv ct) ⟨xs, []⟩ (ps.zip xs)) (h : SB S scope n body W) :
  FnC S (n + 1) (.ref f) (defF ps.length scope.names.length W) := by
 intro A R T H s Q vs xs ro r vr q hR
 obtain ⟨hl, q⟩ := q
 refine codeAny_call_function ro.room (hS.In r _ _ ho) rfl ok.co ok.gen rfl (codeRec_of (hS.In r) hcd) ?_
 refine hb s xs (hS.In r) (by rw [← vr.length]; exact hl) _ _ _ _ (wpAny_newFunctionEnv_cells ok.kind (fun p hp => ?_) fun env he s' x => ?_)
 ·obtain ⟨i, hi⟩ := List.getElem?_of_mem hp
  rw [List.getElem?_zip_eq_some] at hi
  obtain ⟨k, e1, hk⟩ := ok.at hi.1
  have := lookup_of_get ok.nd e1
  rcases hk with rfl | rfl
  ·exact .inl this
  ·exact .inr ⟨this, cellsFrom_some _ _ _ (.inl this)⟩
 ·obtain ⟨g₁, r₁, fr₁, hown⟩ := FR.init r ok hl vr he x
  refine ⟨hS.lim r₁, codeAny_func ?_⟩
  have es : env.scope = scope := by rw [he]; rfl
  refine wpAny_mono (h ro.deeper es r₁ fr₁ q) (fun f s₂ e => ?_) fun _ _ e => e
  obtain ⟨T₂, H₂, ρ₂, g, g₂, r₂, fr₂, fl, q₂⟩ := e
  have gg := g₁.frame g₂ hown
  cases fl with
  | next => exact hR _ _ ⟨T₂, H₂, _, gg, r₂, .none, q₂⟩
  | brk => exact q₂.elim
  | cont => exact q₂.elim
  | ret v => exact hR _ _ ⟨T₂, H₂, _, gg, r₂, v, q₂⟩
theorem FnC.def (hS : Stat S) {f : Addr} {name qual : Str} {params : Arguments} {body : List Stmt} {scope : Scope} {dV kV doc pm cdv ct oc : Value} {an od : Option Addr} {osl : Array (Option Value)} {ps : List Str} {W : BW}
  (ho : S.K.lookup f = some ⟨oc, od, .func (fnOf name qual params body scope dV kV doc pm an cdv ct), osl⟩) (hcd : codeIn S.K cdv qual = true) (ok : ScopeOk scope ps)
  (hb : ∀ xs : List Value, xs.length = ps.length → bindArgs (fnOf name qual params body scope dV kV doc pm an cdv ct) ⟨xs, []⟩ = pure (ps.zip xs)) (h : SB S scope n body W) :
  FnC S (n + 1) (.ref f) (defF ps.length scope.names.length W) :=
 FnC.defB hS ho hcd ok (fun _ xs _ hx => .of_eq (hb xs hx)) h
noncomputable def newF (spec : FW) : FW := fun vs H Q => spec (.ref (H.length + 1) :: vs) (H ++ [.ns []] ++ [.inst H.length]) fun v H' => match v with | .none => Q (.ref (H.length + 1)) H' | _ => False
theorem Roomy.create {A : Around} {C : Addr} {rest : List Value} (h : Roomy (n + 1) A) : Roomy n (A.under (.builtin "type.__call__" ⟨.ref C :: rest, []⟩)) := by
 have e1 : (Code.builtin "type.__call__" ⟨.ref C :: rest, []⟩).weight = 1 := rfl
 have e2 : (Code.builtin "type.__call__" ⟨.ref C :: rest, []⟩).cUnits ≤ 40 := Nat.le_of_ble_eq_true rfl
 refine ⟨h.hd, ?_, ?_⟩
 ·have := h.depth
  show A.depth + _ + 4 * n ≤ 900
  rw [e1]; lia
 ·have := h.units
  show A.units + _ + 40 * n ≤ 9000
  lia
theorem FnC.new (hS : Stat S) {fI : Addr} {spec : FW} (hm : makesIn S.K S.cl = true) (hi : findIn S.K (.ref S.cl) "__init__" = some (some (.ref fI))) (hf : typeIn S.K (.ref fI) = some (.type "function")) (F : FnC S n (.ref fI) spec) :
  FnC S (n + 1) (.ref S.cl) (newF spec) := by
 intro A R T H s Q vs xs ro r vr q hR
 obtain ⟨hh, g, d, t, os⟩ := s
 have X := hS.In r
 refine make_core (makes_of X hm) (looks_findIn X hi) (fun self => bind_fn X self hf) (.inl rfl) ?_
 obtain ⟨T₁, i₁, g₁, r₁, v₁⟩ := r.alloc hS.C (o := emptyDict) (ao := .ns []) rfl fun T' le _ => ⟨[], 0, Heap.get?_push_size _ rfl, .nil⟩
 have len₁ : T₁.ids[H.length]? = some hh.objs.size := by rw [i₁, ← r.len]; simp
 obtain ⟨T₂, i₂, g₂, r₂, v₂⟩ := r₁.alloc hS.C (o := instObj S.cl hh.objs.size) (ao := .inst H.length) rfl fun T' le _ => ⟨_, le.id len₁, Heap.get?_push_size _ rfl⟩
 have e : (hh.push emptyDict).objs.size = hh.objs.size + 1 := Heap.size_push _ _
 have v₂' : VR S.C T₂ (.ref (H.length + 1)) (.ref (hh.objs.size + 1)) := by
  have := v₂
  simp only [List.length_append, List.length_cons, List.length_nil, Heap.size_push] at this
  exact this
 refine F ro.create r₂ (.cons v₂' ((vr.mono hS.C g₁.le).mono hS.C g₂.le)) q fun v s' e => ?_
 obtain ⟨T₃, H₃, u, g₃, r₃, v₃, q₃⟩ := e
 have gg := (g₁.trans g₂).trans g₃
 split at q₃
 ·cases v₃
  exact ⟨rfl, hR _ _ ⟨T₃, H₃, _, gg, r₃, v₂'.mono hS.C g₃.le, q₃⟩⟩
 ·exact q₃.elim
end
end Mine
end
section
open PySem PySem.W PyProof.Rows PySem.Calls Builtin Builtin.ObjectAttr
set_option maxRecDepth 100000
namespace Mine
section
variable {S : Sur} {sc : Scope} {n : Nat}
structure AttrSt (S : Sur) (x : String) : Prop where
 set : findIn S.K (.ref S.cl) "__setattr__" = some (some (.builtin "object.__setattr__"))
 over : plainOver S.K S.cl = true
 taker : takerIn S.K S.cl (Str.ofString x) = some none
 dict : hasDictIn S.K S.cl = true
noncomputable def fput (fs : List (String × V)) (x : String) (v : V) : List (String × V) :=
 match fs with
 | [] => [(x, v)]
 | p :: r => if p.1 = x then (p.1, v) :: r else p :: fput r x v
theorem Flds.put {C P T} {fs es} (h : Flds C P T fs es) (x : String) {v : V} {y : Value} (vr : VR C T v y) (t : Tok) : Flds C P T (fput fs x v) (putL (Str.ofString x) (PyData.keyHash P (Str.ofString x)) (.str (Str.ofString x) t) y es) := by
 induction h with
 | nil => exact .cons vr .nil
 | @cons n u z tk d e r _ ih =>
  unfold fput putL
  dsimp only
  rw [isStr_ofString]
  by_cases hn : n = x
  ·rw [decide_eq_true hn, if_pos hn, if_pos rfl]
   exact .cons vr ‹_›
  ·rw [decide_eq_false hn, if_neg hn, if_neg Bool.false_ne_true]
   exact .cons r ih
theorem Flds.noRef {C P T} {fs es} (h : Flds C P T fs es) : es.any (·.refKey) = false := by
 induction h with
 | nil => rfl
 | cons _ _ ih => rw [List.any_cons, ih]; rfl
theorem Flds.len {C P T} {fs es} (h : Flds C P T fs es) : fs.length = es.length := by
 induction h with
 | nil => rfl
 | cons _ _ ih => rw [List.length_cons, List.length_cons, ih]
theorem putL_len (name : Str) (hsh : Int) (key v : Value) (es : List DictEntry) : (putL name hsh key v es).length ≤ es.length + 1 := by
 induction es with
 | nil => exact Nat.le_refl _
 | cons e r ih =>
  unfold putL
  split
  ·simp
  ·simp; exact ih
theorem attr_put (hS : Stat S) {x : String} (ax : AttrSt S x) {a dx : Addr} {es : List DictEntry} {m : Nat} {v : Value} {A : Around} {E : Value → Shared → Prop} {T H s} {Q : Unit → Shared → Prop} (r : SR S T H s)
  (hx : s.heap.get? a = some (instObj S.cl dx)) (D : s.heap.get? dx = some (dictOf es m)) (hr : es.any (·.refKey) = false) (hz : es.length ≤ 900)
  (h : ∀ h' t, h'.get? dx = some (dictOf (putL (Str.ofString x) (PyData.keyHash S.w.params (Str.ofString x)) (.str (Str.ofString x) (s.toks + 1)) v es) (putN (Str.ofString x) es m)) → Heap.SameBut dx s.heap h' → Q () { s with heap := h', toks := t }) :
  wpAny (model S.prog S.w) A (setAttr (.ref a) (Str.ofString x) v) Q E s := by
 have X := hS.In r
 have I : InstAt s.heap a (instObj S.cl dx) S.cl (some (dictOf es m)) := ⟨hx, rfl, rfl, D⟩
 refine set_plain X I ax.set ?_
 obtain ⟨cd, hc, hd'⟩ := any_some ax.dict
 refine osa_open (s := { s with toks := s.toks + 1 }) X I ax.over ax.taker fun b => ?_
 refine wpAny_bind (wpAny_pure (wpAny_bind (wpAny_bind (wpAny_loadPart hx (wpAny_bind ((looks_clsIn X hc) _ _ _ _ (fun _ _ e => e) ?_))))))
 rw [hd']
 refine wpAny_pure (a := some dx) (wpAny_bind (wpAny_pure (wpAny_bind ?_)))
 unfold nsSet
 refine wpAny_bind (wpAny_bind (wpAny_askSetting (wpAny_pure (wpAny_bind (wpAny_mkText (wpAny_bind (wpAny_loadPart D ?_)))))))
 dsimp only
 have c : (!es.toArray.any (·.key.isStr (Str.ofString x)) && es.toArray.any (·.refKey)) = false := by
  rw [← Array.any_toList, ← Array.any_toList]
  show (_ && es.any (·.refKey)) = false
  rw [hr, Bool.and_false]
 rw [aRefKeyMayBeTheName_at, c]
 have key : Obj.putName (Str.ofString x) (PyData.keyHash S.w.params (Str.ofString x)) (.str (Str.ofString x) (s.toks + 1)) v (dictOf es m) = dictOf (putL (Str.ofString x) (PyData.keyHash S.w.params (Str.ofString x)) (.str (Str.ofString x) (s.toks + 1)) v es) (putN (Str.ofString x) es m) := putName_dict _ _ _ _ _ _
 refine wpAny_updatePart D ?_
 have D' : (s.heap.update dx (Obj.putName (Str.ofString x) (PyData.keyHash S.w.params (Str.ofString x)) (.str (Str.ofString x) (s.toks + 1)) v)).get? dx = some (dictOf (putL (Str.ofString x) (PyData.keyHash S.w.params (Str.ofString x)) (.str (Str.ofString x) (s.toks + 1)) v es) (putN (Str.ofString x) es m)) := by
  rw [Heap.get?_update_self _ D (by rw [key]; rfl), key]
 refine wpAny_bind (wpAny_lookBehind D' (pastItsLine_dict (by rw [List.size_toArray, sizeLine_eq]; have := putL_len (Str.ofString x) (PyData.keyHash S.w.params (Str.ofString x)) (.str (Str.ofString x) (s.toks + 1)) v es; lia)) ?_)
 exact wpAny_pure (h _ _ D' (Heap.SameBut.update ..))
noncomputable def attrA (x : String) (a : EW) : V → Rho → List AO → (Rho → List AO → Prop) → Prop := fun v ρ H Q => a ρ H fun o H' => match o with
 | .ref k => ∃ j fs, H'[k]? = some (.inst j) ∧ H'[j]? = some (.ns fs) ∧ fs.length ≤ 900 ∧ Q ρ (H'.set j (.ns (fput fs x v)))
 | _ => False
theorem setAttr_ok (hS : Stat S) {x : String} (ax : AttrSt S x) {A : Around} {E : Value → Shared → Prop} {T : Ty} {H : List AO} {s : Shared} {k a : Nat} {v : V} {y : Value} {Q : List AO → Prop} (r : SR S T H s) (ea : T.ids[k]? = some a) (vr : VR S.C T v y)
  (q : ∃ j fs, H[k]? = some (.inst j) ∧ H[j]? = some (.ns fs) ∧ fs.length ≤ 900 ∧ Q (H.set j (.ns (fput fs x v)))) :
  wpAny (model S.prog S.w) A (setAttr (.ref a) (Str.ofString x) y) (fun _ s' => ∃ H', Go [] T s T s' ∧ SR S T H' s' ∧ Q H') E s := by
 obtain ⟨j, fs, h1, h2, h3, q⟩ := q
 obtain ⟨dx, e1, g1⟩ := r.at ea h1
 obtain ⟨es, m, g2, f⟩ := r.at e1 h2
 refine attr_put hS ax r g1 g2 f.noRef (by rw [← f.len]; exact h3) fun h' t D hs => ?_
 obtain ⟨g, r'⟩ := r.put (t := t) (ao := .ns (fput fs x v)) e1 hs ⟨_, _, D, f.put x vr _⟩
 exact ⟨_, g, r', q⟩
theorem SA.attr (hS : Stat S) {x : String} (ax : AttrSt S x) {o pos a} (ha : SE S sc n o a) : SA S sc n (.Attribute o (Str.ofString x) pos) (attrA x a) := by
 intro A E T H env ρ s Q v y ro he r fr vr q
 rw [arm_assign_Attribute]
 refine wpAny_bind (wpAny_holding (ha.run hS.C ro he r fr q fun T₁ H₁ u z s₁ g₁ r₁ fr₁ v₁ q₁ => wpAny_bind (wpAny_standAt (wpAny_bind (wpAny_holding ?_)))))
 split at q₁
 ·obtain ⟨a, rfl, ea⟩ := v₁.ref_inv
  refine wpAny_mono (setAttr_ok hS ax r₁ ea (vr.mono hS.C g₁.le) q₁) (fun _ s₂ h => ?_) fun _ _ e => e
  obtain ⟨H₂, g₂, r₂, q₂⟩ := h
  exact wpAny_release' ⟨T₁, H₂, ρ, (g₁.trans g₂).nil, r₂, fr₁.go hS.C g₂, q₂⟩
 ·exact q₁.elim
noncomputable def augAttrBW (x : String) (op : Operator) (a c : EW) : BW := fun ρ H Q => a ρ H fun o H₁ => attrV x o H₁ fun v H₂ => c ρ H₂ fun u H₃ => inpV op v u H₃ fun w H₄ => match o with
 | .ref k => ∃ j fs, H₄[k]? = some (.inst j) ∧ H₄[j]? = some (.ns fs) ∧ fs.length ≤ 900 ∧ Q .next ρ (H₄.set j (.ns (fput fs x w)))
 | _ => False
theorem SS.augAttr (hS : Stat S) {x : String} (ax : AttrOk S x) (at' : AttrSt S x) {o tpos op e pos a c} (ha : SE S sc n o a) (hc : SE S sc n e c) : SS S sc n (.AugAssign (.Attribute o (Str.ofString x) tpos) op e pos) (augAttrBW x op a c) := by
 intro A E T H env ρ s Q ro he r fr q
 rw [arm_exec_AugAssign_2]
 refine wpAny_bind (wpAny_standAt (wpAny_bind (ha.run hS.C ro he r fr q fun T₁ H₁ ov y s₁ g₁ r₁ fr₁ v₁ q₁ => wpAny_bind (wpAny_holding (wpAny_bind (wpAny_standAt (wpAny_bind ?_)))))))
 refine wpAny_mono (attr_ok hS ax r₁ v₁ q₁) (fun z s₂ h₂ => ?_) fun _ _ e => e
 obtain ⟨T₂, H₂, w, g₂, r₂, v₂, q₂⟩ := h₂
 refine wpAny_bind (wpAny_holding (hc.run hS.C ro he r₂ (fr₁.go hS.C g₂) q₂ fun T₃ H₃ u z' s₃ g₃ r₃ fr₃ v₃ q₃ => wpAny_bind (wpAny_standAt (wpAny_operate' ?_))))
 refine wpAny_mono (inp_ok r₃ (v₂.mono hS.C g₃.le) v₃ q₃) (fun z₄ s₄ h₄ => ?_) fun _ _ e => e
 obtain ⟨T₄, H₄, w₄, g₄, r₄, v₄, q₄⟩ := h₄
 refine wpAny_bind (wpAny_standAt (wpAny_bind (wpAny_holding ?_)))
 split at q₄
 ·have v₁' := v₁.mono hS.C (g₂.trans (g₃.trans g₄)).le
  obtain ⟨a, rfl, ea⟩ := v₁'.ref_inv
  refine wpAny_mono (setAttr_ok hS at' r₄ ea v₄ q₄) (fun _ s₅ h => ?_) fun _ _ e => e
  obtain ⟨H₅, g₅, r₅, q₅⟩ := h
  refine wpAny_bind (wpAny_release' (wpAny_pure ?_))
  exact ⟨T₄, H₅, ρ, .next, (g₁.trans (g₂.trans (g₃.trans (g₄.trans g₅)))).nil, r₅, fr₃.go hS.C (g₄.trans g₅), .next, q₅⟩
 ·exact q₄.elim
end
end Mine
end
section
open PySem PySem.W PyProof.Rows PySem.Calls
set_option maxRecDepth 100000
namespace Mine
section
variable {S : Sur} {sc : Scope} {n : Nat}
noncomputable def clGo (env : Env) : List (Str × NameKind) → List (Str × Addr) → List (Str × Addr)
 | [], acc => acc
 | (x, k) :: r, acc => clGo env r (if k == .free then (x, (env.cells.lookup x).getD 0) :: acc else acc)
theorem closure_go (env : Env) : ∀ (l : List (Str × NameKind)) (acc : List (Str × Addr)), (∀ x, (x, NameKind.free) ∈ l → (env.cells.lookup x).isSome = true) →
  (forIn l acc fun (x : Str × NameKind) (cs : List (Str × Addr)) => (do
   if x.2 == .free then pure (ForInStep.yield ((x.1, ← cellOf env x.1) :: cs)) else pure (ForInStep.yield cs) : Sem (ForInStep (List (Str × Addr))))) = pure (clGo env l acc)
 | [], acc, _ => rfl
 | (x, k) :: r, acc, h => by
  rw [List.forIn_cons]
  dsimp only
  by_cases hk : (k == .free) = true
  ·have hk' : k = .free := eq_of_beq hk
   subst hk'
   obtain ⟨c, hc⟩ := Option.isSome_iff_exists.mp (h x List.mem_cons_self)
   rw [if_pos hk]
   have e : cellOf env x = pure c := by unfold cellOf; rw [hc]
   rw [e]
   show (forIn r ((x, c) :: acc) _ : Sem _) = _
   rw [closure_go env r _ fun y hy => h y (List.mem_cons_of_mem _ hy)]
   simp only [clGo, hk, if_true, hc, Option.getD_some]
  ·rw [if_neg hk]
   show (forIn r acc _ : Sem _) = _
   rw [closure_go env r _ fun y hy => h y (List.mem_cons_of_mem _ hy)]
   simp only [clGo, hk, if_false, Bool.false_eq_true]
theorem closure_ok {env : Env} {cs : Scope} (h : ∀ x, (x, NameKind.free) ∈ cs.names → (env.cells.lookup x).isSome = true) : closureFor cs env = pure (clGo env cs.names []) := by
 have := closure_go env cs.names [] h
 unfold closureFor
 show (forIn cs.names ([] : List (Str × Addr)) (fun (x : Str × NameKind) (cs : List (Str × Addr)) => (do
   if x.2 == .free then pure (ForInStep.yield ((x.1, ← cellOf env x.1) :: cs)) else pure (ForInStep.yield cs) : Sem (ForInStep (List (Str × Addr))))) >>= pure) = _
 rw [this]
 rfl
theorem clGo_sound {env : Env} : ∀ (l : List (Str × NameKind)) (acc : List (Str × Addr)) {x : Str} {c : Addr}, (∀ y, (y, NameKind.free) ∈ l → (env.cells.lookup y).isSome = true) → (∀ p ∈ acc, env.cells.lookup p.1 = some p.2) → (x, c) ∈ clGo env l acc → env.cells.lookup x = some c
 | [], acc, x, c, _, ha, h => ha _ h
 | (y, k) :: r, acc, x, c, hl, ha, h => by
  unfold clGo at h
  refine clGo_sound r _ (fun z hz => hl z (List.mem_cons_of_mem _ hz)) ?_ h
  intro p hp
  split at hp
  ·rename_i hk
   rcases List.mem_cons.mp hp with rfl | hp
   ·have hk' : k = .free := eq_of_beq hk
    subst hk'
    obtain ⟨c', hc⟩ := Option.isSome_iff_exists.mp (hl y List.mem_cons_self)
    show env.cells.lookup y = some ((env.cells.lookup y).getD 0)
    rw [hc]; rfl
   ·exact ha p hp
  ·exact ha p hp
theorem clGo_has {env : Env} : ∀ (l : List (Str × NameKind)) (acc : List (Str × Addr)) {x : Str}, ((x, NameKind.free) ∈ l ∨ x ∈ acc.map (·.1)) → x ∈ (clGo env l acc).map (·.1)
 | [], acc, x, h => by rcases h with h | h; cases h; exact h
 | (y, k) :: r, acc, x, h => by
  unfold clGo
  refine clGo_has r _ ?_
  rcases h with h | h
  ·rcases List.mem_cons.mp h with h | h
   ·cases h
    exact .inr (by rw [if_pos (by decide)]; exact List.mem_cons_self)
   ·exact .inl h
  ·refine .inr ?_
   split
   ·exact List.mem_cons_of_mem _ h
   ·exact h
theorem lookup_of_fst {l : List (Str × Addr)} {x : Str} (h : x ∈ l.map (·.1)) : ∃ c, l.lookup x = some c := by
 induction l with
 | nil => cases h
 | cons p l ih =>
  obtain ⟨y, d⟩ := p
  rw [List.lookup_cons]
  by_cases q : (x == y) = true
  ·rw [q]; exact ⟨_, rfl⟩
  ·rw [Bool.not_eq_true] at q; rw [q]
   rw [List.map_cons] at h
   rcases List.mem_cons.mp h with e | h
   ·exact absurd (by rw [e]; simp) (by rw [q]; exact Bool.false_ne_true : ¬ (x == y) = true)
   ·exact ih h
noncomputable def relS (cs sc : Scope) : Scope := { cs with names := cs.names.map fun (n, k) => if (k == .free && sc.kind == .function && sc.names.lookup n == some .cell) then (n, .cell) else (n, k) }
noncomputable def compMap (cs sc : Scope) : List (Option Nat) := cs.names.map fun (x, k) => if k == .free then (slot sc x).map (·.1) else none
noncomputable def compRho (m : List (Option Nat)) (ρ : Rho) : Rho := m.map fun o => match o with | some j => ρ.getD j none | none => none
structure CompOk (cs sc : Scope) : Prop where
 kind : cs.kind = .function
 nd : (cs.names.map (·.1)).Nodup
 noCell : ∀ p ∈ cs.names, p.2 ≠ .cell
 free : ∀ p ∈ cs.names, p.2 = .free → ∃ j k, slot sc p.1 = some (j, k) ∧ (k = .cell ∨ k = .free)
 dot : (cs.names.lookup (Str.ofString ".0")).isSome = true
theorem relS_get {cs sc : Scope} {i : Nat} {x : Str} {k : NameKind} (h : (relS cs sc).names[i]? = some (x, k)) : ∃ k₀, cs.names[i]? = some (x, k₀) ∧ ((k₀ = .free ∧ sc.names.lookup x = some .cell ∧ k = .cell) ∨ k = k₀) := by
 unfold relS at h
 dsimp only at h
 rw [List.getElem?_map] at h
 obtain ⟨⟨y, q⟩, e, h⟩ := Option.map_eq_some_iff.mp h
 dsimp only at h
 split at h
 ·rename_i hc
  cases h
  simp only [Bool.and_eq_true, beq_iff_eq] at hc
  exact ⟨q, e, .inl ⟨hc.1.1, hc.2, rfl⟩⟩
 ·cases h; exact ⟨_, e, .inr rfl⟩
theorem relS_fst (cs sc : Scope) : (relS cs sc).names.map (·.1) = cs.names.map (·.1) := by
 unfold relS
 simp only [List.map_map]
 congr 1
 funext p
 obtain ⟨x, k⟩ := p
 simp only [Function.comp]
 split <;> rfl
theorem lookup_isSome_of_fst {α β : Type} [BEq α] {l l' : List (α × β)} (h : l.map (·.1) = l'.map (·.1)) (x : α) : (l.lookup x).isSome = (l'.lookup x).isSome := by
 induction l generalizing l' with
 | nil => cases l' with
  | nil => rfl
  | cons p l' => cases h
 | cons p l ih => cases l' with
  | nil => cases h
  | cons p' l' =>
   obtain ⟨a, b⟩ := p; obtain ⟨a', b'⟩ := p'
   simp only [List.map_cons, List.cons.injEq] at h
   obtain ⟨rfl, h⟩ := h
   rw [List.lookup_cons, List.lookup_cons]
   split
   ·rfl
   ·exact ih h
theorem FR.comp {T H s ρ} {env : Env} (r : SR S T H s) (fr : FR S T env ρ s) {cs : Scope} (ok : CompOk cs env.scope) {h' : Heap} {t : Tok}
  (hn : h'.Ns s.heap.objs.size fun _ => none) (hk : ∀ a o, s.heap.get? a = some o → h'.get? a = some o) :
  FR S T (compEnvC cs (clGo env cs.names []) s.heap.objs.size env) (compRho (compMap cs env.scope) ρ) { s with heap := h', toks := t } ∧ own (compEnvC cs (clGo env cs.names []) s.heap.objs.size env) = [s.heap.objs.size] := by
 have fc : ∀ x, (x, NameKind.free) ∈ cs.names → (env.cells.lookup x).isSome = true := fun x hx => by
  obtain ⟨j, k, e, hk⟩ := ok.free _ hx rfl
  obtain ⟨c, mv, hc, _⟩ := fr.cell j x k (slot_get e).1 hk
  rw [hc]; rfl
 have snd : ∀ {x c}, (x, c) ∈ clGo env cs.names [] → env.cells.lookup x = some c := fun h => clGo_sound cs.names [] fc (fun _ h => nomatch h) h
 have hsc : (compEnvC cs (clGo env cs.names []) s.heap.objs.size env).scope = relS cs env.scope := rfl
 have nf := size_none r (Nat.le_refl s.heap.objs.size)
 refine ⟨⟨fr.glob, fr.blt, ok.kind, ?_, ?_, ⟨_, hn, fun i x e => ?_⟩, fun i x k e hkk => ?_, fun x y c hx hy => ?_, nf.2, fun c hc => ?_, fun i x c e hc => ?_⟩, ?_⟩
 ·show (compRho _ _).length = (relS cs env.scope).names.length
  unfold compRho compMap relS
  simp only [List.length_map]
 ·show ((relS cs env.scope).names.map (·.1)).Nodup
  rw [relS_fst]; exact ok.nd
 ·obtain ⟨k₀, e₀, hc⟩ := relS_get e
  have : k₀ = .local := by
   rcases hc with ⟨_, _, h⟩ | h
   ·cases h
   ·exact h.symm
  subst this
  have : (compRho (compMap cs env.scope) ρ).getD i none = none := by
   unfold compRho compMap
   rw [List.getD_eq_getElem?_getD, List.getElem?_map, List.getElem?_map, e₀]
   rfl
  rw [this]; exact .none
 ·obtain ⟨k₀, e₀, hc⟩ := relS_get e
  have hfree : k₀ = .free := by
   rcases hc with ⟨h, _, _⟩ | h
   ·exact h
   ·subst h
    rcases hkk with rfl | rfl
    ·exact absurd rfl (ok.noCell _ (List.mem_of_getElem? e₀))
    ·rfl
  subst hfree
  have hm := List.mem_of_getElem? e₀
  obtain ⟨j, k', es, hk'⟩ := ok.free _ hm rfl
  obtain ⟨c, mv, hcl, hcell, ov⟩ := fr.cell j x k' (slot_get es).1 hk'
  obtain ⟨c', hc'⟩ := lookup_of_fst (clGo_has (env := env) cs.names [] (.inl hm))
  have : c' = c := by
   have := snd (lookup_mem2 hc')
   rw [hcl] at this; exact (Option.some.inj this).symm
  subst this
  refine ⟨c', mv, hc', hcell.keeps hk, ?_⟩
  have : (compRho (compMap cs env.scope) ρ).getD i none = ρ.getD j none := by
   unfold compRho compMap
   rw [List.getD_eq_getElem?_getD, List.getElem?_map, List.getElem?_map, e₀]
   simp only [Option.map_some, beq_self_eq_true, if_true, es]
   rfl
  rw [this]; exact ov
 ·exact fr.one x y c (snd (lookup_mem2 hx)) (snd (lookup_mem2 hy))
 ·obtain ⟨⟨nm, c'⟩, hm, rfl⟩ := List.mem_map.mp hc
  have := snd hm
  obtain ⟨a, o, ho⟩ := fr.ci c' (lookup_mem this)
  exact ⟨a, o, hk _ _ ho⟩
 ·obtain ⟨k₀, e₀, hcc⟩ := relS_get e
  have hl : env.scope.names.lookup x = some .cell := by
   rcases hcc with ⟨_, h, _⟩ | h
   ·exact h
   ·subst h; exact absurd rfl (ok.noCell _ (List.mem_of_getElem? e₀))
  have hfree : k₀ = .free := by
   rcases hcc with ⟨h, _, _⟩ | h
   ·exact h
   ·subst h; exact absurd rfl (ok.noCell _ (List.mem_of_getElem? e₀))
  subst hfree
  obtain ⟨j, k', es, _⟩ := ok.free _ (List.mem_of_getElem? e₀) rfl
  have e2 := slot_get es
  have : k' = .cell := by rw [hl] at e2; exact (Option.some.inj e2.2).symm
  subst this
  exact fr.cF j x c e2.1 (snd (lookup_mem2 hc))
 ·unfold own
  rw [hsc, if_pos (by rw [lookup_isSome_of_fst (relS_fst cs env.scope)]; exact ok.dot)]
  rfl
theorem compLoop_any {elt target iter : Expr} {ifs : List Expr} {scope : Scope} {pos : Pos} {it acc : Value} {env : Env} {A : Around} {R : Result → Shared → Prop} {s : Shared} {prog : Program} {w : World} (I : Nat → Shared → Prop)
  (turn : ∀ n s, I n s → ∀ E, wpAny (model prog w) A (pyNext it) (fun r s₁ => match r with
   | none => R (.ok .next) s₁
   | some v => wpAny (model prog w) A (letOwnedTupleGo target it v) (fun _ s₁' => wpAny (model prog w) A (assign target env v) (fun _ s₂ =>
     wpAny (model prog w) A (forIn ifs true fun c r => if r = true then do let ok ← isTrue c env (eval c env); pure (ForInStep.yield ok) else pure (ForInStep.yield r)) (fun ok s₃ =>
      if ok = true then wpAny (model prog w) A (eval elt env) (fun x s₄ =>
       wpAny (model prog w) A (call (.builtin "list.append") [acc, x]) (fun _ s₅ => ∃ m, m < n ∧ I m s₅) E s₄) E s₃
      else ∃ m, m < n ∧ I m s₃) E s₂) E s₁') E s₁) E s)
  (n : Nat) (h : I n s) :
  codeAny (model prog w) A (.compLoop (.ListComp elt [⟨target, iter, ifs, 0⟩] scope pos) 0 it acc env) R s := by
 refine codeAny_loop rfl I (fun n s hI => ?_) n h
 show wpAny _ A ((compTurn (.ListComp elt [⟨target, iter, ifs, 0⟩] scope pos) 0 it acc env).onRaise (fun x => do noteFrame x env; theTreesLotGoes x)) _ _ s
 refine wpAny_noted ?_
 rw [compTurn_list]
 refine wpAny_bind (wpAny_standAt (wpAny_bind (wpAny_mono (turn n s hI _) (fun r s₁ h₁ => ?_) fun _ _ x => x)))
 cases r with
 | none => exact wpAny_pure h₁
 | some v =>
  refine wpAny_bind (wpAny_mono h₁ (fun _ s₁' h₁' => ?_) fun _ _ x => x)
  refine wpAny_bind (wpAny_mono h₁' (fun _ s₂ h₂ => wpAny_bind (wpAny_mono h₂ (fun ok s₃ h₃ => ?_) fun _ _ x => x)) fun _ _ x => x)
  cases ok with
  | false => exact wpAny_pure ⟨rfl, h₃⟩
  | true => exact wpAny_bind (wpAny_bind (wpAny_mono h₃ (fun x s₄ h₄ => wpAny_bind (wpAny_mono h₄ (fun _ s₅ h₅ => wpAny_pure (wpAny_pure ⟨rfl, h₅⟩)) fun _ _ x => x)) fun _ _ x => x))
end
end Mine
end
section
open PySem PySem.W PyProof.Rows PySem.Calls
set_option maxRecDepth 100000
namespace Mine
section
variable {S : Sur} {sc : Scope} {n : Nat}
theorem SR.adopt (hC : CloMono S.C) {T T' : Ty} {H' : List AO} {s s' : Shared} (g : Go [] T s T' s') (r : SR S T' H' s') {D : Addr} {ao : AO} (h0 : s.heap.get? D = none) (hi : D ∉ T'.ids) (hF : T'.F D = none) (hb : 2 < D)
  (ho : OR S.prog S.w S.C S.cl T' s'.heap ao D) :
  ∃ T'', T''.ids = T'.ids ++ [D] ∧ T''.F = T'.F ∧ Go [] T s T'' s' ∧ SR S T'' (H' ++ [ao]) s' ∧ VR S.C T'' (.ref H'.length) (.ref D) := by
 let T'' : Ty := ⟨T'.F, T'.ids ++ [D]⟩
 have le : TyLe T' T'' := ⟨fun _ _ e => e, List.prefix_append _ _⟩
 have hget : ∀ k b, (T'.ids ++ [D])[k]? = some b → (k < H'.length ∧ T'.ids[k]? = some b) ∨ (k = H'.length ∧ b = D) := fun k b e => by
  rw [List.getElem?_append] at e
  split at e
  ·rename_i h; exact .inl ⟨by rw [← r.len]; exact h, e⟩
  ·rename_i h
   have hk : k - T'.ids.length = 0 := by
    rcases Nat.eq_zero_or_pos (k - T'.ids.length) with z | z
    ·exact z
    ·rw [List.getElem?_eq_none (by show 1 ≤ _; exact z)] at e; cases e
   rw [hk] at e
   have := r.len
   exact .inr ⟨by lia, by simpa using e.symm⟩
 refine ⟨T'', rfl, rfl, ⟨g.up, g.keep, g.alive, g.le.trans le, fun a h => ?_, g.newF⟩, ⟨r.fz, by show (T'.ids ++ _).length = _; simp [r.len], fun k b x e q => ?_, ?_, fun b h => ?_, r.st, fun b h => ?_, r.big⟩, .ref (by show (T'.ids ++ _)[_]? = _; rw [← r.len]; simp)⟩
 ·rcases List.mem_append.mp h with h | h
  ·exact g.new a h
  ·simp at h; subst h; exact .inr h0
 ·rcases hget k b e with ⟨h1, h2⟩ | ⟨h1, h2⟩
  ·rw [List.getElem?_append_left h1] at q
   exact (r.obj k b x h2 q).mono hC le
  ·subst h1 h2
   simp at q; subst q
   exact ho.mono hC le
 ·show (T'.ids ++ _).Nodup
  rw [List.nodup_append]
  refine ⟨r.nd, by simp, fun b h c hc => ?_⟩
  simp at hc; subst hc
  exact fun q => hi (q ▸ h)
 ·rcases List.mem_append.mp h with h | h
  ·exact r.dis b h
  ·simp at h; subst h; exact hF
 ·rcases List.mem_append.mp h with h | h
  ·exact r.low b h
  ·simp at h; subst h; exact hb
noncomputable def STs (S : Sur) (sc : Scope) (n : Nat) (ifs : List Expr) (W : TW) : Prop :=
 ∀ {A : Around} {E : Value → Shared → Prop} {T H env ρ s Q}, Roomy n A → env.scope = sc → SR S T H s → FR S T env ρ s → W ρ H Q →
  wpAny (model S.prog S.w) A (forIn ifs true fun c r => if r = true then do let ok ← isTrue c env (eval c env); pure (ForInStep.yield ok) else pure (ForInStep.yield r)) (TP S T s Q) E s
theorem STs.nil : STs S sc n [] (trueTW true) := fun _ _ r _ q => wpAny_tests_nil (TP.here r q)
theorem STs.one {e t} (h : ST S sc n e t) : STs S sc n [e] t := fun ro he r fr q => wpAny_tests_one (h ro he r fr q)
noncomputable def compLoopW (ok : List AO → Prop) (tA : V → Rho → List AO → (Rho → List AO → Prop) → Prop) (t : TW) (b : EW) : List V → Rho → List AO → List V → (List V → List AO → Prop) → Prop
 | [], _, H, acc, Q => ok H ∧ Q acc H
 | v :: vs, ρ, H, acc, Q => ok H ∧ acc.length ≤ 900 ∧ tA v ρ H fun ρ' H' => t ρ' H' fun c H'' =>
   if c then b ρ' H'' fun u H₃ => compLoopW ok tA t b vs ρ' H₃ (acc ++ [u]) Q else compLoopW ok tA t b vs ρ' H'' acc Q
noncomputable def compW (m : List (Option Nat)) (a : SW) (tA : V → Rho → List AO → (Rho → List AO → Prop) → Prop) (t : TW) (b : EW) : EW := fun ρ H Q => a ρ H fun src H' =>
 compLoopW src.ok tA t b src.items (compRho m ρ) H' [] fun acc H'' => Q (.ref H''.length) (H'' ++ [.list acc])
theorem call_append {l : Addr} {items : Array Value} {m : Nat} {v : Value} {A : Around} {E : Value → Shared → Prop} {s : Shared} {Q : Value → Shared → Prop} {prog : Program} {w : World}
  (g : s.heap.get? l = some { cls := .type "list", dict := none, data := .seq items m, slots := #[] }) (hz : items.size ≤ 1000) (h : Q .none { s with heap := s.heap.update l (Obj.mapSeq fun xs => xs.push v) }) :
  wpAny (model prog w) A (call (.builtin "list.append") [.ref l, v]) Q E s :=
 call_meets PySem.F.slot_list_append ⟨_, g, rfl⟩ PySem.F.entry_list_append (PySem.F.args_list_append_2 _ _) (list_append l items m v (by rw [sizeLine_eq]; lia)) ⟨g, h⟩
theorem iter_self {A} {E : Value → Shared → Prop} {T s I i src} {Q : Value → Shared → Prop} (x : ItAt S T s.heap I i src) (h : Q (.ref I) s) : wpAny (model S.prog S.w) A (pyIter (.ref I)) Q E s := by
 cases src with
 | list k l => obtain ⟨ax, a, it⟩ := x; exact wpAny_pyIter_listiter it h
 | tup l => obtain ⟨t, xs, m, a, b, it⟩ := x; exact wpAny_pyIter_tupleiter it h
 | range n => exact wpAny_pyIter_rangeiter x h
inductive CompI (S : Sur) (env : Env) (T₂ : Ty) (s₄ : Shared) (D I L : Addr) (src : Src) (W : List V → Rho → List AO → List V → (List V → List AO → Prop) → Prop) (Q : List V → List AO → Prop) (k : Nat) (s' : Shared) : Prop
 | mk (T' : Ty) (H' : List AO) (ρ : Rho) (i : Nat) (acc : List V) (ys : List Value) (m : Nat) (e : k = src.items.length - i) (l : i ≤ src.items.length) (g : Go [D, I, L] T₂ s₄ T' s') (r : SR S T' H' s') (f : FR S T' env ρ s') (t : ItAt S T' s'.heap I i src)
  (d : s'.heap.get? D = some { cls := .type "list", dict := none, data := .seq (List.toArray ys) m, slots := #[] }) (v : VRs S.C T' acc ys) (q : W (src.items.drop i) ρ H' acc Q)
theorem comp_loop (hC : CloMono S.C) {elt target iter : Expr} {ifs : List Expr} {cs : Scope} {p0 : Pos} {tA} {t : TW} {b : EW} {sc' : Scope} (ht : SA S sc' n target tA) (hi : STs S sc' n ifs t) (hb : SE S sc' n elt b)
  {A : Around} {T₂ H₂} {env' : Env} {ρ' : Rho} {s₄ : Shared} {Q : List V → List AO → Prop} {R : Result → Shared → Prop} {I D L' : Addr} {src : Src} (ro : Roomy n A) (he : env'.scope = sc') (r₄ : SR S T₂ H₂ s₄) (fr₄ : FR S T₂ env' ρ' s₄) (hown : own env' = [L'])
  (hD : s₄.heap.get? D = some { cls := .type "list", dict := none, data := .seq [].toArray 0, slots := #[] }) (it : ItAt S T₂ s₄.heap I 0 src) (nI : I ∉ T₂.ids ∧ T₂.F I = none) (nD : D ∉ T₂.ids ∧ T₂.F D = none) (hDI : D ≠ I)
  (aI : I ∉ all env') (aD : D ∉ all env') (q : compLoopW src.ok tA t b src.items ρ' H₂ [] Q)
  (hR : ∀ T' H' acc ys m ρ₁ (s' : Shared) h' t', Go [D, I, L'] T₂ s₄ T' s' → (∀ b o, b ≠ I → s'.heap.get? b = some o → h'.get? b = some o) → SR S T' H' { s' with heap := h', toks := t' } → FR S T' env' ρ₁ { s' with heap := h', toks := t' } → D ∉ T'.ids → T'.F D = none →
   h'.get? D = some { cls := .type "list", dict := none, data := .seq (List.toArray ys) m, slots := #[] } → VRs S.C T' acc ys → Q acc H' → R (.ok .next) { s' with heap := h', toks := t' }) :
  codeAny (model S.prog S.w) A (.compLoop (.ListComp elt [⟨target, iter, ifs, 0⟩] cs p0) 0 (.ref I) (.ref D) env') R s₄ := by
 obtain ⟨oI, hoI, _⟩ := it.has
 refine compLoop_any (CompI S env' T₂ s₄ D I L' src (compLoopW src.ok tA t b) Q) ?_ _ ⟨T₂, H₂, ρ', 0, [], [], 0, rfl, Nat.zero_le _, .refl _ _ _, r₄, fr₄, it, hD, .nil, q⟩
 rintro k s' ⟨T', H', ρ₁, i, acc, ys, m, rfl, hi', g', r', fr', it', hD', va, q'⟩ E
 have nI' := g'.out hoI nI.1
 have nF' := g'.outF hoI nI.2
 have nD' := g'.out hD nD.1
 have nDF := g'.outF hD nD.2
 by_cases hlt : i < src.items.length
 ·rw [List.drop_eq_getElem_cons hlt] at q'
  obtain ⟨ok, hz, q'⟩ := q'
  refine next_item r' it' ok (List.getElem?_eq_getElem hlt) fun y h' t' vr it₃ hk => ?_
  have g₃ : Go [D, I, L'] T₂ s₄ T' { s' with heap := h', toks := t' } := g'.priv hk (let ⟨o, h, _⟩ := it₃.has; ⟨o, h⟩) (by simp)
  have r₃ : SR S T' H' { s' with heap := h', toks := t' } := r'.priv hk nI' nF'
  have fr₃ : FR S T' env' ρ₁ { s' with heap := h', toks := t' } := fr'.priv hk aI
  have hD₃ := hk D _ hDI hD'
  refine lot_ok it₃.has ?_
  refine wpAny_mono (ht ro he r₃ fr₃ vr q') (fun _ s₅ h₅ => ?_) fun _ _ e => e
  obtain ⟨T₅, H₅, ρ₅, g₅, r₅, fr₅, q₅⟩ := h₅
  refine wpAny_mono (hi ro he r₅ fr₅ q₅) (fun c s₆ h₆ => ?_) fun _ _ e => e
  obtain ⟨T₆, H₆, g₆, r₆, q₆⟩ := h₆
  have fr₆ := fr₅.go hC g₆
  have ownL : ∀ x ∈ own env', x ∈ [D, I, L'] := fun x hx => by rw [hown] at hx; simp at hx; subst hx; simp
  have g₅₆ : Go (own env') T' { s' with heap := h', toks := t' } T₆ s₆ := g₅.trans g₆.nil
  have oI' : I ∉ own env' := fun z => aI (own_all z)
  have oD' : D ∉ own env' := fun z => aD (own_all z)
  cases c with
  | false =>
   exact ⟨src.items.length - (i + 1), by lia, T₆, H₆, ρ₅, i + 1, acc, ys, m, rfl, hlt, g₃.trans (g₅₆.weak ownL), r₆, fr₆, it₃.mono hC g₅₆.le (fun o ho => g₅₆.keep I o ho nI' oI'), g₅₆.keep D _ hD₃ nD' oD', va.mono hC g₅₆.le, q₆⟩
  | true =>
   rw [if_pos rfl]
   refine hb.run hC ro he r₆ fr₆ q₆ fun T₇ H₇ u x s₇ g₇ r₇ fr₇ v₇ q₇ => ?_
   have g₅₇ := g₅₆.trans g₇.nil
   have hD₇ := g₅₇.keep D _ hD₃ nD' oD'
   have nD₇ := g₅₇.out hD₃ nD'
   have nDF₇ := g₅₇.outF hD₃ nDF
   have va₇ := va.mono hC g₅₇.le
   have e := va₇.length
   refine call_append hD₇ (by rw [List.size_toArray]; lia) ?_
   have hk₇ : ∀ b o, b ≠ D → s₇.heap.get? b = some o → (s₇.heap.update D (Obj.mapSeq fun xs => xs.push x)).get? b = some o := fun b o hb ho => (Heap.get?_update_other _ _ (fun z => hb z.symm)).trans ho
   have hD₈ := IsL.update hD₇ (fun xs => xs.push x)
   rw [push_toArray] at hD₈
   have it₇ := it₃.mono hC g₅₇.le (fun o ho => g₅₇.keep I o ho nI' oI')
   have g₈ := (g₃.trans (g₅₇.weak ownL)).priv (t := s₇.toks) hk₇ ⟨_, hD₈⟩ (by simp)
   exact ⟨src.items.length - (i + 1), by lia, T₇, H₇, ρ₅, i + 1, acc ++ [u], ys ++ [x], _, rfl, hlt, g₈, r₇.priv hk₇ nD₇ nDF₇, fr₇.priv hk₇ aD, it₇.mono hC (.refl _) (fun o ho => hk₇ I o (fun z => hDI z.symm) ho), hD₈, va₇.append (.cons v₇ .nil), q₇⟩
 ·have hd : src.items.drop i = [] := List.drop_eq_nil_of_le (by lia)
  rw [hd] at q'
  obtain ⟨ok, q'⟩ := q'
  refine next_end ro.hd r' it' ok (List.getElem?_eq_none (by lia)) fun h' t' hk => ?_
  have hD₃ := hk D _ hDI hD'
  exact hR T' H' acc ys m ρ₁ s' h' t' g' hk (r'.priv hk nI' nF') (fr'.priv hk aI) nD' nDF hD₃ va q'
theorem comp_run (hC : CloMono S.C) {elt target iter : Expr} {ifs : List Expr} {cs : Scope} {p0 : Pos} {a : SW} {tA} {t : TW} {b : EW} (ok : CompOk cs sc) (h : SI S sc n iter a) (ht : SA S (relS cs sc) n target tA) (hi : STs S (relS cs sc) n ifs t) (hb : SE S (relS cs sc) n elt b)
  (hs : ∀ env x, foldedSetIterable iter env x = pure x) {A : Around} {E : Value → Shared → Prop} {T H env ρ s Q} {pos : Pos} {use : Option (Value → Sem Unit)} {R : Value → Shared → Prop} (ro : Roomy n A) (he : env.scope = sc) (r : SR S T H s) (fr : FR S T env ρ s)
  (q : compW (compMap cs sc) a tA t b ρ H Q)
  (k : ∀ T' H' s' v D C m, Go [] T s T' s' → SR S T' H' s' → FR S T' env ρ s' → VR S.C T' v (.ref D) → Q v H' → s'.heap.Ns C m → C ∉ T'.ids → T'.F C = none → C ∉ all env → s.heap.get? C = none → compPost (model S.prog S.w) A E use R (.ref D) C (.ok .next) s') :
  wpAny (model S.prog S.w) A (comprehension (.ListComp elt [⟨target, iter, ifs, 0⟩] cs p0) cs env pos (newList []) false (eval iter env) use) R E s := by
 subst he
 have fc : ∀ x, (x, NameKind.free) ∈ cs.names → (env.cells.lookup x).isSome = true := fun x hx => by
  obtain ⟨j, k, e, hk⟩ := ok.free _ hx rfl
  obtain ⟨c, mv, hc, _⟩ := fr.cell j x k (slot_get e).1 hk
  rw [hc]; rfl
 refine wpAny_comprehension_free (g := ⟨target, iter, ifs, 0⟩) (gs := []) rfl (hs env) (closure_ok fc) ok.kind (fun x hx hl => ?_) (wpAny_mono (h ro rfl r fr q) (fun x s₁ h₁ => wpAny_mono h₁ (fun it s₂ h₂ => ?_) fun _ _ e => e) fun _ _ e => e)
 ·obtain ⟨i, hi⟩ := List.getElem?_of_mem hx
  obtain ⟨y, k⟩ := x
  cases hl
  exact lookup_of_get ok.nd hi
 obtain ⟨T₂, H₂, src, I, g₂, r₂, rfl, it₂, hI, hiI, hFI, q₂⟩ := h₂
 refine wpAny_newObj_type ?_ (by exact Nat.zero_le _)
 have fr₂ := fr.go hC g₂
 have hk₃ : ∀ b o, s₂.heap.get? b = some o → (s₂.heap.push { cls := .type "list", data := .seq [].toArray }).get? b = some o := fun b o e => Heap.get?_push_of_some _ e
 have nfD := size_none r₂ (Nat.le_refl s₂.heap.objs.size)
 have r₃ : SR S T₂ H₂ { s₂ with heap := s₂.heap.push { cls := .type "list", data := .seq [].toArray } } := r₂.grow (t := s₂.toks) hk₃
 have fr₃ : FR S T₂ env ρ { s₂ with heap := s₂.heap.push { cls := .type "list", data := .seq [].toArray } } := fr₂.grow hC (t := s₂.toks) hk₃
 have hD₃ : (s₂.heap.push { cls := .type "list", data := .seq [].toArray }).get? s₂.heap.objs.size = some { cls := .type "list", dict := none, data := .seq [].toArray 0, slots := #[] } := Heap.get?_push_size _ rfl
 obtain ⟨oI, hoI, _⟩ := it₂.has
 have it₃ : ItAt S T₂ (s₂.heap.push { cls := .type "list", data := .seq [].toArray }) I 0 src := it₂.mono hC (.refl _) fun o e => hk₃ _ _ e
 refine wpAny_newFunctionEnv ok.noCell (fun x hx => nomatch hx) (fun h₄ hn₄ hs₄ => ?_) ok.kind
 have hk₄ : ∀ b o, (s₂.heap.push { cls := .type "list", data := .seq [].toArray }).get? b = some o → h₄.get? b = some o := fun b o e => hs₄.extBut b o (Nat.ne_of_lt (Heap.lt_size e)) (Heap.get?_push_of_some _ e)
 have nfL := size_none r₃ (Nat.le_refl _)
 obtain ⟨fr₄, own₄⟩ := FR.comp (t := s₂.toks + 0) r₃ fr₃ ok hn₄ hk₄
 have r₄ : SR S T₂ H₂ { s₂ with heap := h₄, toks := s₂.toks + 0 } := r₃.grow (t := s₂.toks + 0) hk₄
 have gt : Go [] T s T₂ { s₂ with heap := h₄, toks := s₂.toks + 0 } := (g₂.trans (Go.grow (t := s₂.toks) hk₃)).trans (Go.grow (s := { s₂ with heap := s₂.heap.push { cls := .type "list", data := .seq [].toArray } }) (t := s₂.toks + 0) hk₄)
 have nfD₄ : s.heap.get? s₂.heap.objs.size = none := g₂.back nfD.1
 have nfL₄ : s.heap.get? (s₂.heap.push { cls := .type "list", data := .seq [].toArray }).objs.size = none := (g₂.trans (Go.grow (t := s₂.toks) hk₃)).back nfL.1
 have hDI : s₂.heap.objs.size ≠ I := fun z => absurd (Heap.lt_size hoI) (by rw [z]; exact Nat.lt_irrefl _)
 have notAll : ∀ x, s.heap.get? x = none → x ∉ all env := fun x hx z => by
  rcases List.mem_cons.mp z with z | z
  ·obtain ⟨m, ⟨o, es, ep, ho, _⟩, _⟩ := fr.ns
   rw [← z, hx] at ho; cases ho
  ·obtain ⟨o, ho⟩ := (fr.ci x z).2
   rw [hx] at ho; cases ho
 have notAll' : ∀ x, s.heap.get? x = none → x ≠ (s₂.heap.push { cls := .type "list", data := .seq [].toArray }).objs.size → x ∉ all (compEnvC cs (clGo env cs.names []) (s₂.heap.push { cls := .type "list", data := .seq [].toArray }).objs.size env) := fun x hx hne z => by
  rcases List.mem_cons.mp z with z | z
  ·exact hne z
  ·obtain ⟨⟨nm, c'⟩, hm, rfl⟩ := List.mem_map.mp z
   have := clGo_sound cs.names [] fc (fun _ h => nomatch h) hm
   obtain ⟨o, ho⟩ := (fr.ci c' (lookup_mem this)).2
   rw [hx] at ho; cases ho
 have hI₃lt : I ≠ (s₂.heap.push { cls := .type "list", data := .seq [].toArray }).objs.size := fun z => by
  have := Heap.lt_size (hk₃ _ _ hoI)
  rw [← z] at this; exact Nat.lt_irrefl _ this
 have hDlt : s₂.heap.objs.size ≠ (s₂.heap.push { cls := .type "list", data := .seq [].toArray }).objs.size := by rw [Heap.size_push]; exact Nat.ne_of_lt (Nat.lt_succ_self _)
 have loop := comp_loop (elt := elt) (iter := iter) (cs := cs) (p0 := p0) hC ht hi hb (R := compPost (model S.prog S.w) A E use R (.ref s₂.heap.objs.size) (s₂.heap.push { cls := .type "list", data := .seq [].toArray }).objs.size) ro rfl r₄ fr₄ own₄ (hk₄ _ _ hD₃) (it₃.mono hC (.refl _) fun o e => hk₄ _ _ e) ⟨hiI, hFI⟩ ⟨nfD.2.1, nfD.2.2⟩ hDI
  (notAll' I hI hI₃lt) (notAll' _ nfD₄ hDlt) q₂ (fun T' H' acc ys m ρ₁ s' h' t' g' hk r' fr' nD' nDF hD' va q' => by
   have G : Go [] T s T' { s' with heap := h', toks := t' } := (gt.frame g' (fun x hx => by
    rcases List.mem_cons.mp hx with rfl | hx
    ·exact nfD₄
    ·rcases List.mem_cons.mp hx with rfl | hx
     ·exact hI
     ·simp at hx; subst hx; rw [← Heap.size_push]; exact nfL₄)).priv0 hk hI
   obtain ⟨T'', i'', F'', G'', r'', v''⟩ := r'.adopt hC G (ao := .list acc) nfD₄ nD' nDF r₂.gt ⟨ys, m, hD', va⟩
   obtain ⟨m', hn', _⟩ := fr'.ns
   refine k T'' _ _ _ _ _ m' G'' r'' (fr.go hC G'') v'' q' hn' ?_ ?_ (notAll _ nfL₄) nfL₄
   ·rw [i'']
    intro z
    rcases List.mem_append.mp z with z | z
    ·exact fr'.L.1 z
    ·simp only [List.mem_singleton] at z; exact hDlt z.symm
   ·rw [F'']; exact fr'.L.2)
 exact codeAny_compStart_list loop (iter_self (it₃.mono hC (.refl _) fun o e => hk₄ _ _ e) loop)
end
end Mine
end
section
open PySem PySem.W PyProof.Rows PySem.Calls
set_option maxRecDepth 100000
namespace Mine
section
variable {S : Sur} {sc : Scope} {n : Nat}
theorem SE.comp (hC : CloMono S.C) {elt target iter : Expr} {ifs : List Expr} {cs : Scope} {pos : Pos} {a : SW} {tA} {t : TW} {b : EW} (ok : CompOk cs sc) (h : SI S sc n iter a) (ht : SA S (relS cs sc) n target tA) (hi : STs S (relS cs sc) n ifs t) (hb : SE S (relS cs sc) n elt b)
  (hs : ∀ env x, foldedSetIterable iter env x = pure x := by intro _ _; rfl) : SE S sc n (.ListComp elt [⟨target, iter, ifs, 0⟩] cs pos) (compW (compMap cs sc) a tA t b) := by
 intro A E T H env ρ s Q ro he r fr q
 show wpAny _ _ (comprehension (.ListComp elt [⟨target, iter, ifs, 0⟩] cs pos) cs env (firstIterPos [⟨target, iter, ifs, 0⟩] pos) (newList []) false (eval iter env) Option.none) _ _ _
 refine comp_run hC ok h ht hi hb hs ro he r fr q fun T' H' s' v D C m g r' fr' vr q' hn hC1 hC2 hC3 hC4 => ?_
 refine ⟨m, hn, fun h' hs' => ?_⟩
 have hk : ∀ b o, b ≠ C → s'.heap.get? b = some o → h'.get? b = some o := fun b o hb ho => (hs'.2 b hb).trans ho
 exact ⟨T', H', v, g.priv0 (t := s'.toks) hk hC4, r'.priv hk hC1 hC2, vr, q'⟩
theorem SS.asgComp (hC : CloMono S.C) {x : Str} {p : Pos} {elt target iter : Expr} {ifs : List Expr} {cs : Scope} {pos pos' : Pos} {a : SW} {tA} {t : TW} {b : EW} {i k} (hx : slot sc x = some (i, k)) (ok : CompOk cs sc) (h : SI S sc n iter a) (ht : SA S (relS cs sc) n target tA) (hi : STs S (relS cs sc) n ifs t) (hb : SE S (relS cs sc) n elt b)
  (hk : (k == .local || k == .cell) = true := by rfl) (h0 : (k == .local || (sc.names.lookup (Str.ofString ".0")).isNone) = true := by rfl) (hs : ∀ env x, foldedSetIterable iter env x = pure x := by intro _ _; rfl) :
  SS S sc n (.Assign [.Name x p] (.ListComp elt [⟨target, iter, ifs, 0⟩] cs pos) pos') (asgBW (compW (compMap cs sc) a tA t b) (nameA i)) := by
 intro A E T H env ρ s Q ro he r fr q
 rw [arm_exec_Assign]
 obtain ⟨bb, hbb⟩ : ∃ bb, swapsWith (.ListComp elt [⟨target, iter, ifs, 0⟩] cs pos) (some (.Name x p)) pos'.line env = pure bb := ⟨_, rfl⟩
 refine wpAny_bind (wpAny_standAt (wpAny_bind ?_))
 show wpAny _ _ (swapsWith (.ListComp elt [⟨target, iter, ifs, 0⟩] cs pos) (some (.Name x p)) pos'.line env) _ _ _
 rw [hbb]
 refine wpAny_pure ?_
 cases bb with
 | true =>
  rw [if_pos rfl]
  show wpAny _ _ ((comprehension (.ListComp elt [⟨target, iter, ifs, 0⟩] cs pos) cs env (firstIterPos [⟨target, iter, ifs, 0⟩] pos) (newList []) false (eval iter env) (some fun v => assignAll v [assign (.Name x p) env]) >>= fun _ => pure ()) >>= fun _ => (pure Flow.next : Sem Flow)) _ _ _
  refine wpAny_bind (wpAny_bind (comp_run hC ok h ht hi hb hs ro he r fr q fun T' H' s' v D C m g r' fr' vr q' hn hC1 hC2 hC3 hC4 => ?_))
  show wpAny _ _ (assign (.Name x p) env (.ref D)) _ _ _
  refine wpAny_mono (SA.name (n := n) (pos := p) hx hk h0 ro he r' fr' vr (Q := fun ρ' H'' => Q .next ρ' H'') q') (fun _ s'' e => ?_) fun _ _ e => e
  obtain ⟨T₂, H₂, ρ₂, g₂, r₂, fr₂, q₂⟩ := e
  obtain ⟨o, es, ep, ho, hd, hks, hf⟩ := hn
  have hCo : C ∉ own env := fun z => hC3 (own_all z)
  have ho₂ := g₂.keep C o ho hC1 hCo
  refine ⟨m, ⟨o, es, ep, ho₂, hd, hks, hf⟩, fun h' hs' => wpAny_pure (wpAny_pure ?_)⟩
  have hk' : ∀ b o, b ≠ C → s''.heap.get? b = some o → h'.get? b = some o := fun b o hb ho => (hs'.2 b hb).trans ho
  have n1 := g₂.out ho hC1
  have n2 := g₂.outF ho hC2
  exact ⟨T₂, H₂, ρ₂, .next, (g.nil.trans g₂).priv0 (t := s''.toks) hk' hC4, r₂.priv hk' n1 n2, fr₂.priv hk' hC3, .next, q₂⟩
 | false =>
  rw [if_neg Bool.false_ne_true]
  have hcomp : SE S sc n (.ListComp elt [⟨target, iter, ifs, 0⟩] cs pos) (compW (compMap cs sc) a tA t b) := SE.comp hC ok h ht hi hb hs
  refine wpAny_bind (hcomp.run hC ro he r fr q fun T₁ H₁ v x s₁ g₁ r₁ fr₁ v₁ q₁ => ?_)
  refine wpAny_bind (wpAny_pure ?_)
  refine wpAny_bind ?_
  show wpAny _ _ (assign (.Name _ p) env x) _ _ _
  refine wpAny_mono (SA.name (n := n) (pos := p) hx hk h0 ro he r₁ fr₁ v₁ (Q := fun ρ' H'' => Q .next ρ' H'') q₁) (fun _ s₂ e => wpAny_pure ?_) fun _ _ e => e
  obtain ⟨T₂, H₂, ρ₂, g₂, r₂, fr₂, q₂⟩ := e
  exact ⟨T₂, H₂, ρ₂, .next, g₁.nil.trans g₂, r₂, fr₂, .next, q₂⟩
end
end Mine
end
section
open PySem PySem.W PyProof.Rows
set_option maxRecDepth 100000
namespace Mine
section
variable {S : Sur} {sc : Scope} {n : Nat}
theorem adjust_upto (b n : Nat) (hb : b ≤ n) : Builtin.Slice.sliceAdjust none (some (b : Int)) 1 (n : Int) = (0, (b : Int)) := by
 unfold Builtin.Slice.sliceAdjust
 have h1 : ¬ ((1 : Int) < 0) := by lia
 have h2 : ¬ ((b : Int) < 0) := by lia
 simp only [h1, h2, if_false]
 congr 1
 lia
theorem places_upto (b : Nat) : Builtin.Slice.slicePlaces 0 (b : Int) 1 = b := by
 unfold Builtin.Slice.slicePlaces
 have h1 : (1 : Int) > 0 := by lia
 simp only [h1, if_true, Int.ediv_one]
 split <;> lia
section
variable {prog : Program} {w : World} {A : Around} {E : Value → Shared → Prop} {s : Shared}
theorem sliceApplied_upto {sl : Addr} {b n : Nat} {u : Tok} {Q : Int × Int × Nat → Shared → Prop} (hs : s.heap.IsSliceOf sl .none (.int b u) .none) (hb : b ≤ n) (h : Q (0, 1, b) s) :
  wpAny (model prog w) A (Builtin.Slice.sliceApplied (.ref sl) (pure (n : Int))) Q E s := by
 obtain ⟨os, hos, hcs, hds⟩ := id hs
 unfold Builtin.Slice.sliceApplied Builtin.Slice.sliceFields
 refine wpAny_bind (wpAny_bind (wpAny_field hos hds (x := .none) rfl (wpAny_bind (wpAny_field hos hds (x := .int b u) rfl (wpAny_bind (wpAny_field hos hds (x := .none) rfl (wpAny_pure ?_)))))))
 refine wpAny_bind (slicePart_none ?_)
 show wpAny _ _ (if ((1 : Int) == 0) = true then _ else _) _ _ s
 rw [if_neg (by decide)]
 refine wpAny_bind (slicePart_none (wpAny_bind (slicePart_int (wpAny_bind (wpAny_pure ?_)))))
 show wpAny _ _ (match Builtin.Slice.sliceAdjust none (some (b : Int)) 1 (n : Int) with | (lo, hi) => pure (lo, (1 : Int), Builtin.Slice.slicePlaces lo hi 1)) _ _ s
 rw [adjust_upto b n hb]
 show wpAny _ _ (pure ((0 : Int), (1 : Int), Builtin.Slice.slicePlaces 0 (b : Int) 1)) _ _ s
 rw [places_upto]
 exact wpAny_pure h
theorem pick_upto (xs : List Value) (b : Nat) : ((List.range b).filterMap fun (k : Nat) => (xs.toArray)[((0 : Int) + (k : Int) * 1).toNat]?).toArray = (xs.take b).toArray := by
 have e : (fun (k : Nat) => (xs.toArray)[((0 : Int) + (k : Int) * 1).toNat]?) = fun k => xs[k]? := by
  funext k
  have : ((0 : Int) + (k : Int) * 1).toNat = k := by lia
  rw [this, List.getElem?_toArray]
 rw [e]
 congr 1
 induction b generalizing xs with
 | zero => simp
 | succ b ih =>
  rw [List.range_succ, List.filterMap_append, ih xs (by
   funext k
   have : ((0 : Int) + (k : Int) * 1).toNat = k := by lia
   rw [this, List.getElem?_toArray])]
  rw [List.take_add_one]
  congr 1
theorem getItem_tuple_upto {t sl : Addr} {xs : List Value} {b : Nat} {u : Tok} {Q : Value → Shared → Prop} (ht : IsTup s.heap t xs.toArray) (hs : s.heap.IsSliceOf sl .none (.int b u) .none) (hb : b < xs.length)
  (h : Q (.ref s.heap.objs.size) { s with heap := s.heap.push { cls := .type "tuple", data := .seq (xs.take b).toArray } })
  (hsz : xs.length ≤ sizeLine) : wpAny (model prog w) A (getItem (.ref t) (.ref sl)) Q E s := by
 have hdrop : sizeOk (.seq (xs.take b).toArray) := by
  show (xs.take b).toArray.size ≤ sizeLine
  rw [List.size_toArray, List.length_take]
  lia
 obtain ⟨os, hos, hcs, hds⟩ := id hs
 have hTs : s.TypeIs (.ref sl) "slice" := ⟨os, hos, hcs⟩
 unfold getItem
 try with_reducible refine wpAny_holding ?_
 first | refine wpAny_bind (wpAny_pure ?_) | skip
 refine wpAny_bind (wpAny_sequenceKey ht.typeIs (by decide) ?_)
 refine wpAny_bind (wpAny_callSpecial?_slot (name := Str.ofString "__getitem__") ht.typeIs F.slot_tuple_getitem
  (wpAny_call_entry F.slot_tuple_getitem ht.typeIs F.entry_tuple_getitem ?_ (F.args_tuple_getitem_2 _ _)))
 show wpAny _ _ (Builtin.Tuple.tupleItemsOf (.ref t) >>= _) _ _ s
 refine wpAny_bind (tupleItemsOf_ ht ?_)
 refine wpAny_bind (wpAny_typeOf hTs ?_)
 rw [if_pos (by decide)]
 refine wpAny_bind (sliceApplied_upto (n := xs.toArray.size) hs (by rw [List.size_toArray]; lia) ?_)
 have hno : ¬ (((0 : Int) == 0 && (1 : Int) == 1 && b == xs.toArray.size) = true) := by
  have : (b == xs.toArray.size) = false := by rw [beq_eq_false_iff_ne, List.size_toArray]; lia
  rw [this]; simp
 show wpAny _ _ (if ((0 : Int) == 0 && (1 : Int) == 1 && b == xs.toArray.size) = true then _ else _) _ _ s
 rw [if_neg hno, pick_upto xs b]
 first
  | exact wpAny_bind (m := Builtin.Tuple.tupleExact _) (wpAny_newObj_type (wpAny_pure ⟨_, rfl, wpAny_pure h⟩) hdrop)
  | exact wpAny_bind (m := Builtin.Tuple.tupleExact _) (wpAny_newObj_type (wpAny_bind (wpAny_pure (wpAny_pure ⟨_, rfl, wpAny_pure h⟩))) hdrop)
  | exact wpAny_bind (wpAny_bind (m := Builtin.Tuple.tupleExact _) (wpAny_newObj_type (wpAny_pure (wpAny_pure ⟨_, rfl, wpAny_pure h⟩)) hdrop))
  | exact wpAny_bind (wpAny_bind (m := Builtin.Tuple.tupleExact _) (wpAny_newObj_type (wpAny_pure ⟨_, rfl, wpAny_pure h⟩) hdrop))
end
noncomputable def uptoW (a : EW) (m : Nat) : EW := fun ρ H Q => a ρ H fun v H' => match v with
 | .tup l => m < l.length ∧ l.length ≤ 1000 ∧ Q (.tup (l.take m)) H'
 | .ref k => ∃ l : List V, H'[k]? = some (.list l) ∧ l.length ≤ 1000 ∧ Q (.ref H'.length) (H' ++ [.list (l.take m)])
 | _ => False
noncomputable def fromW (a : EW) (m : Nat) : EW := fun ρ H Q => a ρ H fun v H' => match v with
 | .tup l => 1 ≤ m ∧ m ≤ l.length ∧ l.length ≤ 1000 ∧ Q (.tup (l.drop m)) H'
 | _ => False
theorem sl_upto (hC : CloMono S.C) {o pos p k cp a} {m : Nat} (ha : SE S sc n o a) (hs : ∀ o x, ∃ ops, subscripted (.Slice none (some (.Constant (.int m) k cp)) none p) false o x = operate ops (getItem o x) := by intros; exact ⟨_, rfl⟩) :
  SE S sc n (.Subscript o (.Slice none (some (.Constant (.int m) k cp)) none p) pos) (uptoW a m) := by
 intro A E T H env ρ s Q ro he r fr q
 refine Subscript_ (ha.run hC ro he r fr q fun T₁ H₁ v x s₁ g₁ r₁ fr₁ v₁ q₁ => ?_)
 refine wpAny_Slice (wpAny_pure (wpAny_Constant_int (k := k) (pos := cp) (wpAny_pure ?_)))
 have hk : ∀ a o, s₁.heap.get? a = some o → (s₁.heap.push { cls := .type "slice", data := .fields #[.none, .int m (s₁.toks), .none] }).get? a = some o := fun a o e => Heap.get?_push_of_some _ e
 have r₂ := r₁.grow (t := s₁.toks + 1) hk
 have g₂ : Go [] T₁ s₁ T₁ { s₁ with heap := s₁.heap.push { cls := .type "slice", data := .fields #[.none, .int m (s₁.toks), .none] }, toks := s₁.toks + 1 } := Go.grow hk
 split at q₁
 ·obtain ⟨a, xs, z, rfl, ea, ra⟩ := v₁.tup_inv
  obtain ⟨q1, q2, q3⟩ := q₁
  have e := ra.length
  obtain ⟨ops, ho⟩ := hs (.ref a) (.ref s₁.heap.objs.size)
  refine tail_any (T := "tuple") ⟨_, r₂.fz _ _ ea, rfl⟩ F.slot_tuple_getitem.lookup ?_ ho
  refine getItem_tuple_upto (xs := xs) ⟨_, r₂.fz _ _ ea, rfl, _, rfl⟩ (Heap.IsSliceOf.new ..) (by lia) ?_ (by rw [sizeLine_eq]; lia)
  obtain ⟨T', _, g, r', v⟩ := r₂.tup hC (ra.take m)
  exact ⟨T', _, _, (g₁.trans g₂).trans g, r', v, q3⟩
 ·obtain ⟨a, rfl, ea⟩ := v₁.ref_inv
  obtain ⟨l, q1, q2, q3⟩ := q₁
  obtain ⟨xs, z, h1, h2⟩ := r₂.at ea q1
  have e := h2.length
  obtain ⟨ops, ho⟩ := hs (.ref a) (.ref s₁.heap.objs.size)
  refine tail_any (T := "list") ⟨_, h1, rfl⟩ slot_list_getitem.lookup ?_ ho
  refine wpAny_getItem_list_slice (lo := none) (hi := some (m : Int)) (st := none) ⟨_, h1, rfl, z, rfl⟩ (Heap.IsSliceOf.new ..) .none (.int _ _) .none (by simp) ?_ (by rw [sizeLine_eq, List.size_toArray]; lia)
  rw [slicePick_upto']
  obtain ⟨T', _, g, r', v⟩ := r₂.alloc hC (o := { cls := .type "list", data := .seq (xs.toArray.toList.take m).toArray }) (ao := .list (l.take m)) rfl fun T' le _ => ⟨xs.take m, 0, Heap.get?_push_size _ rfl, (h2.take m).mono hC le⟩
  exact ⟨T', _, _, (g₁.trans g₂).trans g, r', v, q3⟩
 ·exact q₁.elim
theorem sl_from (hC : CloMono S.C) {o pos p k cp a} {m : Nat} (ha : SE S sc n o a) (hs : ∀ o x, ∃ ops, subscripted (.Slice (some (.Constant (.int m) k cp)) none none p) false o x = operate ops (getItem o x) := by intros; exact ⟨_, rfl⟩) :
  SE S sc n (.Subscript o (.Slice (some (.Constant (.int m) k cp)) none none p) pos) (fromW a m) := by
 intro A E T H env ρ s Q ro he r fr q
 refine Subscript_ (ha.run hC ro he r fr q fun T₁ H₁ v x s₁ g₁ r₁ fr₁ v₁ q₁ => ?_)
 refine wpAny_Slice (wpAny_Constant_int (k := k) (pos := cp) (wpAny_pure (wpAny_pure ?_)))
 have hk : ∀ a o, s₁.heap.get? a = some o → (s₁.heap.push { cls := .type "slice", data := .fields #[.int m (s₁.toks), .none, .none] }).get? a = some o := fun a o e => Heap.get?_push_of_some _ e
 have r₂ := r₁.grow (t := s₁.toks + 1) hk
 have g₂ : Go [] T₁ s₁ T₁ { s₁ with heap := s₁.heap.push { cls := .type "slice", data := .fields #[.int m (s₁.toks), .none, .none] }, toks := s₁.toks + 1 } := Go.grow hk
 split at q₁
 ·obtain ⟨a, xs, z, rfl, ea, ra⟩ := v₁.tup_inv
  obtain ⟨q0, q1, q2, q3⟩ := q₁
  have e := ra.length
  obtain ⟨ops, ho⟩ := hs (.ref a) (.ref s₁.heap.objs.size)
  refine tail_any (T := "tuple") ⟨_, r₂.fz _ _ ea, rfl⟩ F.slot_tuple_getitem.lookup ?_ ho
  refine getItem_tuple_from (items := xs.toArray) ⟨_, r₂.fz _ _ ea, rfl, _, rfl⟩ (Heap.IsSliceOf.new ..) q0 (by rw [List.size_toArray]; lia) ?_ (by rw [sizeLine_eq, List.size_toArray]; lia)
  obtain ⟨T', _, g, r', v⟩ := r₂.tup hC (ra.drop m)
  exact ⟨T', _, _, (g₁.trans g₂).trans g, r', v, q3⟩
 ·exact q₁.elim
noncomputable def sumF : FW := fun vs H Q => match vs with
 | [.ref k] => ∃ l : List Int, H[k]? = some (.list (l.map V.int)) ∧ l.length ≤ 1000 ∧ Q (.int l.sum) H
 | _ => False
theorem sum_ok : Fn S n (.builtin "sum") sumF := by
 intro A E T H s Q vs xs ro r vr q
 unfold sumF at q
 split at q
 ·obtain ⟨x, rfl, v⟩ := vr.one
  obtain ⟨a, rfl, ea⟩ := v.ref_inv
  obtain ⟨l, hl, hz, q⟩ := q
  obtain ⟨ys, m, h1, h2⟩ := r.at ea hl
  have hi := VRs.ints h2
  obtain ⟨zs, hx⟩ := hi.allInts.items
  refine sum_intListG (xs := zs) ro.hd (hx ▸ (⟨_, h1, rfl, m, rfl⟩ : s.heap.IsList a ys.toArray)) fun h' tk t' hk => ?_
  have e1 : l = zs.toList.map (·.1) := by
   rw [← nums_intItems, ← hx]
   exact (show numsOf ys.toArray.toList = l from hi.numsOf).symm
  have e2 : preSum (numAt zs) zs.size = l.sum := by
   rw [preSum_eq, List.take_of_length_le (by simp), e1]
  rw [e2]
  exact ⟨T, H, _, Go.grow hk, r.grow hk, .int _ _, q⟩
 ·exact q.elim
noncomputable def dict2W (i j : Int) (b c : Bool) : EW := fun _ H Q => i ≠ j ∧ Q (.ref H.length) (H ++ [.dict [(i, .bool b), (j, .bool c)]])
theorem SE.dict2 (hS : Stat S) {x y : Str} {p p' p'' pos pos' : Pos} {k k' i j : Nat} {u v : Int} {t t' : Tok} {b c : Bool} (hx : slot sc x = some (i, .globalImplicit)) (hf : nsIn S.K mainGlobals x = some (some (.int u t))) (hy : slot sc y = some (j, .globalImplicit)) (hg : nsIn S.K mainGlobals y = some (some (.int v t')))
  (hd : (x == ("__debug__" : Str)) = false := by decide) (hd' : (y == ("__debug__" : Str)) = false := by decide) :
  SE S sc n (.Dict [some (.Name x p), some (.Name y p')] [.Constant (.bool b) k pos', .Constant (.bool c) k' p''] pos) (dict2W u v b c) := by
 intro A E T H env ρ s Q ro he r fr q
 obtain ⟨hne, q⟩ := q
 have hC := hS.C
 refine wpAny_Dict_pairs (knd := intKind S.prog S.w) (pairs := [(eval (.Name x p) env, (do let x ← eval (.Constant (.bool b) k pos') env; standAt pos; pure x)), (eval (.Name y p') env, (do let x ← eval (.Constant (.bool c) k' p'') env; standAt pos; pure x))]) rfl (by simp) (by simp) ?_
 have hk : ∀ a o, s.heap.get? a = some o → (s.heap.push { cls := .type "dict", data := .dict #[] }).get? a = some o := fun a o e => Heap.get?_push_of_some _ e
 have r₁ := r.grow (t := s.toks) hk
 have fr₁ := fr.grow (t := s.toks) hC hk
 have hx' : env.kindOf x = some .globalImplicit := by subst he; exact (slot_get hx).2
 have hy' : env.kindOf y = some .globalImplicit := by subst he; exact (slot_get hy).2
 refine evalPairs_cons (glob_eval hS r₁ fr₁ hx' hf (wpAny_bind (wpAny_Constant_bool (wpAny_bind (wpAny_standAt (wpAny_pure ?_))))) hd)
 refine evalPairs_cons (glob_eval hS r₁ fr₁ hy' hg (wpAny_bind (wpAny_Constant_bool (wpAny_bind (wpAny_standAt (wpAny_pure ?_))))) hd')
 refine evalPairs_nil ⟨[(u, .bool b), (v, .bool c)], ⟨intKind_is .., rfl, intKind_is .., rfl, trivial⟩, dict_new _ _ _, fun h' hd hs => ?_⟩
 have hm : merged [] [(u, Value.bool b), (v, Value.bool c)] = [(u, .bool b), (v, .bool c)] := by
  show stored (stored [] u _) v _ = _
  have h1 : stored ([] : List (Int × Value)) u (.bool b) = [(u, .bool b)] := rfl
  rw [h1]
  unfold stored
  have : ([(u, Value.bool b)].any fun kv => decide (kv.1 = v)) = false := by simp [hne]
  rw [this]; rfl
 rw [hm] at hd
 have hk' : ∀ a o, s.heap.get? a = some o → h'.get? a = some o := fun a o e => by
  exact (hs.2 a (Nat.ne_of_lt (Heap.lt_size e))).trans (hk a o e)
 obtain ⟨T', _, g, r', v⟩ := r.allocAt hC (t := s.toks + 2) (ao := .dict [(u, .bool b), (v, .bool c)]) hk' (Nat.le_refl _) fun T' _ _ => ⟨_, hd, .cons (.bool _) (.cons (.bool _) .nil)⟩
 exact ⟨T', _, _, g, r', v, q⟩
end
end Mine
end
section
open PySem PySem.W PyProof.Rows
set_option maxRecDepth 100000
namespace Mine
noncomputable abbrev drawNames : List (Str × NameKind) := [("limit", .local), ("cell", .local), ("digit", .local), ("cells", .free), ("rest", .free), ("len", .globalImplicit), ("int", .globalImplicit), ("abs", .globalImplicit)]
structure IsDraw (Ok : Sur → Prop) (W : BW) (name : Str) (params : Arguments) (body : List Stmt) (scope : Scope) : Prop where
 kind : scope.kind = .function
 co : scope.isCoroutine = false
 gen : scope.isGenerator = false
 names : scope.names = drawNames
 bind : ∀ (qual : Str) (x : Value) cl doc pm cdv ct, bindArgs (fnX name qual params body scope cl .none .none doc pm none cdv ct) ⟨[x], []⟩ = (pure [("limit", x)] : Sem (List (Str × Value)))
 body : ∀ S' : Sur, Ok S' → SB S' scope 1 body W
inductive DrawC (Ok : Sur → Prop) (W : BW) (zs : List Int) : CloSpec
 | script {T : Ty} {a : Addr} {o : Obj} {xs : Array Value} {m : Nat} : T.F a = some o → o.cls = .type "list" → o.data = .seq xs m → IntsAre xs.toList zs → DrawC Ok W zs T 0 0 a
 | draw {T : Ty} {r c : Nat} {a ar ac ca Lr Lc : Addr} {name qual : Str} {params : Arguments} {body : List Stmt} {scope : Scope} {doc pm ctv : Value} {oR oC oc : Obj} {vs : Array Value} {t : Tok} :
   r ≠ c → IsDraw Ok W name params body scope → T.F a = some (fnMade name qual params body scope [("rest", ar), ("cells", ac)] doc pm ca ctv) →
   T.F ca = some oc → oc.data = .fields vs → vs[1]? = some (.str qual t) → T.F ar = some oR → oR.data = .cell (some (.ref Lr)) → T.F ac = some oC → oC.data = .cell (some (.ref Lc)) →
   T.ids[r]? = some Lr → T.ids[c]? = some Lc → ar ≠ ac → DrawC Ok W zs T r c a
theorem DrawC.mono {Ok W zs} : CloMono (DrawC Ok W zs) := by
 intro T T' r c a le h
 cases h with
 | script e h1 h2 h3 => exact .script (le.F _ _ e) h1 h2 h3
 | draw h0 h1 h2 h3 h4 h5 h6 h7 h8 h9 h10 h11 h12 => exact .draw h0 h1 (le.F _ _ h2) (le.F _ _ h3) h4 h5 (le.F _ _ h6) h7 (le.F _ _ h8) h9 (le.id h10) (le.id h11) h12
section
variable {S : Sur} {sc : Scope} {n : Nat} {Ok : Sur → Prop} {W : BW} {zs : List Int}
noncomputable def cloF (W : BW) (r c : Nat) : FW := fun vs H Q => match vs with
 | [v] => W [some v, none, none, some (.ref c), some (.ref r), none, none, none] H fun fl _ H' => match fl with
  | .ret u => Q u H'
  | _ => False
 | _ => False
theorem dn_local {i : Nat} {y : Str} (e : drawNames[i]? = some (y, NameKind.local)) : (i = 0 ∧ y = "limit") ∨ (i = 1 ∧ y = "cell") ∨ (i = 2 ∧ y = "digit") :=
 (by decide : ∀ p ∈ drawNames.zipIdx, p.1.2 = .local → (p.2 = 0 ∧ p.1.1 = Str.ofString "limit") ∨ (p.2 = 1 ∧ p.1.1 = Str.ofString "cell") ∨ (p.2 = 2 ∧ p.1.1 = Str.ofString "digit")) _ (List.mk_mem_zipIdx_iff_getElem?.mpr e) rfl
theorem dn_free {i : Nat} {y : Str} {k : NameKind} (e : drawNames[i]? = some (y, k)) (h : k = NameKind.cell ∨ k = NameKind.free) : (i = 3 ∧ y = "cells") ∨ (i = 4 ∧ y = "rest") :=
 (by decide : ∀ p ∈ drawNames.zipIdx, p.1.2 = .cell ∨ p.1.2 = .free → (p.2 = 3 ∧ p.1.1 = Str.ofString "cells") ∨ (p.2 = 4 ∧ p.1.1 = Str.ofString "rest")) _ (List.mk_mem_zipIdx_iff_getElem?.mpr e) h
theorem draw_frame {T H s} {r c : Nat} {L a ar ac ca Lr Lc : Addr} {name qual : Str} {params : Arguments} {body : List Stmt} {scope : Scope} {doc pm ctv : Value} {oR oC : Obj} {v : V} {x : Value}
  (rs : SR S T H s) (hkd : scope.kind = .function) (hd : scope.names = drawNames) (hL : L ∉ T.ids ∧ T.F L = none) (har : T.F ar = some oR) (hdr : oR.data = .cell (some (.ref Lr))) (hac : T.F ac = some oC) (hdc : oC.data = .cell (some (.ref Lc))) (hr : T.ids[r]? = some Lr) (hc : T.ids[c]? = some Lc) (hn : ar ≠ ac) (vx : VR S.C T v x)
  (hns : s.heap.Ns L fun z => ([("limit", x)] : List (Str × Value)).reverse.lookup z) :
  FR S T (callEnv (fnX name qual params body scope [("rest", ar), ("cells", ac)] .none .none doc pm none (.ref ca) ctv) L a) [some v, none, none, some (.ref c), some (.ref r), none, none, none] s := by
 have hol : ∀ {b : Addr} {o : Obj}, T.F b = some o → b ∉ T.ids := fun e hm => by rw [rs.dis _ hm] at e; cases e
 refine ⟨rfl, rfl, hkd, ?_, ?_, ⟨_, hns, fun i y e => ?_⟩, fun i y k e hk' => ?_, fun p q z hp hq => ?_, hL, fun z hz => ?_, fun i p z hp _ => ?_⟩
 ·show 8 = scope.names.length; rw [hd]; rfl
 ·show (scope.names.map (·.1)).Nodup; rw [hd]; decide
 ·have e' : scope.names[i]? = some (y, .local) := e
  rw [hd] at e'
  rcases dn_local e' with ⟨rfl, rfl⟩ | ⟨rfl, rfl⟩ | ⟨rfl, rfl⟩
  ·exact .some (show VR S.C T _ x from vx)
  ·exact .none
  ·exact .none
 ·have e' : scope.names[i]? = some (y, k) := e
  rw [hd] at e'
  rcases dn_free e' hk' with ⟨rfl, rfl⟩ | ⟨rfl, rfl⟩
  ·exact ⟨ac, _, (by show ([(Str.ofString "rest", ar), (Str.ofString "cells", ac)] : List (Str × Addr)).lookup (Str.ofString "cells") = _; rw [List.lookup_cons, (by decide : (Str.ofString "cells" == Str.ofString "rest") = false), List.lookup_cons, beq_self_eq_true]), ⟨oC, rs.fz _ _ hac, hdc⟩, .some (.ref hc)⟩
  ·exact ⟨ar, _, (by show ([(Str.ofString "rest", ar), (Str.ofString "cells", ac)] : List (Str × Addr)).lookup (Str.ofString "rest") = _; rw [List.lookup_cons, beq_self_eq_true]), ⟨oR, rs.fz _ _ har, hdr⟩, .some (.ref hr)⟩
 ·have hp' : ([("rest", ar), ("cells", ac)] : List (Str × Addr)).lookup p = some z := hp
  have hq' : ([("rest", ar), ("cells", ac)] : List (Str × Addr)).lookup q = some z := hq
  have mp := lookup_mem2 hp'
  have mq := lookup_mem2 hq'
  simp at mp mq
  rcases mp with ⟨rfl, rfl⟩ | ⟨rfl, rfl⟩ <;> rcases mq with ⟨rfl, h⟩ | ⟨rfl, h⟩
  ·rfl
  ·exact absurd h hn
  ·exact absurd h.symm hn
  ·rfl
 ·have hz' : z ∈ [ar, ac] := hz
  simp at hz'
  rcases hz' with rfl | rfl
  ·exact ⟨hol har, _, rs.fz _ _ har⟩
  ·exact ⟨hol hac, _, rs.fz _ _ hac⟩
 ·have e' : scope.names[i]? = some (p, .cell) := hp
  rw [hd] at e'
  have : ∀ y ∈ drawNames, y.2 ≠ .cell := by decide
  exact absurd rfl (this _ (List.mem_of_getElem? e'))
theorem clo_call (hS : Stat S) (hK : Ok S) {T H s} {r c : Nat} {a : Addr} {vs : List V} {xs : List Value} {Q : V → List AO → Prop} {A : Around} {E : Value → Shared → Prop} (hne : r ≠ c) (cl : DrawC Ok W zs T r c a) (ro : Roomy 2 A) (rr : SR S T H s) (vr : VRs S.C T vs xs) (q : cloF W r c vs H Q) :
  wpAny (model S.prog S.w) A (call (.ref a) xs []) (EP S T s Q) E s := by
 cases cl with
 | script => exact absurd rfl hne
 | @draw _ _ _ _ ar ac ca Lr Lc name qual params body scope doc pm ctv oR oC oc tvs t _ hd hf hca hcd hq har hdr hac hdc hr hc hn =>
 unfold cloF at q
 split at q
 ·rename_i v
  obtain ⟨x, rfl, vx⟩ := vr.one
  refine wpAny_call ?_
  have hol : ∀ {b : Addr} {o : Obj}, T.F b = some o → b ∉ T.ids := fun e hm => by rw [rr.dis _ hm] at e; cases e
  refine codeAny_call_def (fd := fnX name qual params body scope [("rest", ar), ("cells", ac)] .none .none doc pm none (.ref ca) ctv) (body := body) (binds := [("limit", x)]) (ro.le (by lia : 1 ≤ 2)).room (rr.fz _ _ hf) rfl (hS.lim rr)
   ⟨ca, oc, tvs, t, rfl, rr.fz _ _ hca, hcd, hq⟩ rfl (.of_eq (hd.bind _ _ _ _ _ _ _)) (by show ∀ x ∈ scope.names, _; rw [hd.names]; decide) (fun y hy => by show scope.names.lookup y.1 = _; rw [hd.names]; simp at hy; subst hy; exact (by decide : drawNames.lookup (Str.ofString "limit") = some NameKind.local)) (fun h₁ hns hk => ?_) hd.co hd.gen hd.kind
  have rs : SR S T H { s with heap := h₁, toks := s.toks + 1 } := rr.grow hk
  have gs : Go [] T s T { s with heap := h₁, toks := s.toks + 1 } := Go.grow hk
  have hL : s.heap.get? s.heap.objs.size = none := no_size s.heap
  have hLT := size_none rr (Nat.le_refl s.heap.objs.size)
  have fs := draw_frame (a := a) (ca := ca) (name := name) (qual := qual) (params := params) (body := body) (doc := doc) (pm := pm) (ctv := ctv) rs hd.kind hd.names ⟨hLT.2.1, hLT.2.2⟩ har hdr hac hdc hr hc hn vx hns
  refine wpAny_mono (hd.body S hK (Roomy.deeper ro) rfl rs fs q) (fun f s₂ e => ?_) fun _ _ e => e
  obtain ⟨T₂, H₂, ρ₂, g, g₂, r₂, fr₂, fl, q₂⟩ := e
  have g₃ : Go [s.heap.objs.size] T { s with heap := h₁, toks := s.toks + 1 } T₂ s₂ := by
   refine ⟨g₂.up, fun b o e nb nm => ?_, g₂.alive, g₂.le, g₂.new, g₂.newF⟩
   by_cases h1 : b = ar
   ·subst h1
    have := r₂.fz _ _ (g₂.le.F _ _ har)
    rw [rs.fz _ _ har] at e; cases e; exact this
   ·by_cases h2 : b = ac
    ·subst h2
     have := r₂.fz _ _ (g₂.le.F _ _ hac)
     rw [rs.fz _ _ hac] at e; cases e; exact this
    ·refine g₂.keep b o e nb fun hm => ?_
     rcases List.mem_cons.mp (own_all hm) with z | z
     ·exact nm (by rw [z]; exact List.mem_singleton.mpr rfl)
     ·have z' : b ∈ [ar, ac] := z
      simp at z'
      exact z'.elim h1 h2
  have gg := gs.frame g₃ (by intro x hx; simp at hx; subst hx; exact hL)
  split at q₂
  ·cases fl with
   | ret v => exact ⟨T₂, H₂, _, gg, r₂, v, q₂⟩
  ·exact q₂.elim
 ·exact q.elim
noncomputable def callVW (i : Nat) (W : BW) (a : ESW) : EW := fun ρ H Q => match ρ.getD i none with
 | some (.clo r c) => r ≠ c ∧ a ρ H fun vs H' => cloF W r c vs H' Q
 | _ => False
theorem se_callV (hS : Stat S) (hC : S.C = DrawC Ok W zs) (hOk : Ok S) (h2 : 2 ≤ n) {x p e es pos a i k} (hx : slot sc x = some (i, k)) (h : SEs S sc n (e :: es) a) (hk : (k == .local || k == .cell || k == .free) = true := by rfl) (hd : (x == ("__debug__" : Str)) = false := by decide) (hcd : (x == ("__classdict__" : Str)) = false := by decide)
  (hc : ∀ env, starEach (e :: es) env = (false, eval e env) :: starEach es env := by intro _; rfl)
  (hp : ∀ env, (starEach es env).any (·.1) = false := by intro _; rfl) : SE S sc n (.Call (.Name x p) (e :: es) [] pos) (callVW i W a) := by
 intro A E T H env ρ s Q ro he r fr q
 unfold callVW at q
 split at q
 ·rename_i rr cc hv
  obtain ⟨hne, q⟩ := q
  refine wpAny_Call_NameR ?_
  have hnm : SE S sc n (.Name x p) (nameW i) := SE.name hx hk hd hcd
  refine hnm.run hS.C ro he r fr (Q := fun v H' => v = .clo rr cc ∧ H' = H) (by unfold nameW; rw [hv]; exact ⟨rfl, rfl⟩) fun T₁ H₁ v y s₁ g₁ r₁ fr₁ v₁ q₁ => ?_
  obtain ⟨rfl, rfl⟩ := q₁
  cases v₁ with
  | @clo _ _ b hb =>
  have hb' := hb
  rw [hC] at hb'
  have hfn : ∃ o, T₁.F b = some o ∧ ∃ oc od fd sl, o = ⟨oc, od, .func fd, sl⟩ := by
   cases hb' with
   | script => exact absurd rfl hne
   | draw _ _ hf => exact ⟨_, hf, _, _, _, _, rfl⟩
  have hbx : (backTo pos (starEach es env)).any (·.1) = false := by
   have : ∀ l : List (Bool × Sem Value), (backTo pos l).any (·.1) = l.any (·.1) := fun l => by
    unfold backTo
    rw [List.any_map]
    rfl
   rw [this]; exact hp env
  have key : wpAny (model S.prog S.w) A (spliced (backTo pos (starEach (e :: es) env))) (fun vs s₂ => FnAt b s₂.heap ∧ wpAny (model S.prog S.w) A (call (.ref b) ([] ++ vs) []) (EP S T s Q) E s₂) E s₁ := by
   refine h.run hS.C ro he r₁ fr₁ q fun T' H' vs xs s' g r' fr' vr q' => ⟨?_, ?_⟩
   ·obtain ⟨o, ho, oc, od, fd, sl, rfl⟩ := hfn
    exact ⟨_, _, _, _, r'.fz _ _ (g.le.F _ _ ho)⟩
   ·have hb₂ : DrawC Ok W zs T' rr cc b := DrawC.mono _ _ _ _ _ g.le hb'
    exact wpAny_mono (clo_call hS hOk hne hb₂ (ro.le h2) r' vr q') (fun _ _ e => e.go (g₁.trans g)) fun _ _ e => e
  rw [hc] at key ⊢
  have hx' : backTo pos ((false, eval e env) :: starEach es env) = (false, eval e env) :: backTo pos (starEach es env) := rfl
  rw [hx'] at key ⊢
  exact callWith_of (P := FnAt b) (by show ((false || (backTo pos (starEach es env)).any (·.1)) || false) = false; rw [hbx]; rfl) keeps_F (Calls.evalArgs_plain key)
 ·exact q.elim
noncomputable def listS (zs : List Int) : FW := fun vs H Q => match vs with
 | [.clo 0 0] => zs.length ≤ 1000 ∧ Q (.ref H.length) (H ++ [.list (zs.map V.int)])
 | _ => False
theorem ints_VRs {C T} {xs : List Value} {l : List Int} (h : IntsAre xs l) : VRs C T (l.map V.int) xs := by
 induction h with
 | nil => exact .nil
 | cons => exact .cons (.int _ _) (by assumption)
theorem listS_ok (hS : Stat S) (hC : S.C = DrawC Ok W zs) : Fn S n (.type "list") (listS zs) := by
 intro A E T H s Q vs xs ro r vr q
 unfold listS at q
 split at q
 ·obtain ⟨x, rfl, v⟩ := vr.one
  obtain ⟨q1, q2⟩ := q
  cases v with
  | @clo _ _ b hb =>
  rw [hC] at hb
  cases hb with
  | @script _ _ o ys m e h1 h2 h3 =>
   have hl := h3.length
   rw [Array.length_toList] at hl
   refine call_list_seq b (T := "list") (.inl rfl) (r.fz _ _ e) h1 h2 (fun h' c' hk ho => ?_) (by rw [sizeLine_eq, hl]; lia)
   obtain ⟨T', _, g, r', v'⟩ := r.allocAt hS.C (t := s.toks) (ao := .list (zs.map V.int)) hk (Nat.le_refl _) fun T' le _ => ⟨ys.toList, c', ho, ints_VRs h3⟩
   exact ⟨T', _, _, g, r', v', q2⟩
  | draw h => exact absurd rfl h
 ·exact q.elim
end
end Mine
end
section
open PySem PySem.W PyProof.Rows
set_option maxRecDepth 100000
namespace Mine
section
variable {S : Sur} {sc : Scope} {n : Nat}
noncomputable def scopeOkB (scope : Scope) (ps : List Str) : Bool :=
 scope.kind == .function && !scope.isCoroutine && !scope.isGenerator && decide ((scope.names.map (·.1)).Nodup) && ((scope.names.take ps.length).map (·.1) == ps) &&
 (scope.names.take ps.length).all (fun p => p.2 == .local || p.2 == .cell) && scope.names.all (fun p => p.2 != .free) && decide (((cellsFrom 0 scope.names []).map (·.1)).Nodup)
theorem scopeOk_of {scope : Scope} {ps : List Str} (h : scopeOkB scope ps = true) : ScopeOk scope ps := by
 unfold scopeOkB at h
 simp only [Bool.and_eq_true] at h
 obtain ⟨⟨⟨⟨⟨⟨⟨h1, h2⟩, h3⟩, h4⟩, h5⟩, h6⟩, h7⟩, h8⟩ := h
 refine ⟨eq_of_beq h1, by simpa using h2, by simpa using h3, of_decide_eq_true h4, eq_of_beq h5, fun p hp => ?_, fun p hp => ?_, of_decide_eq_true h8⟩
 ·have := List.all_eq_true.mp h6 p hp
  simp only [Bool.or_eq_true] at this
  exact this.imp eq_of_beq eq_of_beq
 ·have := List.all_eq_true.mp h7 p hp
  intro e
  rw [e] at this
  exact absurd this (by decide)
noncomputable def compOkB (cs sc : Scope) : Bool :=
 cs.kind == .function && decide ((cs.names.map (·.1)).Nodup) && cs.names.all (fun p => p.2 != .cell) &&
 cs.names.all (fun p => p.2 != .free || match slot sc p.1 with | some (_, k) => k == .cell || k == .free | none => false) && (cs.names.lookup (Str.ofString ".0")).isSome
theorem compOk_of {cs sc : Scope} (h : compOkB cs sc = true) : CompOk cs sc := by
 unfold compOkB at h
 simp only [Bool.and_eq_true] at h
 obtain ⟨⟨⟨⟨h1, h2⟩, h3⟩, h4⟩, h5⟩ := h
 refine ⟨eq_of_beq h1, of_decide_eq_true h2, fun p hp => ?_, fun p hp hf => ?_, h5⟩
 ·have := List.all_eq_true.mp h3 p hp
  intro e
  rw [e] at this
  exact absurd this (by decide)
 ·have := List.all_eq_true.mp h4 p hp
  rw [hf] at this
  have h0 : (NameKind.free != NameKind.free) = false := by decide
  rw [h0, Bool.false_or] at this
  split at this
  ·rename_i j k hs
   simp only [Bool.or_eq_true] at this
   exact ⟨j, k, hs, this.imp eq_of_beq eq_of_beq⟩
  ·cases this
theorem se_comp (hC : CloMono S.C) {elt target iter : Expr} {ifs : List Expr} {cs : Scope} {pos : Pos} {a : SW} {tA} {t : TW} {b : EW} {m : List (Option Nat)} (ok : compOkB cs sc = true) (hm : compMap cs sc = m) (h : SI S sc n iter a) (ht : SA S (relS cs sc) n target tA) (hi : STs S (relS cs sc) n ifs t) (hb : SE S (relS cs sc) n elt b)
  (hs : ∀ env x, foldedSetIterable iter env x = pure x := by intro _ _; rfl) : SE S sc n (.ListComp elt [⟨target, iter, ifs, 0⟩] cs pos) (compW m a tA t b) := hm ▸ SE.comp hC (compOk_of ok) h ht hi hb hs
theorem ss_asgComp (hC : CloMono S.C) {x : Str} {p : Pos} {elt target iter : Expr} {ifs : List Expr} {cs : Scope} {pos pos' : Pos} {a : SW} {tA} {t : TW} {b : EW} {i k} {m : List (Option Nat)} (hx : slot sc x = some (i, k)) (ok : compOkB cs sc = true) (hm : compMap cs sc = m) (h : SI S sc n iter a) (ht : SA S (relS cs sc) n target tA) (hi : STs S (relS cs sc) n ifs t) (hb : SE S (relS cs sc) n elt b)
  (hk : (k == .local || k == .cell) = true := by rfl) (h0 : (k == .local || (sc.names.lookup (Str.ofString ".0")).isNone) = true := by rfl) (hs : ∀ env x, foldedSetIterable iter env x = pure x := by intro _ _; rfl) :
  SS S sc n (.Assign [.Name x p] (.ListComp elt [⟨target, iter, ifs, 0⟩] cs pos) pos') (asgBW (compW m a tA t b) (nameA i)) := hm ▸ SS.asgComp hC hx (compOk_of ok) h ht hi hb hk h0 hs
structure FnP (S : Sur) (n : Nat) (f : Value) (W : FW) : Prop where
 h : FnC S n f W
theorem fnp_new (hS : Stat S) {fI : Addr} {spec : FW} (hm : makesIn S.K S.cl = true) (hi : findIn S.K (.ref S.cl) "__init__" = some (some (.ref fI))) (hf : typeIn S.K (.ref fI) = some (.type "function")) (F : FnP S n (.ref fI) spec) :
  FnP S (n + 1) (.ref S.cl) (newF spec) := ⟨FnC.new hS hm hi hf F.h⟩
theorem cn_fn (hS : Stat S) {x : Str} {f : Value} {spec : FW} (hf : nsIn S.K mainGlobals x = some (some f)) (hk : keepIn S.K f = true) (F : FnP S n f spec) (hd : (x == ("__debug__" : Str)) = false := by decide) : CN S n x spec := CN.fn hS hf hk (FnC.fn F.h) hd
theorem mn_fn {x : String} {spec : FW} {f : Addr} (h1 : plainGet S.K S.cl (Str.ofString x) = true) (h2 : findIn S.K (.ref S.cl) (Str.ofString x) = some (some (.ref f))) (h3 : isFn S.K (.ref f) = true) (h4 : keepIn S.K (.ref f) = true) (F : FnP S n (.ref f) spec) : MN S n x spec :=
 ⟨f, h1, h2, h3, h4, FnC.fn F.h⟩
theorem fnc_def (hS : Stat S) {f : Addr} {name qual : Str} {params : Arguments} {body : List Stmt} {scope : Scope} {dV kV doc pm cdv ct oc : Value} {an od : Option Addr} {osl : Array (Option Value)} {ps : List Str} {W : BW} {k m : Nat}
  (ho : S.K.lookup f = some ⟨oc, od, .func (fnOf name qual params body scope dV kV doc pm an cdv ct), osl⟩) (hcd : codeIn S.K cdv qual = true) (ok : scopeOkB scope ps = true) (hk : ps.length = k) (hm : scope.names.length = m)
  (hb : ∀ xs : List Value, xs.length = k → bindArgs (fnOf name qual params body scope dV kV doc pm an cdv ct) ⟨xs, []⟩ = pure (ps.zip xs)) (h : SB S scope n body W) :
  FnP S (n + 1) (.ref f) (defF k m W) := by
 subst hk hm
 exact ⟨FnC.def hS ho hcd (scopeOk_of ok) hb h⟩
theorem fnc_defB (hS : Stat S) {f : Addr} {name qual : Str} {params : Arguments} {body : List Stmt} {scope : Scope} {dV kV doc pm cdv ct oc : Value} {an od : Option Addr} {osl : Array (Option Value)} {ps : List Str} {W : BW} {k m : Nat}
  (ho : S.K.lookup f = some ⟨oc, od, .func (fnOf name qual params body scope dV kV doc pm an cdv ct), osl⟩) (hcd : codeIn S.K cdv qual = true) (ok : scopeOkB scope ps = true) (hk : ps.length = k) (hm : scope.names.length = m)
  (hb : ∀ (s : Shared) (xs : List Value), S.K.In s.heap → xs.length = k → BindsTo s (fnOf name qual params body scope dV kV doc pm an cdv ct) ⟨xs, []⟩ (ps.zip xs)) (h : SB S scope n body W) :
  FnP S (n + 1) (.ref f) (defF k m W) := by
 subst hk hm
 exact ⟨FnC.defB hS ho hcd (scopeOk_of ok) hb h⟩
theorem lenS {α : Type} {k : Nat} {xs : List α} (h : xs.length = k + 1) : ∃ a r, xs = a :: r ∧ r.length = k := by
 cases xs with
 | nil => cases h
 | cons a r => exact ⟨a, r, rfl, Nat.succ.inj h⟩
theorem len1 {α : Type} {xs : List α} (h : xs.length = 1) : ∃ a, xs = [a] := by obtain ⟨a, r, rfl, k⟩ := lenS h; exact ⟨a, by rw [List.eq_nil_of_length_eq_zero k]⟩
theorem len2 {α : Type} {xs : List α} (h : xs.length = 2) : ∃ a b, xs = [a, b] := by obtain ⟨a, r, rfl, k⟩ := lenS h; obtain ⟨b, rfl⟩ := len1 k; exact ⟨a, b, rfl⟩
theorem len3 {α : Type} {xs : List α} (h : xs.length = 3) : ∃ a b c, xs = [a, b, c] := by obtain ⟨a, r, rfl, k⟩ := lenS h; obtain ⟨b, c, rfl⟩ := len2 k; exact ⟨a, b, c, rfl⟩
theorem len4 {α : Type} {xs : List α} (h : xs.length = 4) : ∃ a b c d, xs = [a, b, c, d] := by obtain ⟨a, r, rfl, k⟩ := lenS h; obtain ⟨b, c, d, rfl⟩ := len3 k; exact ⟨a, b, c, d, rfl⟩
theorem len5 {α : Type} {xs : List α} (h : xs.length = 5) : ∃ a b c d e, xs = [a, b, c, d, e] := by obtain ⟨a, r, rfl, k⟩ := lenS h; obtain ⟨b, c, d, e, rfl⟩ := len4 k; exact ⟨a, b, c, d, e, rfl⟩
end
end Mine
end
section
open PySem PySem.W PyProof.Rows
set_option maxRecDepth 100000
namespace Mine
section
variable {S : Sur} {sc : Scope} {n : Nat} {Ok : Sur → Prop} {W : BW} {zs : List Int}
noncomputable def dealerF (P : Addr) (m : Nat) (a b : BW) : FW := fun vs H Q => vs.length = 1 ∧ seqBW a (seqBW b nextBW) (vs.map some ++ List.replicate (m - 1) none) H fun f ρ H' => f = .next ∧
 ∃ k r c, H'[k]? = some (.tab P true) ∧ ρ.getD 2 none = some (.ref c) ∧ ρ.getD 3 none = some (.ref r) ∧ r ≠ c ∧ Q (.clo r c) (H'.set k (.tab P false))
theorem dealer_tail (hS : Stat S) (hD : S.C = DrawC Ok W zs) {c P : Addr} (hB : ∃ mg, S.h₀.Ns mainGlobals mg ∧ S.h₀.BuiltinsAt mg P) (hH : CodeHd S.h₀ c P) (hP : mainGlobals ≠ P)
  {name : Str} {params : Arguments} {body : List Stmt} {scope : Scope} {pos p p' : Pos} (hd : IsDraw Ok W name params body scope) (hpd : params.defaults = []) (hpk : params.kw_defaults = []) (hpa : ∀ env, annTrees params none env = [])
  (hs1 : slot sc name = some (1, .local)) (hs2 : slot sc (Str.ofString "cells") = some (2, .cell)) (hs3 : slot sc (Str.ofString "rest") = some (3, .cell)) (hnd : (name == ("__debug__" : Str)) = false) (hnd0 : (sc.names.lookup (Str.ofString ".0")).isNone = true)
  {A : Around} {E : Value → Shared → Prop} {R : Flow → Shared → Prop} {T H env ρ s} (he : env.scope = sc) (hcode : env.code = .ref c) (r : SR S T H s) (fr : FR S T env ρ s)
  {k rr cc : Nat} (hk : H[k]? = some (.tab P true)) (h2 : ρ.getD 2 none = some (.ref cc)) (h3 : ρ.getD 3 none = some (.ref rr)) (hne : rr ≠ cc)
  (hR : ∀ T' s' x, (∃ h t, s' = { s with heap := h, toks := t }) → (∀ a o, s.heap.get? a = some o → a ∉ T.ids → a ∉ own env → s'.heap.get? a = some o) → (∀ a o, s.heap.get? a = some o → ∃ o', s'.heap.get? a = some o') → TyLe T T' → T'.ids = T.ids →
   (∀ a o, T'.F a = some o → T.F a = some o ∨ a ∈ own env ∨ s.heap.get? a = none) → SR S T' (H.set k (.tab P false)) s' → VR S.C T' (.clo rr cc) x → R (.ret x) s') :
  wpAny (model S.prog S.w) A (execs [.FunctionDef name params body [] none [] scope none name pos, .Return (some (.Name name p)) p'] env) R E s := by
 subst he
 obtain ⟨g2, l2⟩ := slot_get hs2
 obtain ⟨g3, l3⟩ := slot_get hs3
 obtain ⟨ac, mc, lac, ⟨oC, hoC, hdC⟩, ovC⟩ := fr.cell 2 _ _ g2 (.inl rfl)
 obtain ⟨ar, mr, lar, ⟨oR, hoR, hdR⟩, ovR⟩ := fr.cell 3 _ _ g3 (.inl rfl)
 rw [h2] at ovC; rw [h3] at ovR
 obtain ⟨yc, rfl, vc⟩ := OV.some_left ovC
 obtain ⟨yr, rfl, vr⟩ := OV.some_left ovR
 obtain ⟨Lc, rfl, ec⟩ := vc.ref_inv
 obtain ⟨Lr, rfl, er⟩ := vr.ref_inv
 have hac : ac ≠ ar := fun q => by
  subst q
  have := fr.one _ _ _ lac lar
  exact absurd (ofString_inj this) (by decide)
 obtain ⟨mg, hg, hb⟩ := hB
 have hk0 := Stat.keep r
 have hkL : k < H.length := (List.getElem?_eq_some_iff.mp hk).1
 have hkT : T.ids[k]? = some P := by
  have hx : T.ids[k]? = some (T.ids[k]'(by rw [r.len]; exact hkL)) := List.getElem?_eq_getElem _
  have := r.obj k _ _ hx hk
  rw [hx, this.1]
 have hPT : P ∈ T.ids := List.mem_of_getElem? hkT
 obtain ⟨_, ps, hPo, hps⟩ := r.obj k _ _ hkT hk
 have hps' := hps rfl
 subst hps'
 refine wpAny_execs_cons (nestDef_K hpd hpk (hpa env) ?_)
 have hcl : closureFor scope env = pure [(Str.ofString "rest", ar), (Str.ofString "cells", ac)] := by
  rw [closure_ok (cs := scope) (env := env) fun x hx => ?_]
  ·rw [hd.names]
   show pure [(Str.ofString "rest", (env.cells.lookup (Str.ofString "rest")).getD 0), (Str.ofString "cells", (env.cells.lookup (Str.ofString "cells")).getD 0)] = _
   rw [lac, lar]; rfl
  ·rw [hd.names] at hx
   simp at hx
   rcases hx with rfl | rfl
   ·rw [lac]; rfl
   ·rw [lar]; rfl
 refine makeFunction_K (mg := mg) (c := c) (P := P) (ps := #[]) hcl fr.glob (hg.keeps hk0) hcode (hH.keeps hk0) hPo (by exact trivial) rfl hP (hb.keeps hk0) fun c' ctv doc h' tk hx hge hlt hrec htb => ?_
 obtain ⟨m, hn, hm⟩ := fr.ns
 have hLP : env.locals ≠ P := fun q => fr.L.1 (q ▸ hPT)
 have hLlt : env.locals < s.heap.objs.size := by obtain ⟨o, _, _, e, _⟩ := hn; exact Heap.lt_size e
 have hxs : ∀ b o, b ≠ P → s.heap.get? b = some o → (h'.push (fnMade name (qualnameIn env name name) params body scope [(Str.ofString "rest", ar), (Str.ofString "cells", ac)] doc ((mg "__name__").getD .none) c' ctv)).get? b = some o := fun b o hb e => Heap.get?_push_of_some _ (hx b o hb e)
 have hn2 : (h'.push (fnMade name (qualnameIn env name name) params body scope [(Str.ofString "rest", ar), (Str.ofString "cells", ac)] doc ((mg "__name__").getD .none) c' ctv)).Ns env.locals m := by
  obtain ⟨o, es, ep, e, r⟩ := hn
  exact ⟨o, es, ep, hxs _ _ hLP e, r⟩
 refine wpAny_storeName_local (slot_get hs1).2 hn2 (fun h₃ hn₃ hs₃ => ?_) (by rw [fr.kind]; rfl)
 refine wpAny_execs_cons (wpAny_Return_some (wpAny_Name (wpAny_loadName_local fr.kind (slot_get hs1).2 hn₃ (by rw [if_pos rfl]) ?_) hnd))
 have hPo' : ∃ o, s.heap.get? P = some o := ⟨_, hPo⟩
 have hsz : s.heap.objs.size ≤ h'.objs.size := Nat.le_trans hge (Nat.le_of_lt hlt)
 have keep3 : ∀ b o, b ≠ P → b ≠ env.locals → s.heap.get? b = some o → h₃.get? b = some o := fun b o h1 h2 e => (hs₃.2 b h2).trans (hxs b o h1 e)
 have hfn : h₃.get? h'.objs.size = some (fnMade name (qualnameIn env name name) params body scope [(Str.ofString "rest", ar), (Str.ofString "cells", ac)] doc ((mg "__name__").getD .none) c' ctv) :=
  (hs₃.2 _ (Nat.ne_of_gt (Nat.lt_of_lt_of_le hLlt hsz))).trans (Heap.get?_push_size _ rfl)
 obtain ⟨c₂, oc, tvs, t, e2, hoc, hdc, hq⟩ := hrec
 cases e2
 have hoc3 : h₃.get? c' = some oc := (hs₃.2 _ (Nat.ne_of_gt (Nat.lt_of_lt_of_le hLlt hge))).trans (Heap.get?_push_of_some _ hoc)
 have ciC := fr.ci ac (lookup_mem lac)
 have ciR := fr.ci ar (lookup_mem lar)
 have cFC := fr.cF 2 _ ac g2 lac
 have cFR := fr.cF 3 _ ar g3 lar
 have acP : ac ≠ P := fun q => ciC.1 (q ▸ hPT)
 have arP : ar ≠ P := fun q => ciR.1 (q ▸ hPT)
 have acL : ac ≠ env.locals := fun q => by
  obtain ⟨o', es, ep, ho', hd', _⟩ := hn
  rw [← q] at ho'; rw [ho'] at hoC; cases hoC; rw [hd'] at hdC; cases hdC
 have arL : ar ≠ env.locals := fun q => by
  obtain ⟨o', es, ep, ho', hd', _⟩ := hn
  rw [← q] at ho'; rw [ho'] at hoR; cases hoR; rw [hd'] at hdR; cases hdR
 have hoC3 := keep3 _ _ acP acL hoC
 have hoR3 := keep3 _ _ arP arL hoR
 have fnN := size_none r hsz
 have cN := size_none r hge
 let T' : Ty := ⟨fun a => if a = h'.objs.size ∨ a = c' ∨ a = ac ∨ a = ar then h₃.get? a else T.F a, T.ids⟩
 have off : ∀ a o, T.F a = some o → ¬ (a = h'.objs.size ∨ a = c' ∨ a = ac ∨ a = ar) := fun a o e q => by
  rcases q with rfl | rfl | rfl | rfl
  ·rw [fnN.2.2] at e; cases e
  ·rw [cN.2.2] at e; cases e
  ·rw [cFC] at e; cases e
  ·rw [cFR] at e; cases e
 have le : TyLe T T' := ⟨fun a o e => by show (if _ then _ else _) = _; rw [if_neg (off a o e)]; exact e, List.prefix_refl _⟩
 have onI : ∀ a ∈ T.ids, ¬ (a = h'.objs.size ∨ a = c' ∨ a = ac ∨ a = ar) := fun a ha q => by
  rcases q with rfl | rfl | rfl | rfl
  ·exact fnN.2.1 ha
  ·exact cN.2.1 ha
  ·exact ciC.1 ha
  ·exact ciR.1 ha
 have hP3 : h₃.get? P = some (tabObj (#[] ++ #[rawInt pos.line, rawInt pos.col, .ref c'])) := (hs₃.2 P (Ne.symm hLP)).trans (Heap.get?_push_of_some _ htb)
 refine hR T' _ (.ref h'.objs.size) ⟨h₃, _, rfl⟩ (fun a o e n1 n2 => keep3 a o (fun q => n1 (q ▸ hPT)) (fun q => n2 (q ▸ List.mem_cons_self)) e) (fun a o e => ?_) le rfl (fun a o e => ?_) ⟨fun a o e => ?_, by rw [List.length_set]; exact r.len, fun j a o e q => ?_, r.nd, fun a ha => ?_, fun a o e => le.F _ _ (r.st a o e), r.low, let ⟨o, e⟩ := r.big; ⟨o, le.F _ _ e⟩⟩ (.clo ?_)
 ·by_cases q1 : a = P
  ·exact ⟨_, q1 ▸ hP3⟩
  ·by_cases q2 : a = env.locals
   ·obtain ⟨o, _, _, h, _⟩ := hn₃; exact ⟨o, q2 ▸ h⟩
   ·exact ⟨o, keep3 a o q1 q2 e⟩
 ·have e' : (if a = h'.objs.size ∨ a = c' ∨ a = ac ∨ a = ar then h₃.get? a else T.F a) = some o := e
  split at e'
  ·rename_i q
   rcases q with rfl | rfl | rfl | rfl
   ·exact .inr (.inr fnN.1)
   ·exact .inr (.inr cN.1)
   ·exact .inr (.inl (mem_own_cell lac hnd0))
   ·exact .inr (.inl (mem_own_cell lar hnd0))
  ·exact .inl e'
 ·have e' : (if a = h'.objs.size ∨ a = c' ∨ a = ac ∨ a = ar then h₃.get? a else T.F a) = some o := e
  split at e'
  ·exact e'
  ·refine keep3 a o (fun q => ?_) (fun q => ?_) (r.fz a o e')
   ·rw [q, r.dis P hPT] at e'; cases e'
   ·rw [q, fr.L.2] at e'; cases e'
 ·have e0 : T.ids[j]? = some a := e
  rw [List.getElem?_set] at q
  split at q
  ·rename_i hj
   subst hj
   cases q
   rw [hkT] at e0; cases e0
   exact ⟨rfl, _, hP3, fun h => by cases h⟩
  ·rename_i hj
   have haP : a ≠ P := fun z => by
    subst z
    exact hj ((List.getElem?_inj (by rw [r.len]; exact hkL) r.nd).mp (hkT.trans e0.symm))
   have haL : a ≠ env.locals := fun z => fr.L.1 (z ▸ List.mem_of_getElem? e0)
   exact ((r.obj j a o e0 q).mono hS.C le).keeps o fun b e => keep3 a b haP haL e
 ·show (if _ then _ else _) = _
  rw [if_neg (onI a ha)]; exact r.dis a ha
 ·rw [hD]
  refine .draw (doc := doc) (pm := (mg "__name__").getD .none) (ctv := ctv) (qual := qualnameIn env name name) hne hd (ar := ar) (ac := ac) (ca := c') (Lr := Lr) (Lc := Lc) ?_ ?_ hdc hq ?_ hdR ?_ hdC er ec (Ne.symm hac)
  ·show (if _ then _ else _) = _; rw [if_pos (.inl rfl)]; exact hfn
  ·show (if _ then _ else _) = _; rw [if_pos (.inr (.inl rfl))]; exact hoc3
  ·show (if _ then _ else _) = _; rw [if_pos (.inr (.inr (.inr rfl)))]; exact hoR3
  ·show (if _ then _ else _) = _; rw [if_pos (.inr (.inr (.inl rfl)))]; exact hoC3
theorem dealer_fn (hS : Stat S) (hD : S.C = DrawC Ok W zs) {c P : Addr} (hB : ∃ mg, S.h₀.Ns mainGlobals mg ∧ S.h₀.BuiltinsAt mg P) (hH : CodeHd S.h₀ c P) (hP : mainGlobals ≠ P) {f : Addr} {ps : List Str} {m : Nat}
  {nm qual name : Str} {params parameters : Arguments} {body : List Stmt} {scope scope' : Scope} {st1 st2 : Stmt} {pos p p' : Pos} {dV kV doc pm ct oc : Value} {an od : Option Addr} {osl : Array (Option Value)} {a b : BW}
  (ho : S.K.lookup f = some ⟨oc, od, .func (fnOf nm qual parameters [st1, st2, .FunctionDef name params body [] none [] scope none name pos, .Return (some (.Name name p)) p'] scope' dV kV doc pm an (.ref c) ct), osl⟩) (hcd : codeIn S.K (.ref c) qual = true) (ok : scopeOkB scope' ps = true) (hk : ps.length = 1) (hm : scope'.names.length = m)
  (hb : ∀ xs : List Value, xs.length = 1 → bindArgs (fnOf nm qual parameters [st1, st2, .FunctionDef name params body [] none [] scope none name pos, .Return (some (.Name name p)) p'] scope' dV kV doc pm an (.ref c) ct) ⟨xs, []⟩ = pure (ps.zip xs))
  (hd : IsDraw Ok W name params body scope) (hpd : params.defaults = []) (hpk : params.kw_defaults = []) (hpa : ∀ env, annTrees params none env = [])
  (hs1 : slot scope' name = some (1, .local)) (hs2 : slot scope' (Str.ofString "cells") = some (2, .cell)) (hs3 : slot scope' (Str.ofString "rest") = some (3, .cell)) (hnd : (name == ("__debug__" : Str)) = false) (hnd0 : (scope'.names.lookup (Str.ofString ".0")).isNone = true)
  (h1 : SS S scope' n st1 a) (h2 : SS S scope' n st2 b) :
  FnP S (n + 1) (.ref f) (dealerF P m a b) := by
 refine ⟨?_⟩
 intro A R T H s Q vs xs ro r vr q hR
 obtain ⟨hl, q⟩ := q
 have okk := scopeOk_of ok
 refine codeAny_call_function ro.room (hS.In r _ _ ho) rfl okk.co okk.gen rfl (codeRec_of (hS.In r) hcd) ?_
 rw [hb xs (by rw [← vr.length]; exact hl)]
 refine wpAny_pure (wpAny_newFunctionEnv_cells okk.kind (fun p hp => ?_) fun env he s' x => ?_)
 ·obtain ⟨i, hi⟩ := List.getElem?_of_mem hp
  rw [List.getElem?_zip_eq_some] at hi
  obtain ⟨k, e1, hk⟩ := okk.at hi.1
  have := lookup_of_get okk.nd e1
  rcases hk with rfl | rfl
  ·exact .inl this
  ·exact .inr ⟨this, cellsFrom_some _ _ _ (.inl this)⟩
 ·obtain ⟨g₁, r₁, fr₁, hown⟩ := FR.init r okk (hl.trans hk.symm) vr he x
  refine ⟨hS.lim r₁, codeAny_func ?_⟩
  have es : env.scope = scope' := by rw [he]; rfl
  have ec : env.code = .ref c := by rw [he]; rfl
  rw [hk, hm] at fr₁
  have hpre : SB S scope' n [st1, st2] (seqBW a (seqBW b nextBW)) := SB.cons h1 (SB.cons h2 SB.nil)
  refine wpAny_execs_cons (wpAny_mono (h1 ro.deeper es r₁ fr₁ q) (fun f₂ s₂ e => ?_) fun _ _ e => e)
  obtain ⟨T₂, H₂, ρ₂, k₂, g₂, r₂, fr₂, fl₂, q₂⟩ := e
  cases fl₂ with
  | brk => exact absurd q₂.1 (by intro h; cases h)
  | cont => exact absurd q₂.1 (by intro h; cases h)
  | ret => exact absurd q₂.1 (by intro h; cases h)
  | next =>
  refine wpAny_execs_cons (wpAny_mono (h2 ro.deeper es r₂ fr₂ q₂) (fun f₃ s₃ e => ?_) fun _ _ e => e)
  obtain ⟨T₃, H₃, ρ₃, k₃, g₃, r₃, fr₃, fl₃, q₃⟩ := e
  cases fl₃ with
  | brk => exact absurd q₃.1 (by intro h; cases h)
  | cont => exact absurd q₃.1 (by intro h; cases h)
  | ret => exact absurd q₃.1 (by intro h; cases h)
  | next =>
  obtain ⟨_, k, rr, cc, q1, q2, q3, q4, q5⟩ := q₃
  have gg := g₁.frame (g₂.trans g₃) hown
  refine dealer_tail hS hD hB hH hP hd hpd hpk hpa hs1 hs2 hs3 hnd hnd0 es ec r₃ fr₃ q1 q2 q3 q4 fun T' s' y hup hkeep haliv hle hids hnF hsr hv => ?_
  refine hR _ _ ⟨T', _, _, ⟨?_, fun b o e n m => ?_, fun b o e => ?_, gg.le.trans hle, fun b hb => gg.new b (hids ▸ hb), fun b o e => ?_⟩, hsr, hv, q5⟩
  ·obtain ⟨h, t, rfl⟩ := gg.up
   obtain ⟨h', t', rfl⟩ := hup
   exact ⟨h', t', rfl⟩
  ·refine hkeep b o (gg.keep b o e n m) (fun z => ?_) fun z => ?_
   ·exact (gg.new b z).elim n fun y => by rw [e] at y; cases y
   ·rw [hown b z] at e; cases e
  ·obtain ⟨o', e'⟩ := gg.alive b o e
   exact haliv b o' e'
  ·rcases hnF b o e with z | z | z
   ·exact gg.newF b o z
   ·exact .inr (hown b z)
   ·exact .inr (gg.back z)
end
end Mine
end
section
open PySem PySem.W PyProof.Rows
set_option maxRecDepth 100000
namespace Mine
structure PE (S : Sur) (sc : Scope) (n : Nat) (e : Expr) (W : EW) : Prop where
 h : SE S sc n e W
structure PEs (S : Sur) (sc : Scope) (n : Nat) (es : List Expr) (W : ESW) : Prop where
 h : SEs S sc n es W
structure PT (S : Sur) (sc : Scope) (n : Nat) (e : Expr) (W : TW) : Prop where
 h : ST S sc n e W
structure PS (S : Sur) (sc : Scope) (n : Nat) (st : Stmt) (W : BW) : Prop where
 h : SS S sc n st W
structure PB (S : Sur) (sc : Scope) (n : Nat) (b : List Stmt) (W : BW) : Prop where
 h : SB S sc n b W
structure PA (S : Sur) (sc : Scope) (n : Nat) (t : Expr) (W : V → Rho → List AO → (Rho → List AO → Prop) → Prop) : Prop where
 h : SA S sc n t W
structure PAs (S : Sur) (sc : Scope) (n : Nat) (ts : List Expr) (W : ASW) : Prop where
 h : SAs S sc n ts W
structure PI (S : Sur) (sc : Scope) (n : Nat) (e : Expr) (W : SW) : Prop where
 h : SI S sc n e W
structure PTs (S : Sur) (sc : Scope) (n : Nat) (e : List Expr) (W : TW) : Prop where
 h : STs S sc n e W
section
variable {S : Sur} {sc : Scope} {n : Nat} {Ok : Sur → Prop} {W : BW} {zs : List Int}
theorem PE.int {i k pos} : PE S sc n (.Constant (.int i) k pos) (constW (.int i)) := ⟨Mine.SE.int ⟩
theorem PE.str {x : String} {k pos} : PE S sc n (.Constant (.str (Str.ofString x)) k pos) (constW (.str x)) := ⟨Mine.SE.str ⟩
theorem PE.none {k pos} : PE S sc n (.Constant .none k pos) (constW .none) := ⟨Mine.SE.none ⟩
theorem PE.bool {b k pos} : PE S sc n (.Constant (.bool b) k pos) (constW (.bool b)) := ⟨Mine.SE.bool ⟩
theorem PE.name {x pos i k} (hi : slot sc x = some (i, k)) (hk : (k == .local || k == .cell || k == .free) = true := by rfl) (hd : (x == ("__debug__" : Str)) = false := by decide) (hc : (x == ("__classdict__" : Str)) = false := by decide) : PE S sc n (.Name x pos) (nameW i) := ⟨Mine.SE.name hi hk hd hc⟩
theorem PEs.nil  : PEs S sc n [] nilW := ⟨Mine.SEs.nil ⟩
theorem PEs.cons (hC : CloMono S.C) {e es a b} (h : PE S sc n e a) (k : PEs S sc n es b) (hs : ∀ env, starEach (e :: es) env = (false, eval e env) :: starEach es env := by intro _; rfl) : PEs S sc n (e :: es) (consW a b) := ⟨Mine.SEs.cons hC h.h k.h hs⟩
theorem PE.tup (hC : CloMono S.C) {es k pos a} (h : PEs S sc n es a) : PE S sc n (.Tuple es k pos) (tupW a) := ⟨Mine.SE.tup hC h.h⟩
theorem PE.list (hC : CloMono S.C) {es pos a} (h : PEs S sc n es a) : PE S sc n (.List es pos) (listW a) := ⟨Mine.SE.list hC h.h⟩
theorem PE.dict0 (hC : CloMono S.C) {pos} : PE S sc n (.Dict [] [] pos) dict0W := ⟨Mine.SE.dict0 hC⟩
theorem PE.bin (hC : CloMono S.C) {op l r pos a b} (ha : PE S sc n l a) (hb : PE S sc n r b) : PE S sc n (.BinOp l op r pos) (binW op a b) := ⟨Mine.SE.bin hC ha.h hb.h⟩
theorem PE.neg (hC : CloMono S.C) {e pos a} (h : PE S sc n e a) : PE S sc n (.UnaryOp .USub e pos) (negW a) := ⟨Mine.SE.neg hC h.h⟩
theorem PT.plain (hC : CloMono S.C) {e a} (h : PE S sc n e a) (hp : ∀ env whole, isTrue e env whole = (do let v ← whole; standAt e.pos; holding [v] (truthy v)) := by intros; rfl) : PT S sc n e (plainTW a) := ⟨Mine.ST.plain hC h.h hp⟩
theorem PE.cmp (hC : CloMono S.C) {op l r pos a b} (ha : PE S sc n l a) (hb : PE S sc n r b) (hm : behindInMarks op r = false := by with_unfolding_all rfl) : PE S sc n (.Compare l [op] [r] pos) (cmpW op a b) := ⟨Mine.SE.cmp hC ha.h hb.h hm⟩
theorem PT.cmp (hC : CloMono S.C) {op l r pos a b} (ha : PE S sc n l a) (hb : PE S sc n r b) (hm : behindInMarks op r = false := by with_unfolding_all rfl) : PT S sc n (.Compare l [op] [r] pos) (cmpTW op a b) := ⟨Mine.ST.cmp hC ha.h hb.h hm⟩
theorem PT.chain2 (hC : CloMono S.C) {op op' l r r' pos a b c} (ha : PE S sc n l a) (hb : PE S sc n r b) (hc : PE S sc n r' c) (hm : lastMarks [op, op'] [r, r'] = false := by with_unfolding_all rfl) : PT S sc n (.Compare l [op, op'] [r, r'] pos) (chain2TW op op' a b c) := ⟨Mine.ST.chain2 hC ha.h hb.h hc.h hm⟩
theorem PT.not (hC : CloMono S.C) {e pos a} (h : PT S sc n e a) : PT S sc n (.UnaryOp .Not e pos) (notTW a) := ⟨Mine.ST.not hC h.h⟩
theorem PT.and0 {pos} : PT S sc n (.BoolOp .And [] pos) (trueTW true) := ⟨Mine.ST.and0 ⟩
theorem PT.or0 {pos} : PT S sc n (.BoolOp .Or [] pos) (trueTW false) := ⟨Mine.ST.or0 ⟩
theorem PT.and (hC : CloMono S.C) {e es pos a b} (h : PT S sc n e a) (k : PT S sc n (.BoolOp .And es pos) b) : PT S sc n (.BoolOp .And (e :: es) pos) (andTW a b) := ⟨Mine.ST.and hC h.h k.h⟩
theorem PT.or (hC : CloMono S.C) {e es pos a b} (h : PT S sc n e a) (k : PT S sc n (.BoolOp .Or es pos) b) : PT S sc n (.BoolOp .Or (e :: es) pos) (orTW a b) := ⟨Mine.ST.or hC h.h k.h⟩
theorem PE.ite (hC : CloMono S.C) {t x y pos a b c} (h : PT S sc n t c) (ha : PE S sc n x a) (hb : PE S sc n y b) : PE S sc n (.IfExp t x y pos) (iteW c a b) := ⟨Mine.SE.ite hC h.h ha.h hb.h⟩
theorem PE.bool1 {op e pos a} (h : PE S sc n e a) : PE S sc n (.BoolOp op [e] pos) a := ⟨Mine.SE.bool1 h.h⟩
theorem PE.or (hC : CloMono S.C) {e e' es pos a b} (h : PE S sc n e a) (k : PE S sc n (.BoolOp .Or (e' :: es) pos) b) : PE S sc n (.BoolOp .Or (e :: e' :: es) pos) (orW a b) := ⟨Mine.SE.or hC h.h k.h⟩
theorem PE.and (hC : CloMono S.C) {e e' es pos a b} (h : PE S sc n e a) (k : PE S sc n (.BoolOp .And (e' :: es) pos) b) : PE S sc n (.BoolOp .And (e :: e' :: es) pos) (andW a b) := ⟨Mine.SE.and hC h.h k.h⟩
theorem PA.name {x pos i k} (hi : slot sc x = some (i, k)) (hk : (k == .local || k == .cell) = true := by rfl) (h0 : (k == .local || (sc.names.lookup (Str.ofString ".0")).isNone) = true := by rfl) : PA S sc n (.Name x pos) (nameA i) := ⟨Mine.SA.name hi hk h0⟩
theorem PA.sub (hC : CloMono S.C) {o i pos a b} (ha : PE S sc n o a) (hb : PE S sc n i b) : PA S sc n (.Subscript o i pos) (subA a b) := ⟨Mine.SA.sub hC ha.h hb.h⟩
theorem PS.absurd {st} : PS S sc n st falseBW := ⟨Mine.SS.absurd ⟩
theorem PS.cont {pos} : PS S sc n (.Continue pos) contBW := ⟨Mine.SS.cont ⟩
theorem PS.ret (hC : CloMono S.C) {e pos a} (h : PE S sc n e a) : PS S sc n (.Return (some e) pos) (retBW a) := ⟨Mine.SS.ret hC h.h⟩
theorem PS.ite (hC : CloMono S.C) {e x y pos t a b} (h : PT S sc n e t) (ha : PB S sc n x a) (hb : PB S sc n y b) : PS S sc n (.If e x y pos) (ifBW t a b) := ⟨Mine.SS.ite hC h.h ha.h hb.h⟩
theorem PB.nil  : PB S sc n [] nextBW := ⟨Mine.SB.nil ⟩
theorem PB.cons {st rest a b} (h : PS S sc n st a) (k : PB S sc n rest b) : PB S sc n (st :: rest) (seqBW a b) := ⟨Mine.SB.cons h.h k.h⟩
theorem PS.expr (hC : CloMono S.C) {e pos a} (h : PE S sc n e a) (hs : ∀ env, swapsWith e none pos.line env = pure false := by intro _; rfl) : PS S sc n (.Expr e pos) (exprBW a) := ⟨Mine.SS.expr hC h.h hs⟩
theorem PS.asg (hC : CloMono S.C) {t e pos a b} (h : PE S sc n e a) (k : PA S sc n t b) (hs : ∀ env, swapsWith e (some t) pos.line env = pure false := by intro _; rfl) (hw : ∀ env, swappedStores [t] e env = pure none := by intro _; rfl) (hst : ∀ env, (assignEach [t] env).map (·.2) = [assign t env] := by intro _; rfl) : PS S sc n (.Assign [t] e pos) (asgBW a b) := ⟨Mine.SS.asg hC h.h k.h hs hw hst⟩
theorem PAs.nil  : PAs S sc n [] nilAs := ⟨Mine.SAs.nil ⟩
theorem PAs.cons (hC : CloMono S.C) {t ts a b} (h : PA S sc n t a) (k : PAs S sc n ts b) (ht : ∀ env, assignEach (t :: ts) env = (false, assign t env) :: assignEach ts env := by intro _; rfl) : PAs S sc n (t :: ts) (consAs a b) := ⟨Mine.SAs.cons hC h.h k.h ht⟩
theorem PA.tup (hC : CloMono S.C) {ts k pos b} (h : PAs S sc n ts b) (hst : ∀ env, (assignEach ts env).findIdx? (·.1) = none := by intro _; rfl) (hl : ∀ env, (assignEach ts env).length = ts.length := by intro _; rfl) : PA S sc n (.Tuple ts k pos) (tupA ts.length b) := ⟨Mine.SA.tup hC h.h hst hl⟩
theorem PS.augName (hC : CloMono S.C) {x px op e pos a i k} (hi : slot sc x = some (i, k)) (h : PE S sc n e a) (hk : (k == .local) = true := by rfl) : PS S sc n (.AugAssign (.Name x px) op e pos) (augNameBW i op a) := ⟨Mine.SS.augName hC hi h.h hk⟩
theorem PI.of (hC : CloMono S.C) {e a} (h : PE S sc n e a) : PI S sc n e (srcW a) := ⟨Mine.SI.of hC h.h⟩
theorem PS.for (hC : CloMono S.C) {t e body pos a tA b} (h : PI S sc n e a) (ht : PA S sc n t tA) (hb : PB S sc n body b) (hs : ∀ env x, foldedSetIterable e env x = pure x := by intro _ _; rfl) : PS S sc n (.For t e body [] pos) (forBW a tA b) := ⟨Mine.SS.for hC h.h ht.h hb.h hs⟩
theorem PE.call (hS : Stat S) {x p e es pos a spec i} (hx : slot sc x = some (i, .globalImplicit)) (c : CN S n x spec) (h : PEs S sc n (e :: es) a) (hc : ∀ env, starEach (e :: es) env = (false, eval e env) :: starEach es env := by intro _; rfl) (hp : ∀ env, (starEach es env).any (·.1) = false := by intro _; rfl) : PE S sc n (.Call (.Name x p) (e :: es) [] pos) (callW a spec) := ⟨Mine.SE.call hS hx c h.h hc hp⟩
theorem PI.range (hS : Stat S) {p e pos a i} (hx : slot sc "range" = some (i, .globalImplicit)) (hf : nsIn S.K mainGlobals "range" = some none) (h : PEs S sc n [e] a) (hc : ∀ env, starEach [e] env = [(false, eval e env)] := by intro _; rfl) : PI S sc n (.Call (.Name "range" p) [e] [] pos) (rangeW a) := ⟨Mine.SI.range hS hx hf h.h hc⟩
theorem PE.sub (hC : CloMono S.C) {o i pos a b} (ha : PE S sc n o a) (hb : PE S sc n i b) (hs : ∀ o x, subscripted i false o x = operate [o, x] (getItem o x) := by intros; rfl) : PE S sc n (.Subscript o i pos) (subW a b) := ⟨Mine.SE.sub hC ha.h hb.h hs⟩
theorem PE.attr (hS : Stat S) {x : String} {nm np pos a} (ax : AttrOk S x) (h : PE S sc n (.Name nm np) a) : PE S sc n (.Attribute (.Name nm np) (Str.ofString x) pos) (attrW x a) := ⟨Mine.SE.attr hS ax h.h⟩
theorem PE.append (hS : Stat S) {o e apos pos a b} (ho : PE S sc n o a) (h : PE S sc n e b) (hc : ∀ env, starEach [e] env = [(false, eval e env)] := by intro _; rfl) (hm : IsMeth o (Str.ofString "append") apos pos [e] := by intro _; exact ⟨_, rfl⟩) : PE S sc n (.Call (.Attribute o (Str.ofString "append") apos) [e] [] pos) (appendW a b) := ⟨Mine.SE.append hS ho.h h.h hc hm⟩
theorem PE.reverse (hS : Stat S) {o apos pos a} (ho : PE S sc n o a) (hm : IsMeth o (Str.ofString "reverse") apos pos [] := by intro _; exact ⟨_, rfl⟩) : PE S sc n (.Call (.Attribute o (Str.ofString "reverse") apos) [] [] pos) (reverseW a) := ⟨Mine.SE.reverse hS ho.h hm⟩
theorem PE.index (hS : Stat S) {o e apos pos a b} (ho : PE S sc n o a) (h : PE S sc n e b) (hc : ∀ env, starEach [e] env = [(false, eval e env)] := by intro _; rfl) (hm : IsMeth o (Str.ofString "index") apos pos [e] := by intro _; exact ⟨_, rfl⟩) : PE S sc n (.Call (.Attribute o (Str.ofString "index") apos) [e] [] pos) (indexW a b) := ⟨Mine.SE.index hS ho.h h.h hc hm⟩
theorem PE.dictGet (hS : Stat S) {o e e' apos pos a b c} (ho : PE S sc n o a) (h : PE S sc n e b) (h' : PE S sc n e' c) (hc : ∀ env, starEach [e, e'] env = [(false, eval e env), (false, eval e' env)] := by intro _; rfl) (hm : IsMeth o (Str.ofString "get") apos pos [e, e'] := by intro _; exact ⟨_, rfl⟩) : PE S sc n (.Call (.Attribute o (Str.ofString "get") apos) [e, e'] [] pos) (dgetW a b c) := ⟨Mine.SE.dictGet hS ho.h h.h h'.h hc hm⟩
theorem PE.meth (hS : Stat S) {x : String} {o e es apos pos a b spec} (c : MN S n x spec) (ho : PE S sc n o a) (h : PEs S sc n (e :: es) b) (hc : ∀ env, starEach (e :: es) env = (false, eval e env) :: starEach es env := by intro _; rfl) (hp : ∀ env, (starEach es env).any (·.1) = false := by intro _; rfl) (hm : IsMeth o (Str.ofString x) apos pos (e :: es) := by intro _; exact ⟨_, rfl⟩) : PE S sc n (.Call (.Attribute o (Str.ofString x) apos) (e :: es) [] pos) (methW x a b spec) := ⟨Mine.SE.meth hS c ho.h h.h hc hp hm⟩
theorem PE.meth0 (hS : Stat S) {x : String} {o apos pos a spec} (c : MN S n x spec) (ho : PE S sc n o a) (hm : IsMeth o (Str.ofString x) apos pos [] := by intro _; exact ⟨_, rfl⟩) : PE S sc n (.Call (.Attribute o (Str.ofString x) apos) [] [] pos) (meth0W x a spec) := ⟨Mine.SE.meth0 hS c ho.h hm⟩
theorem PS.augSub (hC : CloMono S.C) {o i spos op e pos a b c} (ha : PE S sc n o a) (hb : PE S sc n i b) (hc : PE S sc n e c) (hs : ∀ ov iv new, augStore i ov iv new = (do
  holding [new, ov, iv] (setItem ov iv new)
  release [new, ov, iv] []
  pure .next) := by intros; rfl) : PS S sc n (.AugAssign (.Subscript o i spos) op e pos) (augSubBW op a b c) := ⟨Mine.SS.augSub hC ha.h hb.h hc.h hs⟩
theorem PS.while (hC : CloMono S.C) {e body pos t b} (h : PT S sc n e t) (hb : PB S sc n body b) : PS S sc n (.While e body [] pos) (whileBW t b) := ⟨Mine.SS.while hC h.h hb.h⟩
theorem PA.attr (hS : Stat S) {x : String} (ax : AttrSt S x) {o pos a} (ha : PE S sc n o a) : PA S sc n (.Attribute o (Str.ofString x) pos) (attrA x a) := ⟨Mine.SA.attr hS ax ha.h⟩
theorem PS.augAttr (hS : Stat S) {x : String} (ax : AttrOk S x) (at' : AttrSt S x) {o tpos op e pos a c} (ha : PE S sc n o a) (hc : PE S sc n e c) : PS S sc n (.AugAssign (.Attribute o (Str.ofString x) tpos) op e pos) (augAttrBW x op a c) := ⟨Mine.SS.augAttr hS ax at' ha.h hc.h⟩
theorem PTs.nil  : PTs S sc n [] (trueTW true) := ⟨Mine.STs.nil ⟩
theorem PTs.one {e t} (h : PT S sc n e t) : PTs S sc n [e] t := ⟨Mine.STs.one h.h⟩
theorem PE.dict2 (hS : Stat S) {x y : Str} {p p' p'' pos pos' : Pos} {k k' i j : Nat} {u v : Int} {t t' : Tok} {b c : Bool} (hx : slot sc x = some (i, .globalImplicit)) (hf : nsIn S.K mainGlobals x = some (some (.int u t))) (hy : slot sc y = some (j, .globalImplicit)) (hg : nsIn S.K mainGlobals y = some (some (.int v t'))) (hd : (x == ("__debug__" : Str)) = false := by decide) (hd' : (y == ("__debug__" : Str)) = false := by decide) : PE S sc n (.Dict [some (.Name x p), some (.Name y p')] [.Constant (.bool b) k pos', .Constant (.bool c) k' p''] pos) (dict2W u v b c) := ⟨Mine.SE.dict2 hS hx hf hy hg hd hd'⟩
theorem pe_upto (hC : CloMono S.C) {o pos p k cp a} {m : Nat} (ha : PE S sc n o a) (hs : ∀ o x, ∃ ops, subscripted (.Slice none (some (.Constant (.int m) k cp)) none p) false o x = operate ops (getItem o x) := by intros; exact ⟨_, rfl⟩) : PE S sc n (.Subscript o (.Slice none (some (.Constant (.int m) k cp)) none p) pos) (uptoW a m) := ⟨Mine.sl_upto hC ha.h hs⟩
theorem pe_from (hC : CloMono S.C) {o pos p k cp a} {m : Nat} (ha : PE S sc n o a) (hs : ∀ o x, ∃ ops, subscripted (.Slice (some (.Constant (.int m) k cp)) none none p) false o x = operate ops (getItem o x) := by intros; exact ⟨_, rfl⟩) : PE S sc n (.Subscript o (.Slice (some (.Constant (.int m) k cp)) none none p) pos) (fromW a m) := ⟨Mine.sl_from hC ha.h hs⟩
theorem PE.callV (hS : Stat S) (hC : S.C = DrawC Ok W zs) (hOk : Ok S) (h2 : 2 ≤ n) {x p e es pos a i k} (hx : slot sc x = some (i, k)) (h : PEs S sc n (e :: es) a) (hk : (k == .local || k == .cell || k == .free) = true := by rfl) (hd : (x == ("__debug__" : Str)) = false := by decide) (hcd : (x == ("__classdict__" : Str)) = false := by decide) (hc : ∀ env, starEach (e :: es) env = (false, eval e env) :: starEach es env := by intro _; rfl) (hp : ∀ env, (starEach es env).any (·.1) = false := by intro _; rfl) : PE S sc n (.Call (.Name x p) (e :: es) [] pos) (callVW i W a) := ⟨Mine.se_callV hS hC hOk h2 hx h.h hk hd hcd hc hp⟩
theorem PE.comp (hC : CloMono S.C) {elt target iter : Expr} {ifs : List Expr} {cs : Scope} {pos : Pos} {a : SW} {tA} {t : TW} {b : EW} {m : List (Option Nat)} (ok : compOkB cs sc = true) (hm : compMap cs sc = m) (h : PI S sc n iter a) (ht : PA S (relS cs sc) n target tA) (hi : PTs S (relS cs sc) n ifs t) (hb : PE S (relS cs sc) n elt b) (hs : ∀ env x, foldedSetIterable iter env x = pure x := by intro _ _; rfl) : PE S sc n (.ListComp elt [⟨target, iter, ifs, 0⟩] cs pos) (compW m a tA t b) := ⟨Mine.se_comp hC ok hm h.h ht.h hi.h hb.h hs⟩
theorem PS.asgComp (hC : CloMono S.C) {x : Str} {p : Pos} {elt target iter : Expr} {ifs : List Expr} {cs : Scope} {pos pos' : Pos} {a : SW} {tA} {t : TW} {b : EW} {i k} {m : List (Option Nat)} (hx : slot sc x = some (i, k)) (ok : compOkB cs sc = true) (hm : compMap cs sc = m) (h : PI S sc n iter a) (ht : PA S (relS cs sc) n target tA) (hi : PTs S (relS cs sc) n ifs t) (hb : PE S (relS cs sc) n elt b) (hk : (k == .local || k == .cell) = true := by rfl) (h0 : (k == .local || (sc.names.lookup (Str.ofString ".0")).isNone) = true := by rfl) (hs : ∀ env x, foldedSetIterable iter env x = pure x := by intro _ _; rfl) : PS S sc n (.Assign [.Name x p] (.ListComp elt [⟨target, iter, ifs, 0⟩] cs pos) pos') (asgBW (compW m a tA t b) (nameA i)) := ⟨Mine.ss_asgComp hC hx ok hm h.h ht.h hi.h hb.h hk h0 hs⟩
theorem fnp_def (hS : Stat S) {f : Addr} {name qual : Str} {params : Arguments} {body : List Stmt} {scope : Scope} {dV kV doc pm cdv ct oc : Value} {an od : Option Addr} {osl : Array (Option Value)} {ps : List Str} {W : BW} {k m : Nat} (ho : S.K.lookup f = some ⟨oc, od, .func (fnOf name qual params body scope dV kV doc pm an cdv ct), osl⟩) (hcd : codeIn S.K cdv qual = true) (ok : scopeOkB scope ps = true) (hk : ps.length = k) (hm : scope.names.length = m) (hb : ∀ xs : List Value, xs.length = k → bindArgs (fnOf name qual params body scope dV kV doc pm an cdv ct) ⟨xs, []⟩ = pure (ps.zip xs)) (h : PB S scope n body W) : FnP S (n + 1) (.ref f) (defF k m W) := fnc_def hS ho hcd ok hk hm hb h.h
theorem fnp_defB (hS : Stat S) {f : Addr} {name qual : Str} {params : Arguments} {body : List Stmt} {scope : Scope} {dV kV doc pm cdv ct oc : Value} {an od : Option Addr} {osl : Array (Option Value)} {ps : List Str} {W : BW} {k m : Nat} (ho : S.K.lookup f = some ⟨oc, od, .func (fnOf name qual params body scope dV kV doc pm an cdv ct), osl⟩) (hcd : codeIn S.K cdv qual = true) (ok : scopeOkB scope ps = true) (hk : ps.length = k) (hm : scope.names.length = m) (hb : ∀ (s : Shared) (xs : List Value), S.K.In s.heap → xs.length = k → BindsTo s (fnOf name qual params body scope dV kV doc pm an cdv ct) ⟨xs, []⟩ (ps.zip xs)) (h : PB S scope n body W) : FnP S (n + 1) (.ref f) (defF k m W) := fnc_defB hS ho hcd ok hk hm hb h.h
theorem dealer_p (hS : Stat S) (hD : S.C = DrawC Ok W zs) {c P : Addr} (hB : ∃ mg, S.h₀.Ns mainGlobals mg ∧ S.h₀.BuiltinsAt mg P) (hH : CodeHd S.h₀ c P) (hP : mainGlobals ≠ P) {f : Addr} {ps : List Str} {m : Nat} {nm qual name : Str} {params parameters : Arguments} {body : List Stmt} {scope scope' : Scope} {st1 st2 : Stmt} {pos p p' : Pos} {dV kV doc pm ct oc : Value} {an od : Option Addr} {osl : Array (Option Value)} {a b : BW} (ho : S.K.lookup f = some ⟨oc, od, .func (fnOf nm qual parameters [st1, st2, .FunctionDef name params body [] none [] scope none name pos, .Return (some (.Name name p)) p'] scope' dV kV doc pm an (.ref c) ct), osl⟩) (hcd : codeIn S.K (.ref c) qual = true) (ok : scopeOkB scope' ps = true) (hk : ps.length = 1) (hm : scope'.names.length = m) (hb : ∀ xs : List Value, xs.length = 1 → bindArgs (fnOf nm qual parameters [st1, st2, .FunctionDef name params body [] none [] scope none name pos, .Return (some (.Name name p)) p'] scope' dV kV doc pm an (.ref c) ct) ⟨xs, []⟩ = pure (ps.zip xs)) (hd : IsDraw Ok W name params body scope) (hpd : params.defaults = []) (hpk : params.kw_defaults = []) (hpa : ∀ env, annTrees params none env = []) (hs1 : slot scope' name = some (1, .local)) (hs2 : slot scope' (Str.ofString "cells") = some (2, .cell)) (hs3 : slot scope' (Str.ofString "rest") = some (3, .cell)) (hnd : (name == ("__debug__" : Str)) = false) (hnd0 : (scope'.names.lookup (Str.ofString ".0")).isNone = true) (h1 : PS S scope' n st1 a) (h2 : PS S scope' n st2 b) : FnP S (n + 1) (.ref f) (dealerF P m a b) := dealer_fn hS hD hB hH hP ho hcd ok hk hm hb hd hpd hpk hpa hs1 hs2 hs3 hnd hnd0 h1.h h2.h
theorem isDraw_of {name : Str} {params : Arguments} {body : List Stmt} {scope : Scope} (h1 : scope.kind = .function) (h2 : scope.isCoroutine = false) (h3 : scope.isGenerator = false) (h4 : scope.names = drawNames)
  (h5 : ∀ (qual : Str) (x : Value) cl doc pm cdv ct, bindArgs (fnX name qual params body scope cl .none .none doc pm none cdv ct) ⟨[x], []⟩ = (pure [("limit", x)] : Sem (List (Str × Value)))) (h6 : ∀ S' : Sur, Ok S' → PB S' scope 1 body W) : IsDraw Ok W name params body scope :=
 ⟨h1, h2, h3, h4, h5, fun S' o => (h6 S' o).h⟩
noncomputable def nlB (sc : Scope) (x : Str) (i : Nat) : Bool := (match slot sc x with | some (j, .local) => j == i | _ => false) && !(x == ("__debug__" : Str)) && !(x == ("__classdict__" : Str))
theorem PE.nl {x pos i} (h : nlB sc x i = true) : PE S sc n (.Name x pos) (nameW i) := by
 unfold nlB at h
 rw [Bool.and_eq_true, Bool.and_eq_true, Bool.not_eq_true', Bool.not_eq_true'] at h
 obtain ⟨⟨h1, h2⟩, h3⟩ := h
 cases e : slot sc x with
 | none => rw [e] at h1; cases h1
 | some p =>
  obtain ⟨j, k⟩ := p
  rw [e] at h1
  cases k <;> first | cases h1 | exact PE.name (k := .local) (e.trans (by rw [eq_of_beq h1])) rfl h2 h3
theorem PA.nl {x pos i} (h : slot sc x = some (i, .local)) : PA S sc n (.Name x pos) (nameA i) := PA.name h rfl rfl
end
end Mine
end
section
open PySem PySem.W PyProof.Rows
set_option maxRecDepth 100000
set_option maxHeartbeats 8000000
namespace Mine
noncomputable abbrev Dfn := Arguments × List Stmt × Scope
noncomputable def dfnS (s : Option Stmt) : Dfn := match s with | some (.FunctionDef _ p b _ _ _ sc _ _ _) => (p, b, sc) | _ => default
noncomputable def dfn (i : Nat) : Dfn := dfnS PySem.Challenge.pw_sj0050_01.main.body[i]?
noncomputable def mth (i : Nat) : Dfn := match (PySem.Challenge.pw_sj0050_01.main.body[8]? : Option Stmt) with | some (Stmt.ClassDef _ _ _ b _ _ _ _ _ _ _) => dfnS b[i]? | _ => default
noncomputable abbrev FnR := Option (Arguments × FuncBody × Scope × Value × Value × Addr × List (Str × Addr) × Addr × Value × Bool)
noncomputable def fnR (K : Frag) (f : Addr) : FnR := match K.lookup f with
 | some ⟨_, _, .func fd, _⟩ => some (fd.params, fd.body, fd.scope, fd.defaults, fd.kwdefaults, fd.globals, fd.closure, fd.builtins, fd.code, codeIn K fd.code fd.qualname)
 | _ => none
noncomputable def fnX0 (d : Dfn) (dV : Value) (c : Addr) : FnR := some (d.1, .stmts d.2.1, d.2.2, dV, .none, mainGlobals, [], builtinsNs, .ref c, true)
theorem fnR_ho {K : Frag} {f c : Addr} {d : Dfn} {dV : Value} (e : fnR K f = fnX0 d dV c) : ∃ oc od nm qual doc pm an ct osl, K.lookup f = some ⟨oc, od, .func (fnOf nm qual d.1 d.2.1 d.2.2 dV .none doc pm an (.ref c) ct), osl⟩ ∧ codeIn K (.ref c) qual = true := by
 unfold fnR at e
 split at e
 ·rename_i oc od fd osl hl
  obtain ⟨nm, qual, params, body, scope, gl, clo, dV', kV, doc, pm, an, cdv, ct, bt⟩ := fd
  simp only [fnX0, Option.some.injEq, Prod.mk.injEq] at e
  obtain ⟨rfl, rfl, rfl, rfl, rfl, rfl, rfl, rfl, rfl, hc⟩ := e
  exact ⟨oc, od, nm, qual, doc, pm, an, ct, osl, hl, hc⟩
 ·cases e
noncomputable abbrev BindR := Option (Setting → Value → Value → Value → Value → Value → Option (List (Str × Value)))
noncomputable def bindR (K : Frag) : BindR := match K.lookup 117 with
 | some ⟨_, _, .func fd, _⟩ => some fun S a b c d e => peek K S (bindArgs fd ⟨[a, b, c, d, e], []⟩)
 | _ => none
noncomputable def obsN (K : Frag) : List (Option (Option Value)) := ([Str.ofString "is_state_kind", Str.ofString "state_cells", Str.ofString "drivers", Str.ofString "ordered_cells", Str.ofString "comb_order", Str.ofString "row_number", Str.ofString "full_table", Str.ofString "var_table", Str.ofString "cofactor", Str.ofString "depends", Str.ofString "support", Str.ofString "spread", Str.ofString "shrink", Str.ofString "final_net", Str.ofString "rebuilt_cells", Str.ofString "rebuilt", Str.ofString "and_form", Str.ofString "or_form", Str.ofString "xor_form", Str.ofString "turned_form", Str.ofString "gate_form", Str.ofString "select_form", Str.ofString "table_bit", Str.ofString "table_over", Str.ofString "table_form", Str.ofString "are_opposite", Str.ofString "library_form", Str.ofString "simple_form", Str.ofString "fold_constants", Str.ofString "_law_dealer", Str.ofString "_law_word", Str.ofString "_law_all_words", Str.ofString "_law_held", Str.ofString "_law_at_ends", Str.ofString "Netlist", Str.ofString "CONST0", Str.ofString "CONST1", Str.ofString "range", Str.ofString "len", Str.ofString "list", Str.ofString "tuple", Str.ofString "dict", Str.ofString "int", Str.ofString "abs", Str.ofString "sum"] : List Str).map (nsIn K mainGlobals)
noncomputable def expN : List (Option (Option Value)) := [some (some (.ref 61)), some (some (.ref 145)), some (some (.ref 152)), some (some (.ref 159)), some (some (.ref 166)), some (some (.ref 173)), some (some (.ref 180)), some (some (.ref 187)), some (some (.ref 194)), some (some (.ref 201)), some (some (.ref 208)), some (some (.ref 215)), some (some (.ref 222)), some (some (.ref 229)), some (some (.ref 234)), some (some (.ref 241)), some (some (.ref 248)), some (some (.ref 255)), some (some (.ref 262)), some (some (.ref 269)), some (some (.ref 276)), some (some (.ref 283)), some (some (.ref 290)), some (some (.ref 295)), some (some (.ref 300)), some (some (.ref 307)), some (some (.ref 314)), some (some (.ref 321)), some (some (.ref 326)), some (some (.ref 331)), some (some (.ref 338)), some (some (.ref 343)), some (some (.ref 348)), some (some (.ref 353)), some (some (.ref 134)), some (some (.int 0 250)), some (some (.int 1 252)), some none, some none, some none, some none, some none, some none, some none, some none]
noncomputable def obsF (K : Frag) : List FnR := ([61, 145, 152, 159, 166, 173, 180, 187, 194, 201, 208, 215, 222, 229, 234, 241, 248, 255, 262, 269, 276, 283, 290, 295, 300, 307, 314, 321, 326, 331, 338, 343, 348, 353, 75, 82, 87, 94, 101, 117, 358] : List Addr).map (fnR K)
noncomputable def expF : List FnR := [fnX0 (dfn 7) .none 60, fnX0 (dfn 9) .none 144, fnX0 (dfn 10) .none 151, fnX0 (dfn 11) .none 158, fnX0 (dfn 12) .none 165, fnX0 (dfn 13) .none 172, fnX0 (dfn 15) .none 179, fnX0 (dfn 16) .none 186, fnX0 (dfn 17) .none 193, fnX0 (dfn 18) .none 200, fnX0 (dfn 19) .none 207, fnX0 (dfn 20) .none 214, fnX0 (dfn 21) .none 221, fnX0 (dfn 23) .none 228, fnX0 (dfn 24) .none 233, fnX0 (dfn 25) .none 240, fnX0 (dfn 26) .none 247, fnX0 (dfn 27) .none 254, fnX0 (dfn 28) .none 261, fnX0 (dfn 29) .none 268, fnX0 (dfn 30) .none 275, fnX0 (dfn 31) .none 282, fnX0 (dfn 32) .none 289, fnX0 (dfn 33) .none 294, fnX0 (dfn 34) .none 299, fnX0 (dfn 35) .none 306, fnX0 (dfn 36) .none 313, fnX0 (dfn 37) .none 320, fnX0 (dfn 38) .none 325, fnX0 (dfn 40) .none 330, fnX0 (dfn 41) .none 337, fnX0 (dfn 42) .none 342, fnX0 (dfn 43) .none 347, fnX0 (dfn 44) .none 352, fnX0 (mth 0) .none 74, fnX0 (mth 1) .none 81, fnX0 (mth 2) .none 86, fnX0 (mth 3) .none 93, fnX0 (mth 4) .none 100, fnX0 (mth 6) (.ref 110) 116, fnX0 (dfn 45) .none 357]
noncomputable def obsK (K : Frag) : List Bool := ([61, 145, 152, 159, 166, 173, 180, 187, 194, 201, 208, 215, 222, 229, 234, 241, 248, 255, 262, 269, 276, 283, 290, 295, 300, 307, 314, 321, 326, 331, 338, 343, 348, 353, 134, 82, 87, 94, 101, 117] : List Addr).map (fun a => keepIn K (.ref a))
noncomputable def expK : List Bool := List.replicate 40 true
noncomputable def obsP (K : Frag) : List Bool := (["name", "count", "inputs", "outputs", "cells", "new_net", "new_nets", "add_input", "add_output", "drive"] : List String).map (fun x => plainGet K 134 (Str.ofString x))
noncomputable def expP : List Bool := List.replicate 10 true
noncomputable def obsI (K : Frag) : List (Option (Option Value)) := (["name", "count", "inputs", "outputs", "cells", "new_net", "new_nets", "add_input", "add_output", "drive", "__init__", "__setattr__"] : List String).map (fun x => findIn K (.ref 134) (Str.ofString x))
noncomputable def expI : List (Option (Option Value)) := [some none, some none, some none, some none, some none, some (some (.ref 82)), some (some (.ref 87)), some (some (.ref 94)), some (some (.ref 101)), some (some (.ref 117)), some (some (.ref 75)), some (some (.builtin "object.__setattr__"))]
noncomputable def obsT (K : Frag) : List (Option (Option Value)) := (["name", "count", "inputs", "outputs", "cells"] : List String).map (fun x => takerIn K 134 (Str.ofString x))
noncomputable def expT : List (Option (Option Value)) := List.replicate 5 (some none)
noncomputable def obsY (K : Frag) : List (Option Value) := ([75, 82, 87, 94, 101, 117] : List Addr).map (fun a => typeIn K (.ref a))
noncomputable def expY : List (Option Value) := List.replicate 6 (some (.type "function"))
noncomputable def obsB (K : Frag) : List Bool := [hasDictIn K 134, plainOver K 134, makesIn K 134, codeHdIn K 330 328]
noncomputable def expB : List Bool := List.replicate 4 true
noncomputable def expD : BindR := some fun _ a b c d e => some [(Str.ofString "self", a), (Str.ofString "out", b), (Str.ofString "kind", c), (Str.ofString "ins", d), (Str.ofString "param", e)]
noncomputable def obs9 (K : Frag) := (obsN K, obsF K, obsK K, obsP K, obsI K, obsT K, obsY K, obsB K, bindR K)
noncomputable def exp9 : List (Option (Option Value)) × List FnR × List Bool × List Bool × List (Option (Option Value)) × List (Option (Option Value)) × List (Option Value) × List Bool × BindR := (expN, expF, expK, expP, expI, expT, expY, expB, expD)
end Mine
end
section
open PySem PySem.W PyProof.Rows
set_option maxRecDepth 100000
set_option maxHeartbeats 8000000
namespace Mine
noncomputable def qv : Program := view PySem.Challenge.pw_sj0050_01 [0, 2, 3, 5, 6, 7, 8, 9, 10, 11, 12, 13, 15, 16, 17, 18, 19, 20, 21, 23, 24, 25, 26, 27, 28, 29, 30, 31, 32, 33, 34, 35, 36, 37, 38, 40, 41, 42, 43, 44, 45]
noncomputable abbrev lo : List Str := [Str.ofString "GateloomError"]
theorem t0 : OpenLaw.wellSaid PySem.Challenge.rw_sj0050_01 = true := by kernel_rfl
noncomputable def ads : List Addr := [2, 3, 15, 17, 18, 20, 21, 22, 29, 30, 32, 33, 35, 36, 37, 38, 39, 40, 43, 50, 51, 52, 55, 57, 58, 60, 61, 69, 71, 72, 74, 75, 76, 78, 79, 81, 82, 83, 86, 87, 88, 90, 91, 93, 94, 95, 97, 98, 100, 101, 102, 103, 105, 106, 108, 109, 110, 111, 113, 114, 116, 117, 118, 120, 121, 123, 124, 125, 127, 128, 130, 131, 132, 133, 134, 135, 136, 139, 141, 142, 144, 145, 146, 148, 149, 151, 152, 153, 155, 156, 158, 159, 160, 162, 163, 165, 166, 167, 169, 170, 172, 173, 174, 176, 177, 179, 180, 181, 183, 184, 186, 187, 188, 190, 191, 193, 194, 195, 197, 198, 200, 201, 202, 204, 205, 207, 208, 209, 211, 212, 214, 215, 216, 218, 219, 221, 222, 223, 225, 226, 228, 229, 230, 233, 234, 235, 237, 238, 240, 241, 242, 244, 245, 247, 248, 249, 251, 252, 254, 255, 256, 258, 259, 261, 262, 263, 265, 266, 268, 269, 270, 272, 273, 275, 276, 277, 279, 280, 282, 283, 284, 286, 287, 289, 290, 291, 294, 295, 296, 299, 300, 301, 303, 304, 306, 307, 308, 310, 311, 313, 314, 315, 317, 318, 320, 321, 322, 325, 326, 327, 330, 331, 332, 334, 335, 337, 338, 339, 342, 343, 344, 347, 348, 349, 352, 353, 354, 357, 358]
noncomputable def Kof (h : Heap) : Frag := ads.filterMap fun a => (h.get? a).map fun o => (a, o)
theorem fm_congr {α β : Type} {f g : α → Option β} {l : List α} (h : ∀ a ∈ l, f a = g a) : l.filterMap f = l.filterMap g := by
 induction l with
 | nil => rfl
 | cons a l ih => rw [List.filterMap_cons, List.filterMap_cons, h a (.head _), ih fun b hb => h b (.tail _ hb)]
noncomputable def hook : Hook where
 α := (List (Option (Option Value)) × List FnR × List Bool × List Bool × List (Option (Option Value)) × List (Option (Option Value)) × List (Option Value) × List Bool × BindR) × Bool × Bool × Option Obj
 obs := fun s => (obs9 (Kof s.heap), noTabs (Kof s.heap), ads.all fun a => (s.heap.get? a).isSome, s.heap.get? 328)
 val := fun _ => (exp9, true, true, some (tabObj #[]))
 says := fun _ h => (obs9 (Kof h) = exp9 ∧ noTabs (Kof h) = true) ∧ (∀ a ∈ ads, (h.get? a).isSome = true) ∧ h.get? 328 = some (tabObj #[])
 of := fun w s x => by
  have x1 := (Prod.mk.inj x).1
  have x0 := (Prod.mk.inj (Prod.mk.inj x).2).1
  have x2 := (Prod.mk.inj (Prod.mk.inj (Prod.mk.inj x).2).2).1
  have x3 := (Prod.mk.inj (Prod.mk.inj (Prod.mk.inj x).2).2).2
  exact ⟨⟨x1, x0⟩, fun a ha => List.all_eq_true.mp x2 a ha, x3⟩
 keeps := fun w h h' x k => by
  have e : Kof h' = Kof h := by
   unfold Kof
   refine fm_congr fun a ha => ?_
   obtain ⟨o, ho⟩ := Option.isSome_iff_exists.mp (x.2.1 a ha)
   rw [k a o ho, ho]
  refine ⟨e ▸ x.1, fun a ha => ?_, k _ _ x.2.2⟩
  obtain ⟨o, ho⟩ := Option.isSome_iff_exists.mp (x.2.1 a ha)
  rw [k a o ho]; rfl
theorem left : LeftO PySem.Challenge.pw_sj0050_01 qv lo (fun s => xlAt qv [] s && recOk (RowW.records PySem.Challenge.rw_sj0050_01.row.toRowW) s) hook.obs hook.val 4322 := fun w => by kernel_rfl
theorem mem_of_look {K : Frag} {a : Addr} {o : Obj} (e : K.lookup a = some o) : (a, o) ∈ K := by
 induction K with
 | nil => cases e
 | cons p r ih =>
  rw [List.lookup_cons] at e
  split at e
  ·next h => cases e; rw [beq_iff_eq] at h; subst h; exact .head _
  ·exact .tail _ (ih e)
theorem Kof_in {h : Heap} : (Kof h).In h := by
 intro a o e
 have hm := mem_of_look e
 unfold Kof at hm
 rw [List.mem_filterMap] at hm
 obtain ⟨a', _, e'⟩ := hm
 obtain ⟨o', ho', e2⟩ := Option.map_eq_some_iff.mp e'
 cases e2
 exact ho'
end Mine
end
section
open PySem PySem.W PyProof.Rows
set_option maxRecDepth 100000
set_option maxHeartbeats 800000
namespace Mine
structure Bd (S : Sur) : Prop where
 st : Stat S
 F : obs9 S.K = exp9
 cl : S.cl = 134
theorem fN {S} (b : Bd S) : obsN S.K = expN := congrArg (fun x => x.1) b.F
theorem fF {S} (b : Bd S) : obsF S.K = expF := congrArg (fun x => x.2.1) b.F
theorem fK {S} (b : Bd S) : obsK S.K = expK := congrArg (fun x => x.2.2.1) b.F
theorem fP {S} (b : Bd S) : obsP S.K = expP := congrArg (fun x => x.2.2.2.1) b.F
theorem fI {S} (b : Bd S) : obsI S.K = expI := congrArg (fun x => x.2.2.2.2.1) b.F
theorem fT {S} (b : Bd S) : obsT S.K = expT := congrArg (fun x => x.2.2.2.2.2.1) b.F
theorem fY {S} (b : Bd S) : obsY S.K = expY := congrArg (fun x => x.2.2.2.2.2.2.1) b.F
theorem fB {S} (b : Bd S) : obsB S.K = expB := congrArg (fun x => x.2.2.2.2.2.2.2.1) b.F
theorem fD {S} (b : Bd S) : bindR S.K = expD := by
 have h := b.F
 unfold obs9 exp9 at h
 simp only [Prod.mk.injEq] at h
 exact h.2.2.2.2.2.2.2.2
inductive HoR (K : Frag) (f c : Addr) (d : Dfn) (dV : Value) : Prop
 | mk (oc : Value) (od : Option Addr) (nm qual : Str) (doc pm : Value) (an : Option Addr) (ct : Value) (osl : Array (Option Value))
  (ho : K.lookup f = some ⟨oc, od, .func (fnOf nm qual d.1 d.2.1 d.2.2 dV .none doc pm an (.ref c) ct), osl⟩) (hcd : codeIn K (.ref c) qual = true)
section
variable {S : Sur} (b : Bd S) {n : Nat}
include b
theorem Bd.ho {f c : Addr} {d : Dfn} {dV : Value} (e : fnR S.K f = fnX0 d dV c) : HoR S.K f c d dV := by
 obtain ⟨oc, od, nm, qual, doc, pm, an, ct, osl, ho, hcd⟩ := fnR_ho e; exact ⟨oc, od, nm, qual, doc, pm, an, ct, osl, ho, hcd⟩
theorem Bd.CONST0 : nsIn S.K mainGlobals (Str.ofString "CONST0") = some (some (.int 0 250)) := (by exact (Option.some.inj (congrArg (fun l => l[35]?) (fN b))))
theorem Bd.CONST1 : nsIn S.K mainGlobals (Str.ofString "CONST1") = some (some (.int 1 252)) := (by exact (Option.some.inj (congrArg (fun l => l[36]?) (fN b))))
theorem Bd.no_range : nsIn S.K mainGlobals (Str.ofString "range") = some none := (by exact (Option.some.inj (congrArg (fun l => l[37]?) (fN b))))
theorem Bd.no_len : nsIn S.K mainGlobals (Str.ofString "len") = some none := (by exact (Option.some.inj (congrArg (fun l => l[38]?) (fN b))))
theorem Bd.no_list : nsIn S.K mainGlobals (Str.ofString "list") = some none := (by exact (Option.some.inj (congrArg (fun l => l[39]?) (fN b))))
theorem Bd.no_tuple : nsIn S.K mainGlobals (Str.ofString "tuple") = some none := (by exact (Option.some.inj (congrArg (fun l => l[40]?) (fN b))))
theorem Bd.no_dict : nsIn S.K mainGlobals (Str.ofString "dict") = some none := (by exact (Option.some.inj (congrArg (fun l => l[41]?) (fN b))))
theorem Bd.no_int : nsIn S.K mainGlobals (Str.ofString "int") = some none := (by exact (Option.some.inj (congrArg (fun l => l[42]?) (fN b))))
theorem Bd.no_abs : nsIn S.K mainGlobals (Str.ofString "abs") = some none := (by exact (Option.some.inj (congrArg (fun l => l[43]?) (fN b))))
theorem Bd.no_sum : nsIn S.K mainGlobals (Str.ofString "sum") = some none := (by exact (Option.some.inj (congrArg (fun l => l[44]?) (fN b))))
theorem Bd.cn_len : CN S n (Str.ofString "len") lenF := CN.built b.st b.no_len (f := .builtin "len") (by boot_fast) .builtin len_ok
theorem Bd.cn_list : CN S n (Str.ofString "list") listF := CN.built b.st b.no_list (f := .type "list") (by boot_fast) .type (list_ok b.st.C)
theorem Bd.cn_tuple : CN S n (Str.ofString "tuple") tupleF := CN.built b.st b.no_tuple (f := .type "tuple") (by boot_fast) .type (tuple_ok b.st.C)
theorem Bd.cn_dict : CN S n (Str.ofString "dict") dictF := CN.built b.st b.no_dict (f := .type "dict") (by boot_fast) .type (dict_ok b.st.C)
theorem Bd.cn_int : CN S n (Str.ofString "int") intF := CN.built b.st b.no_int (f := .type "int") (by boot_fast) .type int_ok
theorem Bd.cn_abs : CN S n (Str.ofString "abs") absF := CN.built b.st b.no_abs (f := .builtin "abs") (by boot_fast) .builtin abs_ok
theorem Bd.cn_sum : CN S n (Str.ofString "sum") sumF := CN.built b.st b.no_sum (f := .builtin "sum") (by boot_fast) .builtin sum_ok
theorem Bd.ao_name : AttrOk S "name" := ⟨(by rw [b.cl]; exact (Option.some.inj (congrArg (fun l => l[0]?) (fP b)))), (by rw [b.cl]; exact (Option.some.inj (congrArg (fun l => l[0]?) (fB b)))), (by rw [b.cl]; exact (Option.some.inj (congrArg (fun l => l[0]?) (fI b))))⟩
theorem Bd.ao_count : AttrOk S "count" := ⟨(by rw [b.cl]; exact (Option.some.inj (congrArg (fun l => l[1]?) (fP b)))), (by rw [b.cl]; exact (Option.some.inj (congrArg (fun l => l[0]?) (fB b)))), (by rw [b.cl]; exact (Option.some.inj (congrArg (fun l => l[1]?) (fI b))))⟩
theorem Bd.ao_inputs : AttrOk S "inputs" := ⟨(by rw [b.cl]; exact (Option.some.inj (congrArg (fun l => l[2]?) (fP b)))), (by rw [b.cl]; exact (Option.some.inj (congrArg (fun l => l[0]?) (fB b)))), (by rw [b.cl]; exact (Option.some.inj (congrArg (fun l => l[2]?) (fI b))))⟩
theorem Bd.ao_outputs : AttrOk S "outputs" := ⟨(by rw [b.cl]; exact (Option.some.inj (congrArg (fun l => l[3]?) (fP b)))), (by rw [b.cl]; exact (Option.some.inj (congrArg (fun l => l[0]?) (fB b)))), (by rw [b.cl]; exact (Option.some.inj (congrArg (fun l => l[3]?) (fI b))))⟩
theorem Bd.ao_cells : AttrOk S "cells" := ⟨(by rw [b.cl]; exact (Option.some.inj (congrArg (fun l => l[4]?) (fP b)))), (by rw [b.cl]; exact (Option.some.inj (congrArg (fun l => l[0]?) (fB b)))), (by rw [b.cl]; exact (Option.some.inj (congrArg (fun l => l[4]?) (fI b))))⟩
theorem Bd.as_name : AttrSt S "name" := ⟨(by rw [b.cl]; exact (Option.some.inj (congrArg (fun l => l[11]?) (fI b)))), (by rw [b.cl]; exact (Option.some.inj (congrArg (fun l => l[1]?) (fB b)))), (by rw [b.cl]; exact (Option.some.inj (congrArg (fun l => l[0]?) (fT b)))), (by rw [b.cl]; exact (Option.some.inj (congrArg (fun l => l[0]?) (fB b))))⟩
theorem Bd.as_count : AttrSt S "count" := ⟨(by rw [b.cl]; exact (Option.some.inj (congrArg (fun l => l[11]?) (fI b)))), (by rw [b.cl]; exact (Option.some.inj (congrArg (fun l => l[1]?) (fB b)))), (by rw [b.cl]; exact (Option.some.inj (congrArg (fun l => l[1]?) (fT b)))), (by rw [b.cl]; exact (Option.some.inj (congrArg (fun l => l[0]?) (fB b))))⟩
theorem Bd.as_inputs : AttrSt S "inputs" := ⟨(by rw [b.cl]; exact (Option.some.inj (congrArg (fun l => l[11]?) (fI b)))), (by rw [b.cl]; exact (Option.some.inj (congrArg (fun l => l[1]?) (fB b)))), (by rw [b.cl]; exact (Option.some.inj (congrArg (fun l => l[2]?) (fT b)))), (by rw [b.cl]; exact (Option.some.inj (congrArg (fun l => l[0]?) (fB b))))⟩
theorem Bd.as_outputs : AttrSt S "outputs" := ⟨(by rw [b.cl]; exact (Option.some.inj (congrArg (fun l => l[11]?) (fI b)))), (by rw [b.cl]; exact (Option.some.inj (congrArg (fun l => l[1]?) (fB b)))), (by rw [b.cl]; exact (Option.some.inj (congrArg (fun l => l[3]?) (fT b)))), (by rw [b.cl]; exact (Option.some.inj (congrArg (fun l => l[0]?) (fB b))))⟩
theorem Bd.as_cells : AttrSt S "cells" := ⟨(by rw [b.cl]; exact (Option.some.inj (congrArg (fun l => l[11]?) (fI b)))), (by rw [b.cl]; exact (Option.some.inj (congrArg (fun l => l[1]?) (fB b)))), (by rw [b.cl]; exact (Option.some.inj (congrArg (fun l => l[4]?) (fT b)))), (by rw [b.cl]; exact (Option.some.inj (congrArg (fun l => l[0]?) (fB b))))⟩
end
end Mine
end
section
open PySem PySem.W PyProof.Rows
set_option maxRecDepth 100000
set_option maxHeartbeats 800000
namespace Mine
section
variable {S : Sur} (b : Bd S) {n : Nat}
noncomputable def bw_is_state_kind : BW := seqBW (retBW (orW (cmpW .Eq (nameW 0) (constW (.str "flop"))) (cmpW .Eq (nameW 0) (constW (.str "latch"))))) (nextBW)
noncomputable def f_is_state_kind : FW := defF 1 1 bw_is_state_kind
theorem Bd.fc_is_state_kind (b : Bd S) : FnP S 1 (.ref 61) f_is_state_kind := by
 have hS := b.st
 have hC := hS.C
 obtain ⟨oc, od, nm, qual, doc, pm, an, ct, osl, ho, hcd⟩ := b.ho (Option.some.inj (congrArg (fun l => l[0]?) (fF b)))
 refine' fnp_def (n := 0) (k := 1) (m := 1) (W := bw_is_state_kind) (ps := [Str.ofString "kind"]) hS (f := 61) (ho := ho) (hcd := hcd) (ok := ?ok) (hk := rfl) (hm := ?hm) (hb := ?hb) (h := ?h)
 case ok => kernel_rfl
 case hm => kernel_rfl
 case hb => intro xs hx; obtain ⟨a0, rfl⟩ := len1 hx; kernel_rfl
 case h => exact PB.cons (PS.ret hC (PE.or hC (PE.cmp hC (PE.nl (by kernel_rfl)) (PE.str)) (PE.bool1 (PE.cmp hC (PE.nl (by kernel_rfl)) (PE.str))))) (PB.nil)
theorem Bd.cn_is_state_kind (b : Bd S) : CN S 1 (Str.ofString "is_state_kind") f_is_state_kind := cn_fn b.st (f := .ref 61) (by exact (Option.some.inj (congrArg (fun l => l[0]?) (fN b)))) (by exact (Option.some.inj (congrArg (fun l => l[0]?) (fK b)))) (Bd.fc_is_state_kind b)
noncomputable def bw_full_table : BW := seqBW (retBW (binW .Sub (binW .LShift (constW (.int 1)) (binW .LShift (constW (.int 1)) (nameW 0))) (constW (.int 1)))) (nextBW)
noncomputable def f_full_table : FW := defF 1 1 bw_full_table
theorem Bd.fc_full_table (b : Bd S) : FnP S 1 (.ref 180) f_full_table := by
 have hS := b.st
 have hC := hS.C
 obtain ⟨oc, od, nm, qual, doc, pm, an, ct, osl, ho, hcd⟩ := b.ho (Option.some.inj (congrArg (fun l => l[6]?) (fF b)))
 refine' fnp_def (n := 0) (k := 1) (m := 1) (W := bw_full_table) (ps := [Str.ofString "k"]) hS (f := 180) (ho := ho) (hcd := hcd) (ok := ?ok) (hk := rfl) (hm := ?hm) (hb := ?hb) (h := ?h)
 case ok => kernel_rfl
 case hm => kernel_rfl
 case hb => intro xs hx; obtain ⟨a0, rfl⟩ := len1 hx; kernel_rfl
 case h => exact PB.cons (PS.ret hC (PE.bin hC (PE.bin hC (PE.int) (PE.bin hC (PE.int) (PE.nl (by kernel_rfl)))) (PE.int))) (PB.nil)
theorem Bd.cn_full_table (b : Bd S) : CN S 1 (Str.ofString "full_table") f_full_table := cn_fn b.st (f := .ref 180) (by exact (Option.some.inj (congrArg (fun l => l[6]?) (fN b)))) (by exact (Option.some.inj (congrArg (fun l => l[6]?) (fK b)))) (Bd.fc_full_table b)
noncomputable def bw_and_form : BW := seqBW (ifBW (orTW (cmpTW .Eq (nameW 0) (constW (.int 0))) (orTW (cmpTW .Eq (nameW 1) (constW (.int 0))) (orTW (plainTW (nameW 2)) (trueTW false)))) (seqBW (retBW (tupW (consW (constW (.str "buf")) (consW (tupW (consW (constW (.int 0)) (nilW))) (nilW))))) (nextBW)) (nextBW)) (seqBW (ifBW (orTW (cmpTW .Eq (nameW 0) (constW (.int 1))) (orTW (cmpTW .Eq (nameW 0) (nameW 1)) (trueTW false))) (seqBW (retBW (tupW (consW (constW (.str "buf")) (consW (tupW (consW (nameW 1) (nilW))) (nilW))))) (nextBW)) (nextBW)) (seqBW (ifBW (cmpTW .Eq (nameW 1) (constW (.int 1))) (seqBW (retBW (tupW (consW (constW (.str "buf")) (consW (tupW (consW (nameW 0) (nilW))) (nilW))))) (nextBW)) (nextBW)) (seqBW (retBW (tupW (consW (constW (.str "and")) (consW (tupW (consW (nameW 0) (consW (nameW 1) (nilW)))) (nilW))))) (nextBW))))
noncomputable def f_and_form : FW := defF 3 3 bw_and_form
theorem Bd.fc_and_form (b : Bd S) : FnP S 1 (.ref 248) f_and_form := by
 have hS := b.st
 have hC := hS.C
 obtain ⟨oc, od, nm, qual, doc, pm, an, ct, osl, ho, hcd⟩ := b.ho (Option.some.inj (congrArg (fun l => l[16]?) (fF b)))
 refine' fnp_def (n := 0) (k := 3) (m := 3) (W := bw_and_form) (ps := [Str.ofString "a", Str.ofString "b", Str.ofString "opposite"]) hS (f := 248) (ho := ho) (hcd := hcd) (ok := ?ok) (hk := rfl) (hm := ?hm) (hb := ?hb) (h := ?h)
 case ok => kernel_rfl
 case hm => kernel_rfl
 case hb => intro xs hx; obtain ⟨a0, a1, a2, rfl⟩ := len3 hx; kernel_rfl
 case h => exact PB.cons (PS.ite hC (PT.or hC (PT.cmp hC (PE.nl (by kernel_rfl)) (PE.int)) (PT.or hC (PT.cmp hC (PE.nl (by kernel_rfl)) (PE.int)) (PT.or hC (PT.plain hC (PE.nl (by kernel_rfl))) (PT.or0)))) (PB.cons (PS.ret hC (PE.tup hC (PEs.cons hC (PE.str) (PEs.cons hC (PE.tup hC (PEs.cons hC (PE.int) (PEs.nil))) (PEs.nil))))) (PB.nil)) (PB.nil)) (PB.cons (PS.ite hC (PT.or hC (PT.cmp hC (PE.nl (by kernel_rfl)) (PE.int)) (PT.or hC (PT.cmp hC (PE.nl (by kernel_rfl)) (PE.nl (by kernel_rfl))) (PT.or0))) (PB.cons (PS.ret hC (PE.tup hC (PEs.cons hC (PE.str) (PEs.cons hC (PE.tup hC (PEs.cons hC (PE.nl (by kernel_rfl)) (PEs.nil))) (PEs.nil))))) (PB.nil)) (PB.nil)) (PB.cons (PS.ite hC (PT.cmp hC (PE.nl (by kernel_rfl)) (PE.int)) (PB.cons (PS.ret hC (PE.tup hC (PEs.cons hC (PE.str) (PEs.cons hC (PE.tup hC (PEs.cons hC (PE.nl (by kernel_rfl)) (PEs.nil))) (PEs.nil))))) (PB.nil)) (PB.nil)) (PB.cons (PS.ret hC (PE.tup hC (PEs.cons hC (PE.str) (PEs.cons hC (PE.tup hC (PEs.cons hC (PE.nl (by kernel_rfl)) (PEs.cons hC (PE.nl (by kernel_rfl)) (PEs.nil)))) (PEs.nil))))) (PB.nil))))
theorem Bd.cn_and_form (b : Bd S) : CN S 1 (Str.ofString "and_form") f_and_form := cn_fn b.st (f := .ref 248) (by exact (Option.some.inj (congrArg (fun l => l[16]?) (fN b)))) (by exact (Option.some.inj (congrArg (fun l => l[16]?) (fK b)))) (Bd.fc_and_form b)
noncomputable def bw_or_form : BW := seqBW (ifBW (orTW (cmpTW .Eq (nameW 0) (constW (.int 1))) (orTW (cmpTW .Eq (nameW 1) (constW (.int 1))) (orTW (plainTW (nameW 2)) (trueTW false)))) (seqBW (retBW (tupW (consW (constW (.str "buf")) (consW (tupW (consW (constW (.int 1)) (nilW))) (nilW))))) (nextBW)) (nextBW)) (seqBW (ifBW (orTW (cmpTW .Eq (nameW 0) (constW (.int 0))) (orTW (cmpTW .Eq (nameW 0) (nameW 1)) (trueTW false))) (seqBW (retBW (tupW (consW (constW (.str "buf")) (consW (tupW (consW (nameW 1) (nilW))) (nilW))))) (nextBW)) (nextBW)) (seqBW (ifBW (cmpTW .Eq (nameW 1) (constW (.int 0))) (seqBW (retBW (tupW (consW (constW (.str "buf")) (consW (tupW (consW (nameW 0) (nilW))) (nilW))))) (nextBW)) (nextBW)) (seqBW (retBW (tupW (consW (constW (.str "or")) (consW (tupW (consW (nameW 0) (consW (nameW 1) (nilW)))) (nilW))))) (nextBW))))
noncomputable def f_or_form : FW := defF 3 3 bw_or_form
theorem Bd.fc_or_form (b : Bd S) : FnP S 1 (.ref 255) f_or_form := by
 have hS := b.st
 have hC := hS.C
 obtain ⟨oc, od, nm, qual, doc, pm, an, ct, osl, ho, hcd⟩ := b.ho (Option.some.inj (congrArg (fun l => l[17]?) (fF b)))
 refine' fnp_def (n := 0) (k := 3) (m := 3) (W := bw_or_form) (ps := [Str.ofString "a", Str.ofString "b", Str.ofString "opposite"]) hS (f := 255) (ho := ho) (hcd := hcd) (ok := ?ok) (hk := rfl) (hm := ?hm) (hb := ?hb) (h := ?h)
 case ok => kernel_rfl
 case hm => kernel_rfl
 case hb => intro xs hx; obtain ⟨a0, a1, a2, rfl⟩ := len3 hx; kernel_rfl
 case h => exact PB.cons (PS.ite hC (PT.or hC (PT.cmp hC (PE.nl (by kernel_rfl)) (PE.int)) (PT.or hC (PT.cmp hC (PE.nl (by kernel_rfl)) (PE.int)) (PT.or hC (PT.plain hC (PE.nl (by kernel_rfl))) (PT.or0)))) (PB.cons (PS.ret hC (PE.tup hC (PEs.cons hC (PE.str) (PEs.cons hC (PE.tup hC (PEs.cons hC (PE.int) (PEs.nil))) (PEs.nil))))) (PB.nil)) (PB.nil)) (PB.cons (PS.ite hC (PT.or hC (PT.cmp hC (PE.nl (by kernel_rfl)) (PE.int)) (PT.or hC (PT.cmp hC (PE.nl (by kernel_rfl)) (PE.nl (by kernel_rfl))) (PT.or0))) (PB.cons (PS.ret hC (PE.tup hC (PEs.cons hC (PE.str) (PEs.cons hC (PE.tup hC (PEs.cons hC (PE.nl (by kernel_rfl)) (PEs.nil))) (PEs.nil))))) (PB.nil)) (PB.nil)) (PB.cons (PS.ite hC (PT.cmp hC (PE.nl (by kernel_rfl)) (PE.int)) (PB.cons (PS.ret hC (PE.tup hC (PEs.cons hC (PE.str) (PEs.cons hC (PE.tup hC (PEs.cons hC (PE.nl (by kernel_rfl)) (PEs.nil))) (PEs.nil))))) (PB.nil)) (PB.nil)) (PB.cons (PS.ret hC (PE.tup hC (PEs.cons hC (PE.str) (PEs.cons hC (PE.tup hC (PEs.cons hC (PE.nl (by kernel_rfl)) (PEs.cons hC (PE.nl (by kernel_rfl)) (PEs.nil)))) (PEs.nil))))) (PB.nil))))
theorem Bd.cn_or_form (b : Bd S) : CN S 1 (Str.ofString "or_form") f_or_form := cn_fn b.st (f := .ref 255) (by exact (Option.some.inj (congrArg (fun l => l[17]?) (fN b)))) (by exact (Option.some.inj (congrArg (fun l => l[17]?) (fK b)))) (Bd.fc_or_form b)
noncomputable def bw_xor_form : BW := seqBW (ifBW (cmpTW .Eq (nameW 0) (nameW 1)) (seqBW (retBW (tupW (consW (constW (.str "buf")) (consW (tupW (consW (constW (.int 0)) (nilW))) (nilW))))) (nextBW)) (nextBW)) (seqBW (ifBW (plainTW (nameW 2)) (seqBW (retBW (tupW (consW (constW (.str "buf")) (consW (tupW (consW (constW (.int 1)) (nilW))) (nilW))))) (nextBW)) (nextBW)) (seqBW (ifBW (cmpTW .Eq (nameW 0) (constW (.int 0))) (seqBW (retBW (tupW (consW (constW (.str "buf")) (consW (tupW (consW (nameW 1) (nilW))) (nilW))))) (nextBW)) (nextBW)) (seqBW (ifBW (cmpTW .Eq (nameW 1) (constW (.int 0))) (seqBW (retBW (tupW (consW (constW (.str "buf")) (consW (tupW (consW (nameW 0) (nilW))) (nilW))))) (nextBW)) (nextBW)) (seqBW (ifBW (cmpTW .Eq (nameW 0) (constW (.int 1))) (seqBW (retBW (tupW (consW (constW (.str "not")) (consW (tupW (consW (nameW 1) (nilW))) (nilW))))) (nextBW)) (nextBW)) (seqBW (ifBW (cmpTW .Eq (nameW 1) (constW (.int 1))) (seqBW (retBW (tupW (consW (constW (.str "not")) (consW (tupW (consW (nameW 0) (nilW))) (nilW))))) (nextBW)) (nextBW)) (seqBW (retBW (tupW (consW (constW (.str "xor")) (consW (tupW (consW (nameW 0) (consW (nameW 1) (nilW)))) (nilW))))) (nextBW)))))))
noncomputable def f_xor_form : FW := defF 3 3 bw_xor_form
theorem Bd.fc_xor_form (b : Bd S) : FnP S 1 (.ref 262) f_xor_form := by
 have hS := b.st
 have hC := hS.C
 obtain ⟨oc, od, nm, qual, doc, pm, an, ct, osl, ho, hcd⟩ := b.ho (Option.some.inj (congrArg (fun l => l[18]?) (fF b)))
 refine' fnp_def (n := 0) (k := 3) (m := 3) (W := bw_xor_form) (ps := [Str.ofString "a", Str.ofString "b", Str.ofString "opposite"]) hS (f := 262) (ho := ho) (hcd := hcd) (ok := ?ok) (hk := rfl) (hm := ?hm) (hb := ?hb) (h := ?h)
 case ok => kernel_rfl
 case hm => kernel_rfl
 case hb => intro xs hx; obtain ⟨a0, a1, a2, rfl⟩ := len3 hx; kernel_rfl
 case h => exact PB.cons (PS.ite hC (PT.cmp hC (PE.nl (by kernel_rfl)) (PE.nl (by kernel_rfl))) (PB.cons (PS.ret hC (PE.tup hC (PEs.cons hC (PE.str) (PEs.cons hC (PE.tup hC (PEs.cons hC (PE.int) (PEs.nil))) (PEs.nil))))) (PB.nil)) (PB.nil)) (PB.cons (PS.ite hC (PT.plain hC (PE.nl (by kernel_rfl))) (PB.cons (PS.ret hC (PE.tup hC (PEs.cons hC (PE.str) (PEs.cons hC (PE.tup hC (PEs.cons hC (PE.int) (PEs.nil))) (PEs.nil))))) (PB.nil)) (PB.nil)) (PB.cons (PS.ite hC (PT.cmp hC (PE.nl (by kernel_rfl)) (PE.int)) (PB.cons (PS.ret hC (PE.tup hC (PEs.cons hC (PE.str) (PEs.cons hC (PE.tup hC (PEs.cons hC (PE.nl (by kernel_rfl)) (PEs.nil))) (PEs.nil))))) (PB.nil)) (PB.nil)) (PB.cons (PS.ite hC (PT.cmp hC (PE.nl (by kernel_rfl)) (PE.int)) (PB.cons (PS.ret hC (PE.tup hC (PEs.cons hC (PE.str) (PEs.cons hC (PE.tup hC (PEs.cons hC (PE.nl (by kernel_rfl)) (PEs.nil))) (PEs.nil))))) (PB.nil)) (PB.nil)) (PB.cons (PS.ite hC (PT.cmp hC (PE.nl (by kernel_rfl)) (PE.int)) (PB.cons (PS.ret hC (PE.tup hC (PEs.cons hC (PE.str) (PEs.cons hC (PE.tup hC (PEs.cons hC (PE.nl (by kernel_rfl)) (PEs.nil))) (PEs.nil))))) (PB.nil)) (PB.nil)) (PB.cons (PS.ite hC (PT.cmp hC (PE.nl (by kernel_rfl)) (PE.int)) (PB.cons (PS.ret hC (PE.tup hC (PEs.cons hC (PE.str) (PEs.cons hC (PE.tup hC (PEs.cons hC (PE.nl (by kernel_rfl)) (PEs.nil))) (PEs.nil))))) (PB.nil)) (PB.nil)) (PB.cons (PS.ret hC (PE.tup hC (PEs.cons hC (PE.str) (PEs.cons hC (PE.tup hC (PEs.cons hC (PE.nl (by kernel_rfl)) (PEs.cons hC (PE.nl (by kernel_rfl)) (PEs.nil)))) (PEs.nil))))) (PB.nil)))))))
theorem Bd.cn_xor_form (b : Bd S) : CN S 1 (Str.ofString "xor_form") f_xor_form := cn_fn b.st (f := .ref 262) (by exact (Option.some.inj (congrArg (fun l => l[18]?) (fN b)))) (by exact (Option.some.inj (congrArg (fun l => l[18]?) (fK b)))) (Bd.fc_xor_form b)
noncomputable def bw_turned_form : BW := seqBW (asgBW (nameW 0) (tupA 2 (consAs (nameA 1) (consAs (nameA 2) (nilAs))))) (seqBW (ifBW (cmpTW .Eq (nameW 1) (constW (.str "buf"))) (seqBW (ifBW (orTW (cmpTW .Eq (subW (nameW 2) (constW (.int 0))) (constW (.int 0))) (orTW (cmpTW .Eq (subW (nameW 2) (constW (.int 0))) (constW (.int 1))) (trueTW false))) (seqBW (retBW (tupW (consW (constW (.str "buf")) (consW (tupW (consW (binW .Sub (constW (.int 1)) (subW (nameW 2) (constW (.int 0)))) (nilW))) (nilW))))) (nextBW)) (nextBW)) (seqBW (retBW (tupW (consW (constW (.str "not")) (consW (nameW 2) (nilW))))) (nextBW))) (nextBW)) (seqBW (ifBW (cmpTW .Eq (nameW 1) (constW (.str "not"))) (seqBW (retBW (tupW (consW (constW (.str "buf")) (consW (nameW 2) (nilW))))) (nextBW)) (nextBW)) (seqBW (ifBW (cmpTW .Eq (nameW 1) (constW (.str "and"))) (seqBW (retBW (tupW (consW (constW (.str "nand")) (consW (nameW 2) (nilW))))) (nextBW)) (nextBW)) (seqBW (ifBW (cmpTW .Eq (nameW 1) (constW (.str "or"))) (seqBW (retBW (tupW (consW (constW (.str "nor")) (consW (nameW 2) (nilW))))) (nextBW)) (nextBW)) (seqBW (retBW (tupW (consW (constW (.str "xnor")) (consW (nameW 2) (nilW))))) (nextBW))))))
noncomputable def f_turned_form : FW := defF 1 3 bw_turned_form
theorem Bd.fc_turned_form (b : Bd S) : FnP S 1 (.ref 269) f_turned_form := by
 have hS := b.st
 have hC := hS.C
 obtain ⟨oc, od, nm, qual, doc, pm, an, ct, osl, ho, hcd⟩ := b.ho (Option.some.inj (congrArg (fun l => l[19]?) (fF b)))
 refine' fnp_def (n := 0) (k := 1) (m := 3) (W := bw_turned_form) (ps := [Str.ofString "form"]) hS (f := 269) (ho := ho) (hcd := hcd) (ok := ?ok) (hk := rfl) (hm := ?hm) (hb := ?hb) (h := ?h)
 case ok => kernel_rfl
 case hm => kernel_rfl
 case hb => intro xs hx; obtain ⟨a0, rfl⟩ := len1 hx; kernel_rfl
 case h => exact PB.cons (PS.asg hC (PE.nl (by kernel_rfl)) (PA.tup hC (PAs.cons hC (PA.nl (by kernel_rfl)) (PAs.cons hC (PA.nl (by kernel_rfl)) (PAs.nil))))) (PB.cons (PS.ite hC (PT.cmp hC (PE.nl (by kernel_rfl)) (PE.str)) (PB.cons (PS.ite hC (PT.or hC (PT.cmp hC (PE.sub hC (PE.nl (by kernel_rfl)) (PE.int)) (PE.int)) (PT.or hC (PT.cmp hC (PE.sub hC (PE.nl (by kernel_rfl)) (PE.int)) (PE.int)) (PT.or0))) (PB.cons (PS.ret hC (PE.tup hC (PEs.cons hC (PE.str) (PEs.cons hC (PE.tup hC (PEs.cons hC (PE.bin hC (PE.int) (PE.sub hC (PE.nl (by kernel_rfl)) (PE.int))) (PEs.nil))) (PEs.nil))))) (PB.nil)) (PB.nil)) (PB.cons (PS.ret hC (PE.tup hC (PEs.cons hC (PE.str) (PEs.cons hC (PE.nl (by kernel_rfl)) (PEs.nil))))) (PB.nil))) (PB.nil)) (PB.cons (PS.ite hC (PT.cmp hC (PE.nl (by kernel_rfl)) (PE.str)) (PB.cons (PS.ret hC (PE.tup hC (PEs.cons hC (PE.str) (PEs.cons hC (PE.nl (by kernel_rfl)) (PEs.nil))))) (PB.nil)) (PB.nil)) (PB.cons (PS.ite hC (PT.cmp hC (PE.nl (by kernel_rfl)) (PE.str)) (PB.cons (PS.ret hC (PE.tup hC (PEs.cons hC (PE.str) (PEs.cons hC (PE.nl (by kernel_rfl)) (PEs.nil))))) (PB.nil)) (PB.nil)) (PB.cons (PS.ite hC (PT.cmp hC (PE.nl (by kernel_rfl)) (PE.str)) (PB.cons (PS.ret hC (PE.tup hC (PEs.cons hC (PE.str) (PEs.cons hC (PE.nl (by kernel_rfl)) (PEs.nil))))) (PB.nil)) (PB.nil)) (PB.cons (PS.ret hC (PE.tup hC (PEs.cons hC (PE.str) (PEs.cons hC (PE.nl (by kernel_rfl)) (PEs.nil))))) (PB.nil))))))
theorem Bd.cn_turned_form (b : Bd S) : CN S 1 (Str.ofString "turned_form") f_turned_form := cn_fn b.st (f := .ref 269) (by exact (Option.some.inj (congrArg (fun l => l[19]?) (fN b)))) (by exact (Option.some.inj (congrArg (fun l => l[19]?) (fK b)))) (Bd.fc_turned_form b)
noncomputable def bw_gate_form : BW := seqBW (ifBW (cmpTW .Eq (nameW 0) (constW (.str "and"))) (seqBW (retBW (callW (consW (nameW 1) (consW (nameW 2) (consW (nameW 3) (nilW)))) f_and_form)) (nextBW)) (nextBW)) (seqBW (ifBW (cmpTW .Eq (nameW 0) (constW (.str "nand"))) (seqBW (retBW (callW (consW (callW (consW (nameW 1) (consW (nameW 2) (consW (nameW 3) (nilW)))) f_and_form) (nilW)) f_turned_form)) (nextBW)) (nextBW)) (seqBW (ifBW (cmpTW .Eq (nameW 0) (constW (.str "or"))) (seqBW (retBW (callW (consW (nameW 1) (consW (nameW 2) (consW (nameW 3) (nilW)))) f_or_form)) (nextBW)) (nextBW)) (seqBW (ifBW (cmpTW .Eq (nameW 0) (constW (.str "nor"))) (seqBW (retBW (callW (consW (callW (consW (nameW 1) (consW (nameW 2) (consW (nameW 3) (nilW)))) f_or_form) (nilW)) f_turned_form)) (nextBW)) (nextBW)) (seqBW (ifBW (cmpTW .Eq (nameW 0) (constW (.str "xor"))) (seqBW (retBW (callW (consW (nameW 1) (consW (nameW 2) (consW (nameW 3) (nilW)))) f_xor_form)) (nextBW)) (nextBW)) (seqBW (retBW (callW (consW (callW (consW (nameW 1) (consW (nameW 2) (consW (nameW 3) (nilW)))) f_xor_form) (nilW)) f_turned_form)) (nextBW))))))
noncomputable def f_gate_form : FW := defF 4 8 bw_gate_form
theorem Bd.fc_gate_form (b : Bd S) : FnP S 2 (.ref 276) f_gate_form := by
 have hS := b.st
 have hC := hS.C
 obtain ⟨oc, od, nm, qual, doc, pm, an, ct, osl, ho, hcd⟩ := b.ho (Option.some.inj (congrArg (fun l => l[20]?) (fF b)))
 refine' fnp_def (n := 1) (k := 4) (m := 8) (W := bw_gate_form) (ps := [Str.ofString "kind", Str.ofString "a", Str.ofString "b", Str.ofString "opposite"]) hS (f := 276) (ho := ho) (hcd := hcd) (ok := ?ok) (hk := rfl) (hm := ?hm) (hb := ?hb) (h := ?h)
 case ok => kernel_rfl
 case hm => kernel_rfl
 case hb => intro xs hx; obtain ⟨a0, a1, a2, a3, rfl⟩ := len4 hx; kernel_rfl
 case h => exact PB.cons (PS.ite hC (PT.cmp hC (PE.nl (by kernel_rfl)) (PE.str)) (PB.cons (PS.ret hC (PE.call hS (i := 4) (by kernel_rfl) (b.cn_and_form.le (by decide)) (PEs.cons hC (PE.nl (by kernel_rfl)) (PEs.cons hC (PE.nl (by kernel_rfl)) (PEs.cons hC (PE.nl (by kernel_rfl)) (PEs.nil)))))) (PB.nil)) (PB.nil)) (PB.cons (PS.ite hC (PT.cmp hC (PE.nl (by kernel_rfl)) (PE.str)) (PB.cons (PS.ret hC (PE.call hS (i := 5) (by kernel_rfl) (b.cn_turned_form.le (by decide)) (PEs.cons hC (PE.call hS (i := 4) (by kernel_rfl) (b.cn_and_form.le (by decide)) (PEs.cons hC (PE.nl (by kernel_rfl)) (PEs.cons hC (PE.nl (by kernel_rfl)) (PEs.cons hC (PE.nl (by kernel_rfl)) (PEs.nil))))) (PEs.nil)))) (PB.nil)) (PB.nil)) (PB.cons (PS.ite hC (PT.cmp hC (PE.nl (by kernel_rfl)) (PE.str)) (PB.cons (PS.ret hC (PE.call hS (i := 6) (by kernel_rfl) (b.cn_or_form.le (by decide)) (PEs.cons hC (PE.nl (by kernel_rfl)) (PEs.cons hC (PE.nl (by kernel_rfl)) (PEs.cons hC (PE.nl (by kernel_rfl)) (PEs.nil)))))) (PB.nil)) (PB.nil)) (PB.cons (PS.ite hC (PT.cmp hC (PE.nl (by kernel_rfl)) (PE.str)) (PB.cons (PS.ret hC (PE.call hS (i := 5) (by kernel_rfl) (b.cn_turned_form.le (by decide)) (PEs.cons hC (PE.call hS (i := 6) (by kernel_rfl) (b.cn_or_form.le (by decide)) (PEs.cons hC (PE.nl (by kernel_rfl)) (PEs.cons hC (PE.nl (by kernel_rfl)) (PEs.cons hC (PE.nl (by kernel_rfl)) (PEs.nil))))) (PEs.nil)))) (PB.nil)) (PB.nil)) (PB.cons (PS.ite hC (PT.cmp hC (PE.nl (by kernel_rfl)) (PE.str)) (PB.cons (PS.ret hC (PE.call hS (i := 7) (by kernel_rfl) (b.cn_xor_form.le (by decide)) (PEs.cons hC (PE.nl (by kernel_rfl)) (PEs.cons hC (PE.nl (by kernel_rfl)) (PEs.cons hC (PE.nl (by kernel_rfl)) (PEs.nil)))))) (PB.nil)) (PB.nil)) (PB.cons (PS.ret hC (PE.call hS (i := 5) (by kernel_rfl) (b.cn_turned_form.le (by decide)) (PEs.cons hC (PE.call hS (i := 7) (by kernel_rfl) (b.cn_xor_form.le (by decide)) (PEs.cons hC (PE.nl (by kernel_rfl)) (PEs.cons hC (PE.nl (by kernel_rfl)) (PEs.cons hC (PE.nl (by kernel_rfl)) (PEs.nil))))) (PEs.nil)))) (PB.nil))))))
theorem Bd.cn_gate_form (b : Bd S) : CN S 2 (Str.ofString "gate_form") f_gate_form := cn_fn b.st (f := .ref 276) (by exact (Option.some.inj (congrArg (fun l => l[20]?) (fN b)))) (by exact (Option.some.inj (congrArg (fun l => l[20]?) (fK b)))) (Bd.fc_gate_form b)
noncomputable def bw_select_form : BW := seqBW (ifBW (orTW (cmpTW .Eq (nameW 0) (constW (.int 0))) (orTW (cmpTW .Eq (nameW 1) (nameW 2)) (trueTW false))) (seqBW (retBW (tupW (consW (constW (.str "buf")) (consW (tupW (consW (nameW 1) (nilW))) (nilW))))) (nextBW)) (nextBW)) (seqBW (ifBW (cmpTW .Eq (nameW 0) (constW (.int 1))) (seqBW (retBW (tupW (consW (constW (.str "buf")) (consW (tupW (consW (nameW 2) (nilW))) (nilW))))) (nextBW)) (nextBW)) (seqBW (ifBW (andTW (cmpTW .Eq (nameW 1) (constW (.int 0))) (andTW (cmpTW .Eq (nameW 2) (constW (.int 1))) (trueTW true))) (seqBW (retBW (tupW (consW (constW (.str "buf")) (consW (tupW (consW (nameW 0) (nilW))) (nilW))))) (nextBW)) (nextBW)) (seqBW (ifBW (andTW (cmpTW .Eq (nameW 1) (constW (.int 1))) (andTW (cmpTW .Eq (nameW 2) (constW (.int 0))) (trueTW true))) (seqBW (retBW (tupW (consW (constW (.str "not")) (consW (tupW (consW (nameW 0) (nilW))) (nilW))))) (nextBW)) (nextBW)) (seqBW (retBW (tupW (consW (constW (.str "mux")) (consW (tupW (consW (nameW 0) (consW (nameW 1) (consW (nameW 2) (nilW))))) (nilW))))) (nextBW)))))
noncomputable def f_select_form : FW := defF 3 3 bw_select_form
theorem Bd.fc_select_form (b : Bd S) : FnP S 1 (.ref 283) f_select_form := by
 have hS := b.st
 have hC := hS.C
 obtain ⟨oc, od, nm, qual, doc, pm, an, ct, osl, ho, hcd⟩ := b.ho (Option.some.inj (congrArg (fun l => l[21]?) (fF b)))
 refine' fnp_def (n := 0) (k := 3) (m := 3) (W := bw_select_form) (ps := [Str.ofString "s", Str.ofString "a", Str.ofString "b"]) hS (f := 283) (ho := ho) (hcd := hcd) (ok := ?ok) (hk := rfl) (hm := ?hm) (hb := ?hb) (h := ?h)
 case ok => kernel_rfl
 case hm => kernel_rfl
 case hb => intro xs hx; obtain ⟨a0, a1, a2, rfl⟩ := len3 hx; kernel_rfl
 case h => exact PB.cons (PS.ite hC (PT.or hC (PT.cmp hC (PE.nl (by kernel_rfl)) (PE.int)) (PT.or hC (PT.cmp hC (PE.nl (by kernel_rfl)) (PE.nl (by kernel_rfl))) (PT.or0))) (PB.cons (PS.ret hC (PE.tup hC (PEs.cons hC (PE.str) (PEs.cons hC (PE.tup hC (PEs.cons hC (PE.nl (by kernel_rfl)) (PEs.nil))) (PEs.nil))))) (PB.nil)) (PB.nil)) (PB.cons (PS.ite hC (PT.cmp hC (PE.nl (by kernel_rfl)) (PE.int)) (PB.cons (PS.ret hC (PE.tup hC (PEs.cons hC (PE.str) (PEs.cons hC (PE.tup hC (PEs.cons hC (PE.nl (by kernel_rfl)) (PEs.nil))) (PEs.nil))))) (PB.nil)) (PB.nil)) (PB.cons (PS.ite hC (PT.and hC (PT.cmp hC (PE.nl (by kernel_rfl)) (PE.int)) (PT.and hC (PT.cmp hC (PE.nl (by kernel_rfl)) (PE.int)) (PT.and0))) (PB.cons (PS.ret hC (PE.tup hC (PEs.cons hC (PE.str) (PEs.cons hC (PE.tup hC (PEs.cons hC (PE.nl (by kernel_rfl)) (PEs.nil))) (PEs.nil))))) (PB.nil)) (PB.nil)) (PB.cons (PS.ite hC (PT.and hC (PT.cmp hC (PE.nl (by kernel_rfl)) (PE.int)) (PT.and hC (PT.cmp hC (PE.nl (by kernel_rfl)) (PE.int)) (PT.and0))) (PB.cons (PS.ret hC (PE.tup hC (PEs.cons hC (PE.str) (PEs.cons hC (PE.tup hC (PEs.cons hC (PE.nl (by kernel_rfl)) (PEs.nil))) (PEs.nil))))) (PB.nil)) (PB.nil)) (PB.cons (PS.ret hC (PE.tup hC (PEs.cons hC (PE.str) (PEs.cons hC (PE.tup hC (PEs.cons hC (PE.nl (by kernel_rfl)) (PEs.cons hC (PE.nl (by kernel_rfl)) (PEs.cons hC (PE.nl (by kernel_rfl)) (PEs.nil))))) (PEs.nil))))) (PB.nil)))))
theorem Bd.cn_select_form (b : Bd S) : CN S 1 (Str.ofString "select_form") f_select_form := cn_fn b.st (f := .ref 283) (by exact (Option.some.inj (congrArg (fun l => l[21]?) (fN b)))) (by exact (Option.some.inj (congrArg (fun l => l[21]?) (fK b)))) (Bd.fc_select_form b)
noncomputable def bw_row_number : BW := seqBW (asgBW (constW (.int 0)) (nameA 1)) (seqBW (forBW (rangeW (consW (callW (consW (nameW 0) (nilW)) lenF) (nilW))) (nameA 2) (seqBW (ifBW (plainTW (subW (nameW 0) (nameW 2))) (seqBW (augNameBW 1 .Add (binW .LShift (constW (.int 1)) (nameW 2))) (nextBW)) (nextBW)) (nextBW))) (seqBW (retBW (nameW 1)) (nextBW)))
noncomputable def f_row_number : FW := defF 1 5 bw_row_number
theorem Bd.fc_row_number (b : Bd S) : FnP S 1 (.ref 173) f_row_number := by
 have hS := b.st
 have hC := hS.C
 obtain ⟨oc, od, nm, qual, doc, pm, an, ct, osl, ho, hcd⟩ := b.ho (Option.some.inj (congrArg (fun l => l[5]?) (fF b)))
 refine' fnp_def (n := 0) (k := 1) (m := 5) (W := bw_row_number) (ps := [Str.ofString "bits"]) hS (f := 173) (ho := ho) (hcd := hcd) (ok := ?ok) (hk := rfl) (hm := ?hm) (hb := ?hb) (h := ?h)
 case ok => kernel_rfl
 case hm => kernel_rfl
 case hb => intro xs hx; obtain ⟨a0, rfl⟩ := len1 hx; kernel_rfl
 case h => exact PB.cons (PS.asg hC (PE.int) (PA.nl (by kernel_rfl))) (PB.cons (PS.for hC (PI.range hS (i := 3) (by kernel_rfl) (b.no_range) (PEs.cons hC (PE.call hS (i := 4) (by kernel_rfl) b.cn_len (PEs.cons hC (PE.nl (by kernel_rfl)) (PEs.nil))) (PEs.nil))) (PA.nl (by kernel_rfl)) (PB.cons (PS.ite hC (PT.plain hC (PE.sub hC (PE.nl (by kernel_rfl)) (PE.nl (by kernel_rfl)))) (PB.cons (PS.augName hC (k := .local) (by kernel_rfl) (PE.bin hC (PE.int) (PE.nl (by kernel_rfl)))) (PB.nil)) (PB.nil)) (PB.nil))) (PB.cons (PS.ret hC (PE.nl (by kernel_rfl))) (PB.nil)))
theorem Bd.cn_row_number (b : Bd S) : CN S 1 (Str.ofString "row_number") f_row_number := cn_fn b.st (f := .ref 173) (by exact (Option.some.inj (congrArg (fun l => l[5]?) (fN b)))) (by exact (Option.some.inj (congrArg (fun l => l[5]?) (fK b)))) (Bd.fc_row_number b)
noncomputable def bw_table_bit : BW := seqBW (ifBW (orTW (cmpTW .Eq (nameW 0) (constW (.int 0))) (orTW (cmpTW .Eq (nameW 0) (constW (.int 1))) (trueTW false))) (seqBW (retBW (nameW 0)) (nextBW)) (nextBW)) (seqBW (retBW (binW .BitAnd (binW .RShift (nameW 2) (indexW (nameW 1) (nameW 0))) (constW (.int 1)))) (nextBW))
noncomputable def f_table_bit : FW := defF 3 3 bw_table_bit
theorem Bd.fc_table_bit (b : Bd S) : FnP S 1 (.ref 290) f_table_bit := by
 have hS := b.st
 have hC := hS.C
 obtain ⟨oc, od, nm, qual, doc, pm, an, ct, osl, ho, hcd⟩ := b.ho (Option.some.inj (congrArg (fun l => l[22]?) (fF b)))
 refine' fnp_def (n := 0) (k := 3) (m := 3) (W := bw_table_bit) (ps := [Str.ofString "net", Str.ofString "kept", Str.ofString "row"]) hS (f := 290) (ho := ho) (hcd := hcd) (ok := ?ok) (hk := rfl) (hm := ?hm) (hb := ?hb) (h := ?h)
 case ok => kernel_rfl
 case hm => kernel_rfl
 case hb => intro xs hx; obtain ⟨a0, a1, a2, rfl⟩ := len3 hx; kernel_rfl
 case h => exact PB.cons (PS.ite hC (PT.or hC (PT.cmp hC (PE.nl (by kernel_rfl)) (PE.int)) (PT.or hC (PT.cmp hC (PE.nl (by kernel_rfl)) (PE.int)) (PT.or0))) (PB.cons (PS.ret hC (PE.nl (by kernel_rfl))) (PB.nil)) (PB.nil)) (PB.cons (PS.ret hC (PE.bin hC (PE.bin hC (PE.nl (by kernel_rfl)) (PE.index hS (PE.nl (by kernel_rfl)) (PE.nl (by kernel_rfl)))) (PE.int))) (PB.nil))
theorem Bd.cn_table_bit (b : Bd S) : CN S 1 (Str.ofString "table_bit") f_table_bit := cn_fn b.st (f := .ref 290) (by exact (Option.some.inj (congrArg (fun l => l[22]?) (fN b)))) (by exact (Option.some.inj (congrArg (fun l => l[22]?) (fK b)))) (Bd.fc_table_bit b)
noncomputable def bw_var_table : BW := seqBW (asgBW (callW (consW (nameW 1) (nilW)) f_full_table) (nameA 2)) (seqBW (retBW (binW .BitXor (nameW 2) (binW .FloorDiv (nameW 2) (binW .Add (binW .LShift (constW (.int 1)) (binW .LShift (constW (.int 1)) (nameW 0))) (constW (.int 1)))))) (nextBW))
noncomputable def f_var_table : FW := defF 2 4 bw_var_table
theorem Bd.fc_var_table (b : Bd S) : FnP S 2 (.ref 187) f_var_table := by
 have hS := b.st
 have hC := hS.C
 obtain ⟨oc, od, nm, qual, doc, pm, an, ct, osl, ho, hcd⟩ := b.ho (Option.some.inj (congrArg (fun l => l[7]?) (fF b)))
 refine' fnp_def (n := 1) (k := 2) (m := 4) (W := bw_var_table) (ps := [Str.ofString "i", Str.ofString "k"]) hS (f := 187) (ho := ho) (hcd := hcd) (ok := ?ok) (hk := rfl) (hm := ?hm) (hb := ?hb) (h := ?h)
 case ok => kernel_rfl
 case hm => kernel_rfl
 case hb => intro xs hx; obtain ⟨a0, a1, rfl⟩ := len2 hx; kernel_rfl
 case h => exact PB.cons (PS.asg hC (PE.call hS (i := 3) (by kernel_rfl) (b.cn_full_table.le (by decide)) (PEs.cons hC (PE.nl (by kernel_rfl)) (PEs.nil))) (PA.nl (by kernel_rfl))) (PB.cons (PS.ret hC (PE.bin hC (PE.nl (by kernel_rfl)) (PE.bin hC (PE.nl (by kernel_rfl)) (PE.bin hC (PE.bin hC (PE.int) (PE.bin hC (PE.int) (PE.nl (by kernel_rfl)))) (PE.int))))) (PB.nil))
theorem Bd.cn_var_table (b : Bd S) : CN S 2 (Str.ofString "var_table") f_var_table := cn_fn b.st (f := .ref 187) (by exact (Option.some.inj (congrArg (fun l => l[7]?) (fN b)))) (by exact (Option.some.inj (congrArg (fun l => l[7]?) (fK b)))) (Bd.fc_var_table b)
noncomputable def bw_cofactor : BW := seqBW (asgBW (binW .BitAnd (nameW 0) (callW (consW (nameW 1) (consW (nameW 3) (nilW))) f_var_table)) (nameA 4)) (seqBW (ifBW (cmpTW .Eq (nameW 2) (constW (.int 1))) (seqBW (retBW (binW .BitOr (nameW 4) (binW .RShift (nameW 4) (binW .LShift (constW (.int 1)) (nameW 1))))) (nextBW)) (nextBW)) (seqBW (asgBW (binW .BitXor (nameW 0) (nameW 4)) (nameA 5)) (seqBW (retBW (binW .BitOr (nameW 5) (binW .LShift (nameW 5) (binW .LShift (constW (.int 1)) (nameW 1))))) (nextBW))))
noncomputable def f_cofactor : FW := defF 4 7 bw_cofactor
theorem Bd.fc_cofactor (b : Bd S) : FnP S 3 (.ref 194) f_cofactor := by
 have hS := b.st
 have hC := hS.C
 obtain ⟨oc, od, nm, qual, doc, pm, an, ct, osl, ho, hcd⟩ := b.ho (Option.some.inj (congrArg (fun l => l[8]?) (fF b)))
 refine' fnp_def (n := 2) (k := 4) (m := 7) (W := bw_cofactor) (ps := [Str.ofString "t", Str.ofString "i", Str.ofString "bit", Str.ofString "k"]) hS (f := 194) (ho := ho) (hcd := hcd) (ok := ?ok) (hk := rfl) (hm := ?hm) (hb := ?hb) (h := ?h)
 case ok => kernel_rfl
 case hm => kernel_rfl
 case hb => intro xs hx; obtain ⟨a0, a1, a2, a3, rfl⟩ := len4 hx; kernel_rfl
 case h => exact PB.cons (PS.asg hC (PE.bin hC (PE.nl (by kernel_rfl)) (PE.call hS (i := 6) (by kernel_rfl) (b.cn_var_table.le (by decide)) (PEs.cons hC (PE.nl (by kernel_rfl)) (PEs.cons hC (PE.nl (by kernel_rfl)) (PEs.nil))))) (PA.nl (by kernel_rfl))) (PB.cons (PS.ite hC (PT.cmp hC (PE.nl (by kernel_rfl)) (PE.int)) (PB.cons (PS.ret hC (PE.bin hC (PE.nl (by kernel_rfl)) (PE.bin hC (PE.nl (by kernel_rfl)) (PE.bin hC (PE.int) (PE.nl (by kernel_rfl)))))) (PB.nil)) (PB.nil)) (PB.cons (PS.asg hC (PE.bin hC (PE.nl (by kernel_rfl)) (PE.nl (by kernel_rfl))) (PA.nl (by kernel_rfl))) (PB.cons (PS.ret hC (PE.bin hC (PE.nl (by kernel_rfl)) (PE.bin hC (PE.nl (by kernel_rfl)) (PE.bin hC (PE.int) (PE.nl (by kernel_rfl)))))) (PB.nil))))
theorem Bd.cn_cofactor (b : Bd S) : CN S 3 (Str.ofString "cofactor") f_cofactor := cn_fn b.st (f := .ref 194) (by exact (Option.some.inj (congrArg (fun l => l[8]?) (fN b)))) (by exact (Option.some.inj (congrArg (fun l => l[8]?) (fK b)))) (Bd.fc_cofactor b)
noncomputable def bw_depends : BW := seqBW (retBW (cmpW .NotEq (callW (consW (nameW 0) (consW (nameW 1) (consW (constW (.int 0)) (consW (nameW 2) (nilW))))) f_cofactor) (callW (consW (nameW 0) (consW (nameW 1) (consW (constW (.int 1)) (consW (nameW 2) (nilW))))) f_cofactor))) (nextBW)
noncomputable def f_depends : FW := defF 3 4 bw_depends
theorem Bd.fc_depends (b : Bd S) : FnP S 4 (.ref 201) f_depends := by
 have hS := b.st
 have hC := hS.C
 obtain ⟨oc, od, nm, qual, doc, pm, an, ct, osl, ho, hcd⟩ := b.ho (Option.some.inj (congrArg (fun l => l[9]?) (fF b)))
 refine' fnp_def (n := 3) (k := 3) (m := 4) (W := bw_depends) (ps := [Str.ofString "t", Str.ofString "i", Str.ofString "k"]) hS (f := 201) (ho := ho) (hcd := hcd) (ok := ?ok) (hk := rfl) (hm := ?hm) (hb := ?hb) (h := ?h)
 case ok => kernel_rfl
 case hm => kernel_rfl
 case hb => intro xs hx; obtain ⟨a0, a1, a2, rfl⟩ := len3 hx; kernel_rfl
 case h => exact PB.cons (PS.ret hC (PE.cmp hC (PE.call hS (i := 3) (by kernel_rfl) (b.cn_cofactor.le (by decide)) (PEs.cons hC (PE.nl (by kernel_rfl)) (PEs.cons hC (PE.nl (by kernel_rfl)) (PEs.cons hC (PE.int) (PEs.cons hC (PE.nl (by kernel_rfl)) (PEs.nil)))))) (PE.call hS (i := 3) (by kernel_rfl) (b.cn_cofactor.le (by decide)) (PEs.cons hC (PE.nl (by kernel_rfl)) (PEs.cons hC (PE.nl (by kernel_rfl)) (PEs.cons hC (PE.int) (PEs.cons hC (PE.nl (by kernel_rfl)) (PEs.nil)))))))) (PB.nil)
theorem Bd.cn_depends (b : Bd S) : CN S 4 (Str.ofString "depends") f_depends := cn_fn b.st (f := .ref 201) (by exact (Option.some.inj (congrArg (fun l => l[9]?) (fN b)))) (by exact (Option.some.inj (congrArg (fun l => l[9]?) (fK b)))) (Bd.fc_depends b)
noncomputable def bw_support : BW := seqBW (asgBW (listW (nilW)) (nameA 2)) (seqBW (forBW (rangeW (consW (nameW 1) (nilW))) (nameA 3) (seqBW (ifBW (plainTW (callW (consW (nameW 0) (consW (nameW 3) (consW (nameW 1) (nilW)))) f_depends)) (seqBW (exprBW (appendW (nameW 2) (nameW 3))) (nextBW)) (nextBW)) (nextBW))) (seqBW (retBW (nameW 2)) (nextBW)))
noncomputable def f_support : FW := defF 2 6 bw_support
theorem Bd.fc_support (b : Bd S) : FnP S 5 (.ref 208) f_support := by
 have hS := b.st
 have hC := hS.C
 obtain ⟨oc, od, nm, qual, doc, pm, an, ct, osl, ho, hcd⟩ := b.ho (Option.some.inj (congrArg (fun l => l[10]?) (fF b)))
 refine' fnp_def (n := 4) (k := 2) (m := 6) (W := bw_support) (ps := [Str.ofString "t", Str.ofString "k"]) hS (f := 208) (ho := ho) (hcd := hcd) (ok := ?ok) (hk := rfl) (hm := ?hm) (hb := ?hb) (h := ?h)
 case ok => kernel_rfl
 case hm => kernel_rfl
 case hb => intro xs hx; obtain ⟨a0, a1, rfl⟩ := len2 hx; kernel_rfl
 case h => exact PB.cons (PS.asg hC (PE.list hC (PEs.nil)) (PA.nl (by kernel_rfl))) (PB.cons (PS.for hC (PI.range hS (i := 4) (by kernel_rfl) (b.no_range) (PEs.cons hC (PE.nl (by kernel_rfl)) (PEs.nil))) (PA.nl (by kernel_rfl)) (PB.cons (PS.ite hC (PT.plain hC (PE.call hS (i := 5) (by kernel_rfl) (b.cn_depends.le (by decide)) (PEs.cons hC (PE.nl (by kernel_rfl)) (PEs.cons hC (PE.nl (by kernel_rfl)) (PEs.cons hC (PE.nl (by kernel_rfl)) (PEs.nil)))))) (PB.cons (PS.expr hC (PE.append hS (PE.nl (by kernel_rfl)) (PE.nl (by kernel_rfl)))) (PB.nil)) (PB.nil)) (PB.nil))) (PB.cons (PS.ret hC (PE.nl (by kernel_rfl))) (PB.nil)))
theorem Bd.cn_support (b : Bd S) : CN S 5 (Str.ofString "support") f_support := cn_fn b.st (f := .ref 208) (by exact (Option.some.inj (congrArg (fun l => l[10]?) (fN b)))) (by exact (Option.some.inj (congrArg (fun l => l[10]?) (fK b)))) (Bd.fc_support b)
noncomputable def bw_spread : BW := seqBW (asgBW (constW (.int 0)) (nameA 2)) (seqBW (forBW (rangeW (consW (callW (consW (nameW 1) (nilW)) lenF) (nilW))) (nameA 3) (seqBW (augNameBW 2 .BitOr (binW .LShift (binW .BitAnd (binW .RShift (nameW 0) (nameW 3)) (constW (.int 1))) (subW (nameW 1) (nameW 3)))) (nextBW))) (seqBW (retBW (nameW 2)) (nextBW)))
noncomputable def f_spread : FW := defF 2 6 bw_spread
theorem Bd.fc_spread (b : Bd S) : FnP S 1 (.ref 215) f_spread := by
 have hS := b.st
 have hC := hS.C
 obtain ⟨oc, od, nm, qual, doc, pm, an, ct, osl, ho, hcd⟩ := b.ho (Option.some.inj (congrArg (fun l => l[11]?) (fF b)))
 refine' fnp_def (n := 0) (k := 2) (m := 6) (W := bw_spread) (ps := [Str.ofString "m", Str.ofString "places"]) hS (f := 215) (ho := ho) (hcd := hcd) (ok := ?ok) (hk := rfl) (hm := ?hm) (hb := ?hb) (h := ?h)
 case ok => kernel_rfl
 case hm => kernel_rfl
 case hb => intro xs hx; obtain ⟨a0, a1, rfl⟩ := len2 hx; kernel_rfl
 case h => exact PB.cons (PS.asg hC (PE.int) (PA.nl (by kernel_rfl))) (PB.cons (PS.for hC (PI.range hS (i := 4) (by kernel_rfl) (b.no_range) (PEs.cons hC (PE.call hS (i := 5) (by kernel_rfl) b.cn_len (PEs.cons hC (PE.nl (by kernel_rfl)) (PEs.nil))) (PEs.nil))) (PA.nl (by kernel_rfl)) (PB.cons (PS.augName hC (k := .local) (by kernel_rfl) (PE.bin hC (PE.bin hC (PE.bin hC (PE.nl (by kernel_rfl)) (PE.nl (by kernel_rfl))) (PE.int)) (PE.sub hC (PE.nl (by kernel_rfl)) (PE.nl (by kernel_rfl))))) (PB.nil))) (PB.cons (PS.ret hC (PE.nl (by kernel_rfl))) (PB.nil)))
theorem Bd.cn_spread (b : Bd S) : CN S 1 (Str.ofString "spread") f_spread := cn_fn b.st (f := .ref 215) (by exact (Option.some.inj (congrArg (fun l => l[11]?) (fN b)))) (by exact (Option.some.inj (congrArg (fun l => l[11]?) (fK b)))) (Bd.fc_spread b)
noncomputable def bw_shrink : BW := seqBW (asgBW (callW (consW (nameW 0) (consW (nameW 1) (nilW))) f_support) (nameA 2)) (seqBW (asgBW (constW (.int 0)) (nameA 3)) (seqBW (forBW (rangeW (consW (binW .LShift (constW (.int 1)) (callW (consW (nameW 2) (nilW)) lenF)) (nilW))) (nameA 4) (seqBW (augNameBW 3 .BitOr (binW .LShift (binW .BitAnd (binW .RShift (nameW 0) (callW (consW (nameW 4) (consW (nameW 2) (nilW))) f_spread)) (constW (.int 1))) (nameW 4))) (nextBW))) (seqBW (retBW (tupW (consW (nameW 3) (consW (nameW 2) (nilW))))) (nextBW))))
noncomputable def f_shrink : FW := defF 2 9 bw_shrink
theorem Bd.fc_shrink (b : Bd S) : FnP S 6 (.ref 222) f_shrink := by
 have hS := b.st
 have hC := hS.C
 obtain ⟨oc, od, nm, qual, doc, pm, an, ct, osl, ho, hcd⟩ := b.ho (Option.some.inj (congrArg (fun l => l[12]?) (fF b)))
 refine' fnp_def (n := 5) (k := 2) (m := 9) (W := bw_shrink) (ps := [Str.ofString "t", Str.ofString "k"]) hS (f := 222) (ho := ho) (hcd := hcd) (ok := ?ok) (hk := rfl) (hm := ?hm) (hb := ?hb) (h := ?h)
 case ok => kernel_rfl
 case hm => kernel_rfl
 case hb => intro xs hx; obtain ⟨a0, a1, rfl⟩ := len2 hx; kernel_rfl
 case h => exact PB.cons (PS.asg hC (PE.call hS (i := 5) (by kernel_rfl) (b.cn_support.le (by decide)) (PEs.cons hC (PE.nl (by kernel_rfl)) (PEs.cons hC (PE.nl (by kernel_rfl)) (PEs.nil)))) (PA.nl (by kernel_rfl))) (PB.cons (PS.asg hC (PE.int) (PA.nl (by kernel_rfl))) (PB.cons (PS.for hC (PI.range hS (i := 6) (by kernel_rfl) (b.no_range) (PEs.cons hC (PE.bin hC (PE.int) (PE.call hS (i := 7) (by kernel_rfl) b.cn_len (PEs.cons hC (PE.nl (by kernel_rfl)) (PEs.nil)))) (PEs.nil))) (PA.nl (by kernel_rfl)) (PB.cons (PS.augName hC (k := .local) (by kernel_rfl) (PE.bin hC (PE.bin hC (PE.bin hC (PE.nl (by kernel_rfl)) (PE.call hS (i := 8) (by kernel_rfl) (b.cn_spread.le (by decide)) (PEs.cons hC (PE.nl (by kernel_rfl)) (PEs.cons hC (PE.nl (by kernel_rfl)) (PEs.nil))))) (PE.int)) (PE.nl (by kernel_rfl)))) (PB.nil))) (PB.cons (PS.ret hC (PE.tup hC (PEs.cons hC (PE.nl (by kernel_rfl)) (PEs.cons hC (PE.nl (by kernel_rfl)) (PEs.nil))))) (PB.nil))))
theorem Bd.cn_shrink (b : Bd S) : CN S 6 (Str.ofString "shrink") f_shrink := cn_fn b.st (f := .ref 222) (by exact (Option.some.inj (congrArg (fun l => l[12]?) (fN b)))) (by exact (Option.some.inj (congrArg (fun l => l[12]?) (fK b)))) (Bd.fc_shrink b)
noncomputable def bw_final_net : BW := seqBW (whileBW (cmpTW .In (nameW 1) (nameW 0)) (seqBW (asgBW (subW (nameW 0) (nameW 1)) (nameA 1)) (nextBW))) (seqBW (retBW (nameW 1)) (nextBW))
noncomputable def f_final_net : FW := defF 2 2 bw_final_net
theorem Bd.fc_final_net (b : Bd S) : FnP S 1 (.ref 229) f_final_net := by
 have hS := b.st
 have hC := hS.C
 obtain ⟨oc, od, nm, qual, doc, pm, an, ct, osl, ho, hcd⟩ := b.ho (Option.some.inj (congrArg (fun l => l[13]?) (fF b)))
 refine' fnp_def (n := 0) (k := 2) (m := 2) (W := bw_final_net) (ps := [Str.ofString "replaced", Str.ofString "net"]) hS (f := 229) (ho := ho) (hcd := hcd) (ok := ?ok) (hk := rfl) (hm := ?hm) (hb := ?hb) (h := ?h)
 case ok => kernel_rfl
 case hm => kernel_rfl
 case hb => intro xs hx; obtain ⟨a0, a1, rfl⟩ := len2 hx; kernel_rfl
 case h => exact PB.cons (PS.while hC (PT.cmp hC (PE.nl (by kernel_rfl)) (PE.nl (by kernel_rfl))) (PB.cons (PS.asg hC (PE.sub hC (PE.nl (by kernel_rfl)) (PE.nl (by kernel_rfl))) (PA.nl (by kernel_rfl))) (PB.nil))) (PB.cons (PS.ret hC (PE.nl (by kernel_rfl))) (PB.nil))
theorem Bd.cn_final_net (b : Bd S) : CN S 1 (Str.ofString "final_net") f_final_net := cn_fn b.st (f := .ref 229) (by exact (Option.some.inj (congrArg (fun l => l[13]?) (fN b)))) (by exact (Option.some.inj (congrArg (fun l => l[13]?) (fK b)))) (Bd.fc_final_net b)
noncomputable def bw_table_over : BW := seqBW (asgBW (constW (.int 0)) (nameA 3)) (seqBW (forBW (rangeW (consW (binW .LShift (constW (.int 1)) (callW (consW (nameW 2) (nilW)) lenF)) (nilW))) (nameA 4) (seqBW (asgBW (compW [none, none, none, some 2, some 4] (srcW (nameW 1)) (nameA 1) (trueTW true) (callW (consW (nameW 1) (consW (nameW 3) (consW (nameW 4) (nilW)))) f_table_bit)) (nameA 5)) (seqBW (ifBW (plainTW (binW .BitAnd (binW .RShift (nameW 0) (callW (consW (nameW 5) (nilW)) f_row_number)) (constW (.int 1)))) (seqBW (augNameBW 3 .Add (binW .LShift (constW (.int 1)) (nameW 4))) (nextBW)) (nextBW)) (nextBW)))) (seqBW (retBW (nameW 3)) (nextBW)))
noncomputable def f_table_over : FW := defF 3 9 bw_table_over
theorem Bd.fc_table_over (b : Bd S) : FnP S 2 (.ref 295) f_table_over := by
 have hS := b.st
 have hC := hS.C
 obtain ⟨oc, od, nm, qual, doc, pm, an, ct, osl, ho, hcd⟩ := b.ho (Option.some.inj (congrArg (fun l => l[23]?) (fF b)))
 refine' fnp_def (n := 1) (k := 3) (m := 9) (W := bw_table_over) (ps := [Str.ofString "table", Str.ofString "ins", Str.ofString "kept"]) hS (f := 295) (ho := ho) (hcd := hcd) (ok := ?ok) (hk := rfl) (hm := ?hm) (hb := ?hb) (h := ?h)
 case ok => kernel_rfl
 case hm => kernel_rfl
 case hb => intro xs hx; obtain ⟨a0, a1, a2, rfl⟩ := len3 hx; kernel_rfl
 case h => exact PB.cons (PS.asg hC (PE.int) (PA.nl (by kernel_rfl))) (PB.cons (PS.for hC (PI.range hS (i := 6) (by kernel_rfl) (b.no_range) (PEs.cons hC (PE.bin hC (PE.int) (PE.call hS (i := 7) (by kernel_rfl) b.cn_len (PEs.cons hC (PE.name (k := .cell) (by kernel_rfl)) (PEs.nil)))) (PEs.nil))) (PA.name (k := .cell) (by kernel_rfl)) (PB.cons (PS.asgComp hC (k := .local) (by kernel_rfl) (by kernel_rfl) (by kernel_rfl) (PI.of hC (PE.nl (by kernel_rfl))) (PA.nl (by kernel_rfl)) (PTs.nil) (PE.call hS (i := 2) (by kernel_rfl) (b.cn_table_bit.le (by decide)) (PEs.cons hC (PE.nl (by kernel_rfl)) (PEs.cons hC (PE.name (k := .cell) (by kernel_rfl)) (PEs.cons hC (PE.name (k := .cell) (by kernel_rfl)) (PEs.nil)))))) (PB.cons (PS.ite hC (PT.plain hC (PE.bin hC (PE.bin hC (PE.nl (by kernel_rfl)) (PE.call hS (i := 8) (by kernel_rfl) (b.cn_row_number.le (by decide)) (PEs.cons hC (PE.nl (by kernel_rfl)) (PEs.nil)))) (PE.int))) (PB.cons (PS.augName hC (k := .local) (by kernel_rfl) (PE.bin hC (PE.int) (PE.name (k := .cell) (by kernel_rfl)))) (PB.nil)) (PB.nil)) (PB.nil)))) (PB.cons (PS.ret hC (PE.nl (by kernel_rfl))) (PB.nil)))
theorem Bd.cn_table_over (b : Bd S) : CN S 2 (Str.ofString "table_over") f_table_over := cn_fn b.st (f := .ref 295) (by exact (Option.some.inj (congrArg (fun l => l[23]?) (fN b)))) (by exact (Option.some.inj (congrArg (fun l => l[23]?) (fK b)))) (Bd.fc_table_over b)
noncomputable def bw_table_form : BW := seqBW (asgBW (listW (nilW)) (nameA 2)) (seqBW (forBW (srcW (nameW 1)) (nameA 3) (seqBW (ifBW (andTW (cmpTW .Gt (nameW 3) (constW (.int 1))) (andTW (cmpTW .NotIn (nameW 3) (nameW 2)) (trueTW true))) (seqBW (exprBW (appendW (nameW 2) (nameW 3))) (nextBW)) (nextBW)) (nextBW))) (seqBW (asgBW (callW (consW (callW (consW (nameW 0) (consW (nameW 1) (consW (nameW 2) (nilW)))) f_table_over) (consW (callW (consW (nameW 2) (nilW)) lenF) (nilW))) f_shrink) (tupA 2 (consAs (nameA 4) (consAs (nameA 5) (nilAs))))) (seqBW (asgBW (callW (consW (compW [none, none, some 2] (srcW (nameW 5)) (nameA 1) (trueTW true) (subW (nameW 2) (nameW 1))) (nilW)) tupleF) (nameA 6)) (seqBW (ifBW (cmpTW .Eq (callW (consW (nameW 6) (nilW)) lenF) (constW (.int 0))) (seqBW (retBW (tupW (consW (constW (.str "buf")) (consW (tupW (consW (binW .BitAnd (nameW 4) (constW (.int 1))) (nilW))) (consW (constW .none) (nilW)))))) (nextBW)) (nextBW)) (seqBW (ifBW (cmpTW .Eq (callW (consW (nameW 6) (nilW)) lenF) (constW (.int 1))) (seqBW (retBW (tupW (consW (iteW (cmpTW .Eq (nameW 4) (constW (.int 2))) (constW (.str "buf")) (constW (.str "not"))) (consW (nameW 6) (consW (constW .none) (nilW)))))) (nextBW)) (nextBW)) (seqBW (retBW (tupW (consW (constW (.str "lut")) (consW (nameW 6) (consW (nameW 4) (nilW)))))) (nextBW)))))))
noncomputable def f_table_form : FW := defF 2 11 bw_table_form
theorem Bd.fc_table_form (b : Bd S) : FnP S 7 (.ref 300) f_table_form := by
 have hS := b.st
 have hC := hS.C
 obtain ⟨oc, od, nm, qual, doc, pm, an, ct, osl, ho, hcd⟩ := b.ho (Option.some.inj (congrArg (fun l => l[24]?) (fF b)))
 refine' fnp_def (n := 6) (k := 2) (m := 11) (W := bw_table_form) (ps := [Str.ofString "table", Str.ofString "ins"]) hS (f := 300) (ho := ho) (hcd := hcd) (ok := ?ok) (hk := rfl) (hm := ?hm) (hb := ?hb) (h := ?h)
 case ok => kernel_rfl
 case hm => kernel_rfl
 case hb => intro xs hx; obtain ⟨a0, a1, rfl⟩ := len2 hx; kernel_rfl
 case h => exact PB.cons (PS.asg hC (PE.list hC (PEs.nil)) (PA.name (k := .cell) (by kernel_rfl))) (PB.cons (PS.for hC (PI.of hC (PE.nl (by kernel_rfl))) (PA.nl (by kernel_rfl)) (PB.cons (PS.ite hC (PT.and hC (PT.cmp hC (PE.nl (by kernel_rfl)) (PE.int)) (PT.and hC (PT.cmp hC (PE.nl (by kernel_rfl)) (PE.name (k := .cell) (by kernel_rfl))) (PT.and0))) (PB.cons (PS.expr hC (PE.append hS (PE.name (k := .cell) (by kernel_rfl)) (PE.nl (by kernel_rfl)))) (PB.nil)) (PB.nil)) (PB.nil))) (PB.cons (PS.asg hC (PE.call hS (i := 7) (by kernel_rfl) (b.cn_shrink.le (by decide)) (PEs.cons hC (PE.call hS (i := 8) (by kernel_rfl) (b.cn_table_over.le (by decide)) (PEs.cons hC (PE.nl (by kernel_rfl)) (PEs.cons hC (PE.nl (by kernel_rfl)) (PEs.cons hC (PE.name (k := .cell) (by kernel_rfl)) (PEs.nil))))) (PEs.cons hC (PE.call hS (i := 9) (by kernel_rfl) b.cn_len (PEs.cons hC (PE.name (k := .cell) (by kernel_rfl)) (PEs.nil))) (PEs.nil)))) (PA.tup hC (PAs.cons hC (PA.nl (by kernel_rfl)) (PAs.cons hC (PA.nl (by kernel_rfl)) (PAs.nil))))) (PB.cons (PS.asg hC (PE.call hS (i := 10) (by kernel_rfl) b.cn_tuple (PEs.cons hC (PE.comp hC (by kernel_rfl) (by kernel_rfl) (PI.of hC (PE.nl (by kernel_rfl))) (PA.nl (by kernel_rfl)) (PTs.nil) (PE.sub hC (PE.name (k := .cell) (by kernel_rfl)) (PE.nl (by kernel_rfl)))) (PEs.nil))) (PA.nl (by kernel_rfl))) (PB.cons (PS.ite hC (PT.cmp hC (PE.call hS (i := 9) (by kernel_rfl) b.cn_len (PEs.cons hC (PE.nl (by kernel_rfl)) (PEs.nil))) (PE.int)) (PB.cons (PS.ret hC (PE.tup hC (PEs.cons hC (PE.str) (PEs.cons hC (PE.tup hC (PEs.cons hC (PE.bin hC (PE.nl (by kernel_rfl)) (PE.int)) (PEs.nil))) (PEs.cons hC (PE.none) (PEs.nil)))))) (PB.nil)) (PB.nil)) (PB.cons (PS.ite hC (PT.cmp hC (PE.call hS (i := 9) (by kernel_rfl) b.cn_len (PEs.cons hC (PE.nl (by kernel_rfl)) (PEs.nil))) (PE.int)) (PB.cons (PS.ret hC (PE.tup hC (PEs.cons hC (PE.ite hC (PT.cmp hC (PE.nl (by kernel_rfl)) (PE.int)) (PE.str) (PE.str)) (PEs.cons hC (PE.nl (by kernel_rfl)) (PEs.cons hC (PE.none) (PEs.nil)))))) (PB.nil)) (PB.nil)) (PB.cons (PS.ret hC (PE.tup hC (PEs.cons hC (PE.str) (PEs.cons hC (PE.nl (by kernel_rfl)) (PEs.cons hC (PE.nl (by kernel_rfl)) (PEs.nil)))))) (PB.nil)))))))
theorem Bd.cn_table_form (b : Bd S) : CN S 7 (Str.ofString "table_form") f_table_form := cn_fn b.st (f := .ref 300) (by exact (Option.some.inj (congrArg (fun l => l[24]?) (fN b)))) (by exact (Option.some.inj (congrArg (fun l => l[24]?) (fK b)))) (Bd.fc_table_form b)
noncomputable def bw_are_opposite : BW := seqBW (retBW (orW (cmpW .Eq (dgetW (nameW 0) (nameW 1) (negW (constW (.int 1)))) (nameW 2)) (cmpW .Eq (dgetW (nameW 0) (nameW 2) (negW (constW (.int 1)))) (nameW 1)))) (nextBW)
noncomputable def f_are_opposite : FW := defF 3 3 bw_are_opposite
theorem Bd.fc_are_opposite (b : Bd S) : FnP S 1 (.ref 307) f_are_opposite := by
 have hS := b.st
 have hC := hS.C
 obtain ⟨oc, od, nm, qual, doc, pm, an, ct, osl, ho, hcd⟩ := b.ho (Option.some.inj (congrArg (fun l => l[25]?) (fF b)))
 refine' fnp_def (n := 0) (k := 3) (m := 3) (W := bw_are_opposite) (ps := [Str.ofString "inverse", Str.ofString "a", Str.ofString "b"]) hS (f := 307) (ho := ho) (hcd := hcd) (ok := ?ok) (hk := rfl) (hm := ?hm) (hb := ?hb) (h := ?h)
 case ok => kernel_rfl
 case hm => kernel_rfl
 case hb => intro xs hx; obtain ⟨a0, a1, a2, rfl⟩ := len3 hx; kernel_rfl
 case h => exact PB.cons (PS.ret hC (PE.or hC (PE.cmp hC (PE.dictGet hS (PE.nl (by kernel_rfl)) (PE.nl (by kernel_rfl)) (PE.neg hC (PE.int))) (PE.nl (by kernel_rfl))) (PE.bool1 (PE.cmp hC (PE.dictGet hS (PE.nl (by kernel_rfl)) (PE.nl (by kernel_rfl)) (PE.neg hC (PE.int))) (PE.nl (by kernel_rfl)))))) (PB.nil)
theorem Bd.cn_are_opposite (b : Bd S) : CN S 1 (Str.ofString "are_opposite") f_are_opposite := cn_fn b.st (f := .ref 307) (by exact (Option.some.inj (congrArg (fun l => l[25]?) (fN b)))) (by exact (Option.some.inj (congrArg (fun l => l[25]?) (fK b)))) (Bd.fc_are_opposite b)
noncomputable def bw_library_form : BW := seqBW (asgBW (callW (consW (subW (nameW 1) (constW (.int 1))) (consW (nameW 0) (nilW))) f_table_form) (tupA 3 (consAs (nameA 2) (consAs (nameA 3) (consAs (nameA 4) (nilAs)))))) (seqBW (ifBW (cmpTW .Eq (nameW 2) (constW (.str "lut"))) (seqBW (retBW (tupW (consW (constW (.str "cell")) (consW (nameW 0) (consW (nameW 1) (nilW)))))) (nextBW)) (nextBW)) (seqBW (retBW (tupW (consW (nameW 2) (consW (nameW 3) (consW (constW .none) (nilW)))))) (nextBW)))
noncomputable def f_library_form : FW := defF 2 6 bw_library_form
theorem Bd.fc_library_form (b : Bd S) : FnP S 8 (.ref 314) f_library_form := by
 have hS := b.st
 have hC := hS.C
 obtain ⟨oc, od, nm, qual, doc, pm, an, ct, osl, ho, hcd⟩ := b.ho (Option.some.inj (congrArg (fun l => l[26]?) (fF b)))
 refine' fnp_def (n := 7) (k := 2) (m := 6) (W := bw_library_form) (ps := [Str.ofString "ins", Str.ofString "param"]) hS (f := 314) (ho := ho) (hcd := hcd) (ok := ?ok) (hk := rfl) (hm := ?hm) (hb := ?hb) (h := ?h)
 case ok => kernel_rfl
 case hm => kernel_rfl
 case hb => intro xs hx; obtain ⟨a0, a1, rfl⟩ := len2 hx; kernel_rfl
 case h => exact PB.cons (PS.asg hC (PE.call hS (i := 5) (by kernel_rfl) (b.cn_table_form.le (by decide)) (PEs.cons hC (PE.sub hC (PE.nl (by kernel_rfl)) (PE.int)) (PEs.cons hC (PE.nl (by kernel_rfl)) (PEs.nil)))) (PA.tup hC (PAs.cons hC (PA.nl (by kernel_rfl)) (PAs.cons hC (PA.nl (by kernel_rfl)) (PAs.cons hC (PA.nl (by kernel_rfl)) (PAs.nil)))))) (PB.cons (PS.ite hC (PT.cmp hC (PE.nl (by kernel_rfl)) (PE.str)) (PB.cons (PS.ret hC (PE.tup hC (PEs.cons hC (PE.str) (PEs.cons hC (PE.nl (by kernel_rfl)) (PEs.cons hC (PE.nl (by kernel_rfl)) (PEs.nil)))))) (PB.nil)) (PB.nil)) (PB.cons (PS.ret hC (PE.tup hC (PEs.cons hC (PE.nl (by kernel_rfl)) (PEs.cons hC (PE.nl (by kernel_rfl)) (PEs.cons hC (PE.none) (PEs.nil)))))) (PB.nil)))
theorem Bd.cn_library_form (b : Bd S) : CN S 8 (Str.ofString "library_form") f_library_form := cn_fn b.st (f := .ref 314) (by exact (Option.some.inj (congrArg (fun l => l[26]?) (fN b)))) (by exact (Option.some.inj (congrArg (fun l => l[26]?) (fK b)))) (Bd.fc_library_form b)
noncomputable def bw_simple_form : BW := seqBW (asgBW (subW (nameW 0) (constW (.int 0))) (nameA 3)) (seqBW (asgBW (constW .none) (nameA 4)) (seqBW (ifBW (cmpTW .Eq (nameW 3) (constW (.str "lut"))) (seqBW (asgBW (callW (consW (subW (nameW 0) (constW (.int 3))) (consW (nameW 1) (nilW))) f_table_form) (tupA 3 (consAs (nameA 3) (consAs (nameA 1) (consAs (nameA 4) (nilAs)))))) (nextBW)) (seqBW (ifBW (cmpTW .Eq (nameW 3) (constW (.str "cell"))) (seqBW (asgBW (callW (consW (nameW 1) (consW (subW (nameW 0) (constW (.int 3))) (nilW))) f_library_form) (tupA 3 (consAs (nameA 3) (consAs (nameA 1) (consAs (nameA 4) (nilAs)))))) (nextBW)) (seqBW (ifBW (cmpTW .Eq (nameW 3) (constW (.str "mux"))) (seqBW (asgBW (callW (consW (subW (nameW 1) (constW (.int 0))) (consW (subW (nameW 1) (constW (.int 1))) (consW (subW (nameW 1) (constW (.int 2))) (nilW)))) f_select_form) (tupA 2 (consAs (nameA 3) (consAs (nameA 1) (nilAs))))) (nextBW)) (seqBW (ifBW (cmpTW .Eq (callW (consW (nameW 1) (nilW)) lenF) (constW (.int 2))) (seqBW (asgBW (callW (consW (nameW 3) (consW (subW (nameW 1) (constW (.int 0))) (consW (subW (nameW 1) (constW (.int 1))) (consW (callW (consW (nameW 2) (consW (subW (nameW 1) (constW (.int 0))) (consW (subW (nameW 1) (constW (.int 1))) (nilW)))) f_are_opposite) (nilW))))) f_gate_form) (tupA 2 (consAs (nameA 3) (consAs (nameA 1) (nilAs))))) (nextBW)) (nextBW)) (nextBW))) (nextBW))) (nextBW))) (seqBW (ifBW (cmpTW .Eq (nameW 3) (constW (.str "not"))) (seqBW (ifBW (orTW (cmpTW .Eq (subW (nameW 1) (constW (.int 0))) (constW (.int 0))) (orTW (cmpTW .Eq (subW (nameW 1) (constW (.int 0))) (constW (.int 1))) (trueTW false))) (seqBW (retBW (tupW (consW (constW (.str "buf")) (consW (tupW (consW (binW .Sub (constW (.int 1)) (subW (nameW 1) (constW (.int 0)))) (nilW))) (consW (constW .none) (nilW)))))) (nextBW)) (nextBW)) (seqBW (ifBW (cmpTW .In (subW (nameW 1) (constW (.int 0))) (nameW 2)) (seqBW (retBW (tupW (consW (constW (.str "buf")) (consW (tupW (consW (subW (nameW 2) (subW (nameW 1) (constW (.int 0)))) (nilW))) (consW (constW .none) (nilW)))))) (nextBW)) (nextBW)) (nextBW))) (nextBW)) (seqBW (retBW (tupW (consW (nameW 3) (consW (nameW 1) (consW (nameW 4) (nilW)))))) (nextBW)))))
noncomputable def f_simple_form : FW := defF 3 11 bw_simple_form
theorem Bd.fc_simple_form (b : Bd S) : FnP S 9 (.ref 321) f_simple_form := by
 have hS := b.st
 have hC := hS.C
 obtain ⟨oc, od, nm, qual, doc, pm, an, ct, osl, ho, hcd⟩ := b.ho (Option.some.inj (congrArg (fun l => l[27]?) (fF b)))
 refine' fnp_def (n := 8) (k := 3) (m := 11) (W := bw_simple_form) (ps := [Str.ofString "cell", Str.ofString "ins", Str.ofString "inverse"]) hS (f := 321) (ho := ho) (hcd := hcd) (ok := ?ok) (hk := rfl) (hm := ?hm) (hb := ?hb) (h := ?h)
 case ok => kernel_rfl
 case hm => kernel_rfl
 case hb => intro xs hx; obtain ⟨a0, a1, a2, rfl⟩ := len3 hx; kernel_rfl
 case h => exact PB.cons (PS.asg hC (PE.sub hC (PE.nl (by kernel_rfl)) (PE.int)) (PA.nl (by kernel_rfl))) (PB.cons (PS.asg hC (PE.none) (PA.nl (by kernel_rfl))) (PB.cons (PS.ite hC (PT.cmp hC (PE.nl (by kernel_rfl)) (PE.str)) (PB.cons (PS.asg hC (PE.call hS (i := 5) (by kernel_rfl) (b.cn_table_form.le (by decide)) (PEs.cons hC (PE.sub hC (PE.nl (by kernel_rfl)) (PE.int)) (PEs.cons hC (PE.nl (by kernel_rfl)) (PEs.nil)))) (PA.tup hC (PAs.cons hC (PA.nl (by kernel_rfl)) (PAs.cons hC (PA.nl (by kernel_rfl)) (PAs.cons hC (PA.nl (by kernel_rfl)) (PAs.nil)))))) (PB.nil)) (PB.cons (PS.ite hC (PT.cmp hC (PE.nl (by kernel_rfl)) (PE.str)) (PB.cons (PS.asg hC (PE.call hS (i := 6) (by kernel_rfl) (b.cn_library_form.le (by decide)) (PEs.cons hC (PE.nl (by kernel_rfl)) (PEs.cons hC (PE.sub hC (PE.nl (by kernel_rfl)) (PE.int)) (PEs.nil)))) (PA.tup hC (PAs.cons hC (PA.nl (by kernel_rfl)) (PAs.cons hC (PA.nl (by kernel_rfl)) (PAs.cons hC (PA.nl (by kernel_rfl)) (PAs.nil)))))) (PB.nil)) (PB.cons (PS.ite hC (PT.cmp hC (PE.nl (by kernel_rfl)) (PE.str)) (PB.cons (PS.asg hC (PE.call hS (i := 7) (by kernel_rfl) (b.cn_select_form.le (by decide)) (PEs.cons hC (PE.sub hC (PE.nl (by kernel_rfl)) (PE.int)) (PEs.cons hC (PE.sub hC (PE.nl (by kernel_rfl)) (PE.int)) (PEs.cons hC (PE.sub hC (PE.nl (by kernel_rfl)) (PE.int)) (PEs.nil))))) (PA.tup hC (PAs.cons hC (PA.nl (by kernel_rfl)) (PAs.cons hC (PA.nl (by kernel_rfl)) (PAs.nil))))) (PB.nil)) (PB.cons (PS.ite hC (PT.cmp hC (PE.call hS (i := 8) (by kernel_rfl) b.cn_len (PEs.cons hC (PE.nl (by kernel_rfl)) (PEs.nil))) (PE.int)) (PB.cons (PS.asg hC (PE.call hS (i := 9) (by kernel_rfl) (b.cn_gate_form.le (by decide)) (PEs.cons hC (PE.nl (by kernel_rfl)) (PEs.cons hC (PE.sub hC (PE.nl (by kernel_rfl)) (PE.int)) (PEs.cons hC (PE.sub hC (PE.nl (by kernel_rfl)) (PE.int)) (PEs.cons hC (PE.call hS (i := 10) (by kernel_rfl) (b.cn_are_opposite.le (by decide)) (PEs.cons hC (PE.nl (by kernel_rfl)) (PEs.cons hC (PE.sub hC (PE.nl (by kernel_rfl)) (PE.int)) (PEs.cons hC (PE.sub hC (PE.nl (by kernel_rfl)) (PE.int)) (PEs.nil))))) (PEs.nil)))))) (PA.tup hC (PAs.cons hC (PA.nl (by kernel_rfl)) (PAs.cons hC (PA.nl (by kernel_rfl)) (PAs.nil))))) (PB.nil)) (PB.nil)) (PB.nil))) (PB.nil))) (PB.nil))) (PB.cons (PS.ite hC (PT.cmp hC (PE.nl (by kernel_rfl)) (PE.str)) (PB.cons (PS.ite hC (PT.or hC (PT.cmp hC (PE.sub hC (PE.nl (by kernel_rfl)) (PE.int)) (PE.int)) (PT.or hC (PT.cmp hC (PE.sub hC (PE.nl (by kernel_rfl)) (PE.int)) (PE.int)) (PT.or0))) (PB.cons (PS.ret hC (PE.tup hC (PEs.cons hC (PE.str) (PEs.cons hC (PE.tup hC (PEs.cons hC (PE.bin hC (PE.int) (PE.sub hC (PE.nl (by kernel_rfl)) (PE.int))) (PEs.nil))) (PEs.cons hC (PE.none) (PEs.nil)))))) (PB.nil)) (PB.nil)) (PB.cons (PS.ite hC (PT.cmp hC (PE.sub hC (PE.nl (by kernel_rfl)) (PE.int)) (PE.nl (by kernel_rfl))) (PB.cons (PS.ret hC (PE.tup hC (PEs.cons hC (PE.str) (PEs.cons hC (PE.tup hC (PEs.cons hC (PE.sub hC (PE.nl (by kernel_rfl)) (PE.sub hC (PE.nl (by kernel_rfl)) (PE.int))) (PEs.nil))) (PEs.cons hC (PE.none) (PEs.nil)))))) (PB.nil)) (PB.nil)) (PB.nil))) (PB.nil)) (PB.cons (PS.ret hC (PE.tup hC (PEs.cons hC (PE.nl (by kernel_rfl)) (PEs.cons hC (PE.nl (by kernel_rfl)) (PEs.cons hC (PE.nl (by kernel_rfl)) (PEs.nil)))))) (PB.nil)))))
theorem Bd.cn_simple_form (b : Bd S) : CN S 9 (Str.ofString "simple_form") f_simple_form := cn_fn b.st (f := .ref 321) (by exact (Option.some.inj (congrArg (fun l => l[27]?) (fN b)))) (by exact (Option.some.inj (congrArg (fun l => l[27]?) (fK b)))) (Bd.fc_simple_form b)
end
end Mine
end
section
open PySem PySem.W PyProof.Rows
set_option maxRecDepth 100000
set_option maxHeartbeats 800000
namespace Mine
section
variable {S : Sur} (b : Bd S) {n : Nat}
noncomputable def bw_init : BW := seqBW (asgBW (nameW 1) (attrA "name" (nameW 0))) (seqBW (asgBW (constW (.int 2)) (attrA "count" (nameW 0))) (seqBW (asgBW (listW (nilW)) (attrA "inputs" (nameW 0))) (seqBW (asgBW (listW (nilW)) (attrA "outputs" (nameW 0))) (seqBW (asgBW (listW (nilW)) (attrA "cells" (nameW 0))) (nextBW)))))
noncomputable def f_init : FW := defF 2 2 bw_init
theorem Bd.fc_init (b : Bd S) : FnP S 1 (.ref 75) f_init := by
 have hS := b.st
 have hC := hS.C
 obtain ⟨oc, od, nm, qual, doc, pm, an, ct, osl, ho, hcd⟩ := b.ho (Option.some.inj (congrArg (fun l => l[34]?) (fF b)))
 refine' fnp_def (n := 0) (k := 2) (m := 2) (W := bw_init) (ps := [Str.ofString "self", Str.ofString "name"]) hS (f := 75) (ho := ho) (hcd := hcd) (ok := ?ok) (hk := rfl) (hm := ?hm) (hb := ?hb) (h := ?h)
 case ok => kernel_rfl
 case hm => kernel_rfl
 case hb => intro xs hx; obtain ⟨a0, a1, rfl⟩ := len2 hx; kernel_rfl
 case h => exact PB.cons (PS.asg hC (PE.nl (by kernel_rfl)) (PA.attr hS (b.as_name) (PE.nl (by kernel_rfl)))) (PB.cons (PS.asg hC (PE.int) (PA.attr hS (b.as_count) (PE.nl (by kernel_rfl)))) (PB.cons (PS.asg hC (PE.list hC (PEs.nil)) (PA.attr hS (b.as_inputs) (PE.nl (by kernel_rfl)))) (PB.cons (PS.asg hC (PE.list hC (PEs.nil)) (PA.attr hS (b.as_outputs) (PE.nl (by kernel_rfl)))) (PB.cons (PS.asg hC (PE.list hC (PEs.nil)) (PA.attr hS (b.as_cells) (PE.nl (by kernel_rfl)))) (PB.nil)))))
theorem Bd.cn_Netlist (b : Bd S) : CN S 2 (Str.ofString "Netlist") (newF f_init) := cn_fn b.st (f := .ref 134) (by exact (Option.some.inj (congrArg (fun l => l[34]?) (fN b)))) (by exact (Option.some.inj (congrArg (fun l => l[34]?) (fK b)))) (b.cl ▸ (fnp_new b.st (fI := 75) (by rw [b.cl]; exact (Option.some.inj (congrArg (fun l => l[2]?) (fB b)))) (by rw [b.cl]; exact (Option.some.inj (congrArg (fun l => l[10]?) (fI b)))) (by exact (Option.some.inj (congrArg (fun l => l[0]?) (fY b)))) (Bd.fc_init b)))
noncomputable def bw_new_net : BW := seqBW (asgBW (attrW "count" (nameW 0)) (nameA 1)) (seqBW (augAttrBW "count" .Add (nameW 0) (constW (.int 1))) (seqBW (retBW (nameW 1)) (nextBW)))
noncomputable def f_new_net : FW := defF 1 2 bw_new_net
theorem Bd.fc_new_net (b : Bd S) : FnP S 1 (.ref 82) f_new_net := by
 have hS := b.st
 have hC := hS.C
 obtain ⟨oc, od, nm, qual, doc, pm, an, ct, osl, ho, hcd⟩ := b.ho (Option.some.inj (congrArg (fun l => l[35]?) (fF b)))
 refine' fnp_def (n := 0) (k := 1) (m := 2) (W := bw_new_net) (ps := [Str.ofString "self"]) hS (f := 82) (ho := ho) (hcd := hcd) (ok := ?ok) (hk := rfl) (hm := ?hm) (hb := ?hb) (h := ?h)
 case ok => kernel_rfl
 case hm => kernel_rfl
 case hb => intro xs hx; obtain ⟨a0, rfl⟩ := len1 hx; kernel_rfl
 case h => exact PB.cons (PS.asg hC (PE.attr hS (b.ao_count) (PE.nl (by kernel_rfl))) (PA.nl (by kernel_rfl))) (PB.cons (PS.augAttr hS (b.ao_count) (b.as_count) (PE.nl (by kernel_rfl)) (PE.int)) (PB.cons (PS.ret hC (PE.nl (by kernel_rfl))) (PB.nil)))
theorem Bd.mn_new_net (b : Bd S) : MN S 1 "new_net" f_new_net := mn_fn (f := 82) (by rw [b.cl]; exact (Option.some.inj (congrArg (fun l => l[5]?) (fP b)))) (by rw [b.cl]; exact (Option.some.inj (congrArg (fun l => l[5]?) (fI b)))) (by exact beq_iff_eq.mpr (Option.some.inj (congrArg (fun l => l[1]?) (fY b)))) (by exact (Option.some.inj (congrArg (fun l => l[35]?) (fK b)))) (Bd.fc_new_net b)
noncomputable def bw_new_nets : BW := seqBW (retBW (compW [none, none, some 0] (rangeW (consW (nameW 1) (nilW))) (nameA 1) (trueTW true) (meth0W "new_net" (nameW 2) f_new_net))) (nextBW)
noncomputable def f_new_nets : FW := defF 2 3 bw_new_nets
theorem Bd.fc_new_nets (b : Bd S) : FnP S 2 (.ref 87) f_new_nets := by
 have hS := b.st
 have hC := hS.C
 obtain ⟨oc, od, nm, qual, doc, pm, an, ct, osl, ho, hcd⟩ := b.ho (Option.some.inj (congrArg (fun l => l[36]?) (fF b)))
 refine' fnp_def (n := 1) (k := 2) (m := 3) (W := bw_new_nets) (ps := [Str.ofString "self", Str.ofString "width"]) hS (f := 87) (ho := ho) (hcd := hcd) (ok := ?ok) (hk := rfl) (hm := ?hm) (hb := ?hb) (h := ?h)
 case ok => kernel_rfl
 case hm => kernel_rfl
 case hb => intro xs hx; obtain ⟨a0, a1, rfl⟩ := len2 hx; kernel_rfl
 case h => exact PB.cons (PS.ret hC (PE.comp hC (by kernel_rfl) (by kernel_rfl) (PI.range hS (i := 2) (by kernel_rfl) (b.no_range) (PEs.cons hC (PE.nl (by kernel_rfl)) (PEs.nil))) (PA.nl (by kernel_rfl)) (PTs.nil) (PE.meth0 hS (b.mn_new_net.le (by decide)) (PE.name (k := .cell) (by kernel_rfl))))) (PB.nil)
theorem Bd.mn_new_nets (b : Bd S) : MN S 2 "new_nets" f_new_nets := mn_fn (f := 87) (by rw [b.cl]; exact (Option.some.inj (congrArg (fun l => l[6]?) (fP b)))) (by rw [b.cl]; exact (Option.some.inj (congrArg (fun l => l[6]?) (fI b)))) (by exact beq_iff_eq.mpr (Option.some.inj (congrArg (fun l => l[2]?) (fY b)))) (by exact (Option.some.inj (congrArg (fun l => l[36]?) (fK b)))) (Bd.fc_new_nets b)
noncomputable def bw_add_input : BW := seqBW (asgBW (methW "new_nets" (nameW 0) (consW (nameW 2) (nilW)) f_new_nets) (nameA 3)) (seqBW (exprBW (appendW (attrW "inputs" (nameW 0)) (tupW (consW (nameW 1) (consW (callW (consW (nameW 3) (nilW)) listF) (nilW)))))) (seqBW (retBW (nameW 3)) (nextBW)))
noncomputable def f_add_input : FW := defF 3 5 bw_add_input
theorem Bd.fc_add_input (b : Bd S) : FnP S 3 (.ref 94) f_add_input := by
 have hS := b.st
 have hC := hS.C
 obtain ⟨oc, od, nm, qual, doc, pm, an, ct, osl, ho, hcd⟩ := b.ho (Option.some.inj (congrArg (fun l => l[37]?) (fF b)))
 refine' fnp_def (n := 2) (k := 3) (m := 5) (W := bw_add_input) (ps := [Str.ofString "self", Str.ofString "name", Str.ofString "width"]) hS (f := 94) (ho := ho) (hcd := hcd) (ok := ?ok) (hk := rfl) (hm := ?hm) (hb := ?hb) (h := ?h)
 case ok => kernel_rfl
 case hm => kernel_rfl
 case hb => intro xs hx; obtain ⟨a0, a1, a2, rfl⟩ := len3 hx; kernel_rfl
 case h => exact PB.cons (PS.asg hC (PE.meth hS (b.mn_new_nets.le (by decide)) (PE.nl (by kernel_rfl)) (PEs.cons hC (PE.nl (by kernel_rfl)) (PEs.nil))) (PA.nl (by kernel_rfl))) (PB.cons (PS.expr hC (PE.append hS (PE.attr hS (b.ao_inputs) (PE.nl (by kernel_rfl))) (PE.tup hC (PEs.cons hC (PE.nl (by kernel_rfl)) (PEs.cons hC (PE.call hS (i := 4) (by kernel_rfl) b.cn_list (PEs.cons hC (PE.nl (by kernel_rfl)) (PEs.nil))) (PEs.nil)))))) (PB.cons (PS.ret hC (PE.nl (by kernel_rfl))) (PB.nil)))
theorem Bd.mn_add_input (b : Bd S) : MN S 3 "add_input" f_add_input := mn_fn (f := 94) (by rw [b.cl]; exact (Option.some.inj (congrArg (fun l => l[7]?) (fP b)))) (by rw [b.cl]; exact (Option.some.inj (congrArg (fun l => l[7]?) (fI b)))) (by exact beq_iff_eq.mpr (Option.some.inj (congrArg (fun l => l[3]?) (fY b)))) (by exact (Option.some.inj (congrArg (fun l => l[37]?) (fK b)))) (Bd.fc_add_input b)
noncomputable def bw_add_output : BW := seqBW (exprBW (appendW (attrW "outputs" (nameW 0)) (tupW (consW (nameW 1) (consW (callW (consW (nameW 2) (nilW)) listF) (nilW)))))) (nextBW)
noncomputable def f_add_output : FW := defF 3 4 bw_add_output
theorem Bd.fc_add_output (b : Bd S) : FnP S 1 (.ref 101) f_add_output := by
 have hS := b.st
 have hC := hS.C
 obtain ⟨oc, od, nm, qual, doc, pm, an, ct, osl, ho, hcd⟩ := b.ho (Option.some.inj (congrArg (fun l => l[38]?) (fF b)))
 refine' fnp_def (n := 0) (k := 3) (m := 4) (W := bw_add_output) (ps := [Str.ofString "self", Str.ofString "name", Str.ofString "nets"]) hS (f := 101) (ho := ho) (hcd := hcd) (ok := ?ok) (hk := rfl) (hm := ?hm) (hb := ?hb) (h := ?h)
 case ok => kernel_rfl
 case hm => kernel_rfl
 case hb => intro xs hx; obtain ⟨a0, a1, a2, rfl⟩ := len3 hx; kernel_rfl
 case h => exact PB.cons (PS.expr hC (PE.append hS (PE.attr hS (b.ao_outputs) (PE.nl (by kernel_rfl))) (PE.tup hC (PEs.cons hC (PE.nl (by kernel_rfl)) (PEs.cons hC (PE.call hS (i := 3) (by kernel_rfl) b.cn_list (PEs.cons hC (PE.nl (by kernel_rfl)) (PEs.nil))) (PEs.nil)))))) (PB.nil)
theorem Bd.mn_add_output (b : Bd S) : MN S 1 "add_output" f_add_output := mn_fn (f := 101) (by rw [b.cl]; exact (Option.some.inj (congrArg (fun l => l[8]?) (fP b)))) (by rw [b.cl]; exact (Option.some.inj (congrArg (fun l => l[8]?) (fI b)))) (by exact beq_iff_eq.mpr (Option.some.inj (congrArg (fun l => l[4]?) (fY b)))) (by exact (Option.some.inj (congrArg (fun l => l[38]?) (fK b)))) (Bd.fc_add_output b)
noncomputable def bw_drive : BW := seqBW (exprBW (appendW (attrW "cells" (nameW 0)) (tupW (consW (nameW 2) (consW (nameW 1) (consW (callW (consW (nameW 3) (nilW)) tupleF) (consW (nameW 4) (nilW)))))))) (nextBW)
noncomputable def f_drive : FW := defF 5 6 bw_drive
theorem Bd.fc_drive (b : Bd S) : FnP S 1 (.ref 117) f_drive := by
 have hS := b.st
 have hC := hS.C
 obtain ⟨oc, od, nm, qual, doc, pm, an, ct, osl, ho, hcd⟩ := b.ho (Option.some.inj (congrArg (fun l => l[39]?) (fF b)))
 refine' fnp_defB (n := 0) (k := 5) (m := 6) (W := bw_drive) (ps := [Str.ofString "self", Str.ofString "out", Str.ofString "kind", Str.ofString "ins", Str.ofString "param"]) hS (f := 117) (ho := ho) (hcd := hcd) (ok := ?ok) (hk := rfl) (hm := ?hm) (hb := ?hb) (h := ?h)
 case ok => kernel_rfl
 case hm => kernel_rfl
 case hb =>
  intro s xs X hx
  obtain ⟨a0, a1, a2, a3, a4, rfl⟩ := len5 hx
  refine kp_binds X (fun S₀ => ?_)
  have e := fD b
  unfold bindR expD at e
  rw [ho] at e
  exact congrFun (congrFun (congrFun (congrFun (congrFun (congrFun (Option.some.inj e) S₀) a0) a1) a2) a3) a4
 case h => exact PB.cons (PS.expr hC (PE.append hS (PE.attr hS (b.ao_cells) (PE.nl (by kernel_rfl))) (PE.tup hC (PEs.cons hC (PE.nl (by kernel_rfl)) (PEs.cons hC (PE.nl (by kernel_rfl)) (PEs.cons hC (PE.call hS (i := 5) (by kernel_rfl) b.cn_tuple (PEs.cons hC (PE.nl (by kernel_rfl)) (PEs.nil))) (PEs.cons hC (PE.nl (by kernel_rfl)) (PEs.nil)))))))) (PB.nil)
theorem Bd.mn_drive (b : Bd S) : MN S 1 "drive" f_drive := mn_fn (f := 117) (by rw [b.cl]; exact (Option.some.inj (congrArg (fun l => l[9]?) (fP b)))) (by rw [b.cl]; exact (Option.some.inj (congrArg (fun l => l[9]?) (fI b)))) (by exact beq_iff_eq.mpr (Option.some.inj (congrArg (fun l => l[5]?) (fY b)))) (by exact (Option.some.inj (congrArg (fun l => l[39]?) (fK b)))) (Bd.fc_drive b)
noncomputable def bw_state_cells : BW := seqBW (asgBW (listW (nilW)) (nameA 1)) (seqBW (forBW (rangeW (consW (callW (consW (attrW "cells" (nameW 0)) (nilW)) lenF) (nilW))) (nameA 2) (seqBW (ifBW (plainTW (callW (consW (subW (subW (attrW "cells" (nameW 0)) (nameW 2)) (constW (.int 0))) (nilW)) f_is_state_kind)) (seqBW (exprBW (appendW (nameW 1) (nameW 2))) (nextBW)) (nextBW)) (nextBW))) (seqBW (retBW (nameW 1)) (nextBW)))
noncomputable def f_state_cells : FW := defF 1 6 bw_state_cells
theorem Bd.fc_state_cells (b : Bd S) : FnP S 2 (.ref 145) f_state_cells := by
 have hS := b.st
 have hC := hS.C
 obtain ⟨oc, od, nm, qual, doc, pm, an, ct, osl, ho, hcd⟩ := b.ho (Option.some.inj (congrArg (fun l => l[1]?) (fF b)))
 refine' fnp_def (n := 1) (k := 1) (m := 6) (W := bw_state_cells) (ps := [Str.ofString "netlist"]) hS (f := 145) (ho := ho) (hcd := hcd) (ok := ?ok) (hk := rfl) (hm := ?hm) (hb := ?hb) (h := ?h)
 case ok => kernel_rfl
 case hm => kernel_rfl
 case hb => intro xs hx; obtain ⟨a0, rfl⟩ := len1 hx; kernel_rfl
 case h => exact PB.cons (PS.asg hC (PE.list hC (PEs.nil)) (PA.nl (by kernel_rfl))) (PB.cons (PS.for hC (PI.range hS (i := 3) (by kernel_rfl) (b.no_range) (PEs.cons hC (PE.call hS (i := 4) (by kernel_rfl) b.cn_len (PEs.cons hC (PE.attr hS (b.ao_cells) (PE.nl (by kernel_rfl))) (PEs.nil))) (PEs.nil))) (PA.nl (by kernel_rfl)) (PB.cons (PS.ite hC (PT.plain hC (PE.call hS (i := 5) (by kernel_rfl) (b.cn_is_state_kind.le (by decide)) (PEs.cons hC (PE.sub hC (PE.sub hC (PE.attr hS (b.ao_cells) (PE.nl (by kernel_rfl))) (PE.nl (by kernel_rfl))) (PE.int)) (PEs.nil)))) (PB.cons (PS.expr hC (PE.append hS (PE.nl (by kernel_rfl)) (PE.nl (by kernel_rfl)))) (PB.nil)) (PB.nil)) (PB.nil))) (PB.cons (PS.ret hC (PE.nl (by kernel_rfl))) (PB.nil)))
theorem Bd.cn_state_cells (b : Bd S) : CN S 2 (Str.ofString "state_cells") f_state_cells := cn_fn b.st (f := .ref 145) (by exact (Option.some.inj (congrArg (fun l => l[1]?) (fN b)))) (by exact (Option.some.inj (congrArg (fun l => l[1]?) (fK b)))) (Bd.fc_state_cells b)
noncomputable def bw_drivers : BW := seqBW (asgBW (dict2W 0 1 true true) (nameA 1)) (seqBW (forBW (srcW (attrW "inputs" (nameW 0))) (tupA 2 (consAs (nameA 2) (consAs (nameA 3) (nilAs)))) (seqBW (forBW (srcW (nameW 3)) (nameA 4) (seqBW (ifBW (cmpTW .In (nameW 4) (nameW 1)) (seqBW (falseBW) (nextBW)) (nextBW)) (seqBW (asgBW (constW (.bool true)) (subA (nameW 1) (nameW 4))) (nextBW)))) (nextBW))) (seqBW (asgBW (dict0W) (nameA 5)) (seqBW (forBW (rangeW (consW (callW (consW (attrW "cells" (nameW 0)) (nilW)) lenF) (nilW))) (nameA 6) (seqBW (asgBW (subW (subW (attrW "cells" (nameW 0)) (nameW 6)) (constW (.int 1))) (nameA 4)) (seqBW (ifBW (cmpTW .In (nameW 4) (nameW 1)) (seqBW (falseBW) (nextBW)) (nextBW)) (seqBW (asgBW (constW (.bool true)) (subA (nameW 1) (nameW 4))) (seqBW (asgBW (nameW 6) (subA (nameW 5) (nameW 4))) (nextBW)))))) (seqBW (retBW (nameW 5)) (nextBW)))))
noncomputable def f_drivers : FW := defF 1 13 bw_drivers
theorem Bd.fc_drivers (b : Bd S) : FnP S 1 (.ref 152) f_drivers := by
 have hS := b.st
 have hC := hS.C
 obtain ⟨oc, od, nm, qual, doc, pm, an, ct, osl, ho, hcd⟩ := b.ho (Option.some.inj (congrArg (fun l => l[2]?) (fF b)))
 refine' fnp_def (n := 0) (k := 1) (m := 13) (W := bw_drivers) (ps := [Str.ofString "netlist"]) hS (f := 152) (ho := ho) (hcd := hcd) (ok := ?ok) (hk := rfl) (hm := ?hm) (hb := ?hb) (h := ?h)
 case ok => kernel_rfl
 case hm => kernel_rfl
 case hb => intro xs hx; obtain ⟨a0, rfl⟩ := len1 hx; kernel_rfl
 case h => exact PB.cons (PS.asg hC (PE.dict2 hS (i := 7) (j := 8) (by kernel_rfl) (b.CONST0) (by kernel_rfl) (b.CONST1)) (PA.nl (by kernel_rfl))) (PB.cons (PS.for hC (PI.of hC (PE.attr hS (b.ao_inputs) (PE.nl (by kernel_rfl)))) (PA.tup hC (PAs.cons hC (PA.nl (by kernel_rfl)) (PAs.cons hC (PA.nl (by kernel_rfl)) (PAs.nil)))) (PB.cons (PS.for hC (PI.of hC (PE.nl (by kernel_rfl))) (PA.nl (by kernel_rfl)) (PB.cons (PS.ite hC (PT.cmp hC (PE.nl (by kernel_rfl)) (PE.nl (by kernel_rfl))) (PB.cons (PS.absurd) (PB.nil)) (PB.nil)) (PB.cons (PS.asg hC (PE.bool) (PA.sub hC (PE.nl (by kernel_rfl)) (PE.nl (by kernel_rfl)))) (PB.nil)))) (PB.nil))) (PB.cons (PS.asg hC (PE.dict0 hC) (PA.nl (by kernel_rfl))) (PB.cons (PS.for hC (PI.range hS (i := 11) (by kernel_rfl) (b.no_range) (PEs.cons hC (PE.call hS (i := 12) (by kernel_rfl) b.cn_len (PEs.cons hC (PE.attr hS (b.ao_cells) (PE.nl (by kernel_rfl))) (PEs.nil))) (PEs.nil))) (PA.nl (by kernel_rfl)) (PB.cons (PS.asg hC (PE.sub hC (PE.sub hC (PE.attr hS (b.ao_cells) (PE.nl (by kernel_rfl))) (PE.nl (by kernel_rfl))) (PE.int)) (PA.nl (by kernel_rfl))) (PB.cons (PS.ite hC (PT.cmp hC (PE.nl (by kernel_rfl)) (PE.nl (by kernel_rfl))) (PB.cons (PS.absurd) (PB.nil)) (PB.nil)) (PB.cons (PS.asg hC (PE.bool) (PA.sub hC (PE.nl (by kernel_rfl)) (PE.nl (by kernel_rfl)))) (PB.cons (PS.asg hC (PE.nl (by kernel_rfl)) (PA.sub hC (PE.nl (by kernel_rfl)) (PE.nl (by kernel_rfl)))) (PB.nil)))))) (PB.cons (PS.ret hC (PE.nl (by kernel_rfl))) (PB.nil)))))
theorem Bd.cn_drivers (b : Bd S) : CN S 1 (Str.ofString "drivers") f_drivers := cn_fn b.st (f := .ref 152) (by exact (Option.some.inj (congrArg (fun l => l[2]?) (fN b)))) (by exact (Option.some.inj (congrArg (fun l => l[2]?) (fK b)))) (Bd.fc_drivers b)
noncomputable def bw_ordered_cells : BW := seqBW (asgBW (attrW "cells" (nameW 0)) (nameA 2)) (seqBW (asgBW (dict0W) (nameA 3)) (seqBW (asgBW (dict0W) (nameA 4)) (seqBW (asgBW (listW (nilW)) (nameA 5)) (seqBW (forBW (rangeW (consW (callW (consW (nameW 2) (nilW)) lenF) (nilW))) (nameA 6) (seqBW (ifBW (plainTW (callW (consW (subW (subW (nameW 2) (nameW 6)) (constW (.int 0))) (nilW)) f_is_state_kind)) (seqBW (contBW) (nextBW)) (nextBW)) (seqBW (asgBW (constW (.int 0)) (nameA 7)) (seqBW (forBW (srcW (subW (subW (nameW 2) (nameW 6)) (constW (.int 2)))) (nameA 8) (seqBW (asgBW (dgetW (nameW 1) (nameW 8) (negW (constW (.int 1)))) (nameA 9)) (seqBW (ifBW (andTW (cmpTW .GtE (nameW 9) (constW (.int 0))) (andTW (notTW (plainTW (callW (consW (subW (subW (nameW 2) (nameW 9)) (constW (.int 0))) (nilW)) f_is_state_kind))) (trueTW true))) (seqBW (augNameBW 7 .Add (constW (.int 1))) (seqBW (ifBW (cmpTW .NotIn (nameW 9) (nameW 4)) (seqBW (asgBW (listW (nilW)) (subA (nameW 4) (nameW 9))) (nextBW)) (nextBW)) (seqBW (exprBW (appendW (subW (nameW 4) (nameW 9)) (nameW 6))) (nextBW)))) (nextBW)) (nextBW)))) (seqBW (asgBW (nameW 7) (subA (nameW 3) (nameW 6))) (seqBW (ifBW (cmpTW .Eq (nameW 7) (constW (.int 0))) (seqBW (exprBW (appendW (nameW 5) (nameW 6))) (nextBW)) (nextBW)) (nextBW))))))) (seqBW (asgBW (constW (.int 0)) (nameA 10)) (seqBW (whileBW (cmpTW .Lt (nameW 10) (callW (consW (nameW 5) (nilW)) lenF)) (seqBW (forBW (srcW (dgetW (nameW 4) (subW (nameW 5) (nameW 10)) (listW (nilW)))) (nameA 6) (seqBW (augSubBW .Sub (nameW 3) (nameW 6) (constW (.int 1))) (seqBW (ifBW (cmpTW .Eq (subW (nameW 3) (nameW 6)) (constW (.int 0))) (seqBW (exprBW (appendW (nameW 5) (nameW 6))) (nextBW)) (nextBW)) (nextBW)))) (seqBW (augNameBW 10 .Add (constW (.int 1))) (nextBW)))) (seqBW (retBW (nameW 5)) (nextBW))))))))
noncomputable def f_ordered_cells : FW := defF 2 14 bw_ordered_cells
theorem Bd.fc_ordered_cells (b : Bd S) : FnP S 2 (.ref 159) f_ordered_cells := by
 have hS := b.st
 have hC := hS.C
 obtain ⟨oc, od, nm, qual, doc, pm, an, ct, osl, ho, hcd⟩ := b.ho (Option.some.inj (congrArg (fun l => l[3]?) (fF b)))
 refine' fnp_def (n := 1) (k := 2) (m := 14) (W := bw_ordered_cells) (ps := [Str.ofString "netlist", Str.ofString "driven"]) hS (f := 159) (ho := ho) (hcd := hcd) (ok := ?ok) (hk := rfl) (hm := ?hm) (hb := ?hb) (h := ?h)
 case ok => kernel_rfl
 case hm => kernel_rfl
 case hb => intro xs hx; obtain ⟨a0, a1, rfl⟩ := len2 hx; kernel_rfl
 case h => exact PB.cons (PS.asg hC (PE.attr hS (b.ao_cells) (PE.nl (by kernel_rfl))) (PA.nl (by kernel_rfl))) (PB.cons (PS.asg hC (PE.dict0 hC) (PA.nl (by kernel_rfl))) (PB.cons (PS.asg hC (PE.dict0 hC) (PA.nl (by kernel_rfl))) (PB.cons (PS.asg hC (PE.list hC (PEs.nil)) (PA.nl (by kernel_rfl))) (PB.cons (PS.for hC (PI.range hS (i := 11) (by kernel_rfl) (b.no_range) (PEs.cons hC (PE.call hS (i := 12) (by kernel_rfl) b.cn_len (PEs.cons hC (PE.nl (by kernel_rfl)) (PEs.nil))) (PEs.nil))) (PA.nl (by kernel_rfl)) (PB.cons (PS.ite hC (PT.plain hC (PE.call hS (i := 13) (by kernel_rfl) (b.cn_is_state_kind.le (by decide)) (PEs.cons hC (PE.sub hC (PE.sub hC (PE.nl (by kernel_rfl)) (PE.nl (by kernel_rfl))) (PE.int)) (PEs.nil)))) (PB.cons (PS.cont) (PB.nil)) (PB.nil)) (PB.cons (PS.asg hC (PE.int) (PA.nl (by kernel_rfl))) (PB.cons (PS.for hC (PI.of hC (PE.sub hC (PE.sub hC (PE.nl (by kernel_rfl)) (PE.nl (by kernel_rfl))) (PE.int))) (PA.nl (by kernel_rfl)) (PB.cons (PS.asg hC (PE.dictGet hS (PE.nl (by kernel_rfl)) (PE.nl (by kernel_rfl)) (PE.neg hC (PE.int))) (PA.nl (by kernel_rfl))) (PB.cons (PS.ite hC (PT.and hC (PT.cmp hC (PE.nl (by kernel_rfl)) (PE.int)) (PT.and hC (PT.not hC (PT.plain hC (PE.call hS (i := 13) (by kernel_rfl) (b.cn_is_state_kind.le (by decide)) (PEs.cons hC (PE.sub hC (PE.sub hC (PE.nl (by kernel_rfl)) (PE.nl (by kernel_rfl))) (PE.int)) (PEs.nil))))) (PT.and0))) (PB.cons (PS.augName hC (k := .local) (by kernel_rfl) (PE.int)) (PB.cons (PS.ite hC (PT.cmp hC (PE.nl (by kernel_rfl)) (PE.nl (by kernel_rfl))) (PB.cons (PS.asg hC (PE.list hC (PEs.nil)) (PA.sub hC (PE.nl (by kernel_rfl)) (PE.nl (by kernel_rfl)))) (PB.nil)) (PB.nil)) (PB.cons (PS.expr hC (PE.append hS (PE.sub hC (PE.nl (by kernel_rfl)) (PE.nl (by kernel_rfl))) (PE.nl (by kernel_rfl)))) (PB.nil)))) (PB.nil)) (PB.nil)))) (PB.cons (PS.asg hC (PE.nl (by kernel_rfl)) (PA.sub hC (PE.nl (by kernel_rfl)) (PE.nl (by kernel_rfl)))) (PB.cons (PS.ite hC (PT.cmp hC (PE.nl (by kernel_rfl)) (PE.int)) (PB.cons (PS.expr hC (PE.append hS (PE.nl (by kernel_rfl)) (PE.nl (by kernel_rfl)))) (PB.nil)) (PB.nil)) (PB.nil))))))) (PB.cons (PS.asg hC (PE.int) (PA.nl (by kernel_rfl))) (PB.cons (PS.while hC (PT.cmp hC (PE.nl (by kernel_rfl)) (PE.call hS (i := 12) (by kernel_rfl) b.cn_len (PEs.cons hC (PE.nl (by kernel_rfl)) (PEs.nil)))) (PB.cons (PS.for hC (PI.of hC (PE.dictGet hS (PE.nl (by kernel_rfl)) (PE.sub hC (PE.nl (by kernel_rfl)) (PE.nl (by kernel_rfl))) (PE.list hC (PEs.nil)))) (PA.nl (by kernel_rfl)) (PB.cons (PS.augSub hC (PE.nl (by kernel_rfl)) (PE.nl (by kernel_rfl)) (PE.int)) (PB.cons (PS.ite hC (PT.cmp hC (PE.sub hC (PE.nl (by kernel_rfl)) (PE.nl (by kernel_rfl))) (PE.int)) (PB.cons (PS.expr hC (PE.append hS (PE.nl (by kernel_rfl)) (PE.nl (by kernel_rfl)))) (PB.nil)) (PB.nil)) (PB.nil)))) (PB.cons (PS.augName hC (k := .local) (by kernel_rfl) (PE.int)) (PB.nil)))) (PB.cons (PS.ret hC (PE.nl (by kernel_rfl))) (PB.nil))))))))
theorem Bd.cn_ordered_cells (b : Bd S) : CN S 2 (Str.ofString "ordered_cells") f_ordered_cells := cn_fn b.st (f := .ref 159) (by exact (Option.some.inj (congrArg (fun l => l[3]?) (fN b)))) (by exact (Option.some.inj (congrArg (fun l => l[3]?) (fK b)))) (Bd.fc_ordered_cells b)
noncomputable def bw_comb_order : BW := seqBW (asgBW (callW (consW (nameW 0) (consW (callW (consW (nameW 0) (nilW)) f_drivers) (nilW))) f_ordered_cells) (nameA 1)) (seqBW (ifBW (cmpTW .Lt (binW .Add (callW (consW (nameW 1) (nilW)) lenF) (callW (consW (callW (consW (nameW 0) (nilW)) f_state_cells) (nilW)) lenF)) (callW (consW (attrW "cells" (nameW 0)) (nilW)) lenF)) (seqBW (falseBW) (nextBW)) (nextBW)) (seqBW (retBW (nameW 1)) (nextBW)))
noncomputable def f_comb_order : FW := defF 1 7 bw_comb_order
theorem Bd.fc_comb_order (b : Bd S) : FnP S 3 (.ref 166) f_comb_order := by
 have hS := b.st
 have hC := hS.C
 obtain ⟨oc, od, nm, qual, doc, pm, an, ct, osl, ho, hcd⟩ := b.ho (Option.some.inj (congrArg (fun l => l[4]?) (fF b)))
 refine' fnp_def (n := 2) (k := 1) (m := 7) (W := bw_comb_order) (ps := [Str.ofString "netlist"]) hS (f := 166) (ho := ho) (hcd := hcd) (ok := ?ok) (hk := rfl) (hm := ?hm) (hb := ?hb) (h := ?h)
 case ok => kernel_rfl
 case hm => kernel_rfl
 case hb => intro xs hx; obtain ⟨a0, rfl⟩ := len1 hx; kernel_rfl
 case h => exact PB.cons (PS.asg hC (PE.call hS (i := 2) (by kernel_rfl) (b.cn_ordered_cells.le (by decide)) (PEs.cons hC (PE.nl (by kernel_rfl)) (PEs.cons hC (PE.call hS (i := 3) (by kernel_rfl) (b.cn_drivers.le (by decide)) (PEs.cons hC (PE.nl (by kernel_rfl)) (PEs.nil))) (PEs.nil)))) (PA.nl (by kernel_rfl))) (PB.cons (PS.ite hC (PT.cmp hC (PE.bin hC (PE.call hS (i := 4) (by kernel_rfl) b.cn_len (PEs.cons hC (PE.nl (by kernel_rfl)) (PEs.nil))) (PE.call hS (i := 4) (by kernel_rfl) b.cn_len (PEs.cons hC (PE.call hS (i := 5) (by kernel_rfl) (b.cn_state_cells.le (by decide)) (PEs.cons hC (PE.nl (by kernel_rfl)) (PEs.nil))) (PEs.nil)))) (PE.call hS (i := 4) (by kernel_rfl) b.cn_len (PEs.cons hC (PE.attr hS (b.ao_cells) (PE.nl (by kernel_rfl))) (PEs.nil)))) (PB.cons (PS.absurd) (PB.nil)) (PB.nil)) (PB.cons (PS.ret hC (PE.nl (by kernel_rfl))) (PB.nil)))
theorem Bd.cn_comb_order (b : Bd S) : CN S 3 (Str.ofString "comb_order") f_comb_order := cn_fn b.st (f := .ref 166) (by exact (Option.some.inj (congrArg (fun l => l[4]?) (fN b)))) (by exact (Option.some.inj (congrArg (fun l => l[4]?) (fK b)))) (Bd.fc_comb_order b)
noncomputable def bw_rebuilt_cells : BW := seqBW (asgBW (callW (consW (attrW "name" (nameW 0)) (nilW)) (newF f_init)) (nameA 3)) (seqBW (asgBW (attrW "count" (nameW 0)) (attrA "count" (nameW 3))) (seqBW (forBW (srcW (attrW "inputs" (nameW 0))) (tupA 2 (consAs (nameA 4) (consAs (nameA 5) (nilAs)))) (seqBW (exprBW (appendW (attrW "inputs" (nameW 3)) (tupW (consW (nameW 4) (consW (callW (consW (nameW 5) (nilW)) listF) (nilW)))))) (nextBW))) (seqBW (forBW (srcW (nameW 1)) (tupA 4 (consAs (nameA 6) (consAs (nameA 7) (consAs (nameA 8) (consAs (nameA 9) (nilAs)))))) (seqBW (ifBW (cmpTW .NotIn (nameW 7) (nameW 2)) (seqBW (exprBW (methW "drive" (nameW 3) (consW (nameW 7) (consW (nameW 6) (consW (compW [none, none, none, some 2] (srcW (nameW 8)) (nameA 1) (trueTW true) (callW (consW (nameW 3) (consW (nameW 1) (nilW))) f_final_net)) (consW (nameW 9) (nilW))))) f_drive)) (nextBW)) (nextBW)) (nextBW))) (seqBW (forBW (srcW (attrW "outputs" (nameW 0))) (tupA 2 (consAs (nameA 4) (consAs (nameA 5) (nilAs)))) (seqBW (exprBW (methW "add_output" (nameW 3) (consW (nameW 4) (consW (compW [none, none, none, some 2] (srcW (nameW 5)) (nameA 1) (trueTW true) (callW (consW (nameW 3) (consW (nameW 1) (nilW))) f_final_net)) (nilW))) f_add_output)) (nextBW))) (seqBW (retBW (nameW 3)) (nextBW))))))
noncomputable def f_rebuilt_cells : FW := defF 3 12 bw_rebuilt_cells
theorem Bd.fc_rebuilt_cells (b : Bd S) : FnP S 3 (.ref 234) f_rebuilt_cells := by
 have hS := b.st
 have hC := hS.C
 obtain ⟨oc, od, nm, qual, doc, pm, an, ct, osl, ho, hcd⟩ := b.ho (Option.some.inj (congrArg (fun l => l[14]?) (fF b)))
 refine' fnp_def (n := 2) (k := 3) (m := 12) (W := bw_rebuilt_cells) (ps := [Str.ofString "netlist", Str.ofString "cells", Str.ofString "replaced"]) hS (f := 234) (ho := ho) (hcd := hcd) (ok := ?ok) (hk := rfl) (hm := ?hm) (hb := ?hb) (h := ?h)
 case ok => kernel_rfl
 case hm => kernel_rfl
 case hb => intro xs hx; obtain ⟨a0, a1, a2, rfl⟩ := len3 hx; kernel_rfl
 case h => exact PB.cons (PS.asg hC (PE.call hS (i := 10) (by kernel_rfl) (b.cn_Netlist.le (by decide)) (PEs.cons hC (PE.attr hS (b.ao_name) (PE.nl (by kernel_rfl))) (PEs.nil))) (PA.nl (by kernel_rfl))) (PB.cons (PS.asg hC (PE.attr hS (b.ao_count) (PE.nl (by kernel_rfl))) (PA.attr hS (b.as_count) (PE.nl (by kernel_rfl)))) (PB.cons (PS.for hC (PI.of hC (PE.attr hS (b.ao_inputs) (PE.nl (by kernel_rfl)))) (PA.tup hC (PAs.cons hC (PA.nl (by kernel_rfl)) (PAs.cons hC (PA.nl (by kernel_rfl)) (PAs.nil)))) (PB.cons (PS.expr hC (PE.append hS (PE.attr hS (b.ao_inputs) (PE.nl (by kernel_rfl))) (PE.tup hC (PEs.cons hC (PE.nl (by kernel_rfl)) (PEs.cons hC (PE.call hS (i := 11) (by kernel_rfl) b.cn_list (PEs.cons hC (PE.nl (by kernel_rfl)) (PEs.nil))) (PEs.nil)))))) (PB.nil))) (PB.cons (PS.for hC (PI.of hC (PE.nl (by kernel_rfl))) (PA.tup hC (PAs.cons hC (PA.nl (by kernel_rfl)) (PAs.cons hC (PA.nl (by kernel_rfl)) (PAs.cons hC (PA.nl (by kernel_rfl)) (PAs.cons hC (PA.nl (by kernel_rfl)) (PAs.nil)))))) (PB.cons (PS.ite hC (PT.cmp hC (PE.nl (by kernel_rfl)) (PE.name (k := .cell) (by kernel_rfl))) (PB.cons (PS.expr hC (PE.meth hS (b.mn_drive.le (by decide)) (PE.nl (by kernel_rfl)) (PEs.cons hC (PE.nl (by kernel_rfl)) (PEs.cons hC (PE.nl (by kernel_rfl)) (PEs.cons hC (PE.comp hC (by kernel_rfl) (by kernel_rfl) (PI.of hC (PE.nl (by kernel_rfl))) (PA.nl (by kernel_rfl)) (PTs.nil) (PE.call hS (i := 2) (by kernel_rfl) (b.cn_final_net.le (by decide)) (PEs.cons hC (PE.name (k := .cell) (by kernel_rfl)) (PEs.cons hC (PE.nl (by kernel_rfl)) (PEs.nil))))) (PEs.cons hC (PE.nl (by kernel_rfl)) (PEs.nil))))))) (PB.nil)) (PB.nil)) (PB.nil))) (PB.cons (PS.for hC (PI.of hC (PE.attr hS (b.ao_outputs) (PE.nl (by kernel_rfl)))) (PA.tup hC (PAs.cons hC (PA.nl (by kernel_rfl)) (PAs.cons hC (PA.nl (by kernel_rfl)) (PAs.nil)))) (PB.cons (PS.expr hC (PE.meth hS (b.mn_add_output.le (by decide)) (PE.nl (by kernel_rfl)) (PEs.cons hC (PE.nl (by kernel_rfl)) (PEs.cons hC (PE.comp hC (by kernel_rfl) (by kernel_rfl) (PI.of hC (PE.nl (by kernel_rfl))) (PA.nl (by kernel_rfl)) (PTs.nil) (PE.call hS (i := 2) (by kernel_rfl) (b.cn_final_net.le (by decide)) (PEs.cons hC (PE.name (k := .cell) (by kernel_rfl)) (PEs.cons hC (PE.nl (by kernel_rfl)) (PEs.nil))))) (PEs.nil))))) (PB.nil))) (PB.cons (PS.ret hC (PE.nl (by kernel_rfl))) (PB.nil))))))
theorem Bd.cn_rebuilt_cells (b : Bd S) : CN S 3 (Str.ofString "rebuilt_cells") f_rebuilt_cells := cn_fn b.st (f := .ref 234) (by exact (Option.some.inj (congrArg (fun l => l[14]?) (fN b)))) (by exact (Option.some.inj (congrArg (fun l => l[14]?) (fK b)))) (Bd.fc_rebuilt_cells b)
noncomputable def bw_rebuilt : BW := seqBW (retBW (callW (consW (nameW 0) (consW (attrW "cells" (nameW 0)) (consW (nameW 1) (nilW)))) f_rebuilt_cells)) (nextBW)
noncomputable def f_rebuilt : FW := defF 2 3 bw_rebuilt
theorem Bd.fc_rebuilt (b : Bd S) : FnP S 4 (.ref 241) f_rebuilt := by
 have hS := b.st
 have hC := hS.C
 obtain ⟨oc, od, nm, qual, doc, pm, an, ct, osl, ho, hcd⟩ := b.ho (Option.some.inj (congrArg (fun l => l[15]?) (fF b)))
 refine' fnp_def (n := 3) (k := 2) (m := 3) (W := bw_rebuilt) (ps := [Str.ofString "netlist", Str.ofString "replaced"]) hS (f := 241) (ho := ho) (hcd := hcd) (ok := ?ok) (hk := rfl) (hm := ?hm) (hb := ?hb) (h := ?h)
 case ok => kernel_rfl
 case hm => kernel_rfl
 case hb => intro xs hx; obtain ⟨a0, a1, rfl⟩ := len2 hx; kernel_rfl
 case h => exact PB.cons (PS.ret hC (PE.call hS (i := 2) (by kernel_rfl) (b.cn_rebuilt_cells.le (by decide)) (PEs.cons hC (PE.nl (by kernel_rfl)) (PEs.cons hC (PE.attr hS (b.ao_cells) (PE.nl (by kernel_rfl))) (PEs.cons hC (PE.nl (by kernel_rfl)) (PEs.nil)))))) (PB.nil)
theorem Bd.cn_rebuilt (b : Bd S) : CN S 4 (Str.ofString "rebuilt") f_rebuilt := cn_fn b.st (f := .ref 241) (by exact (Option.some.inj (congrArg (fun l => l[15]?) (fN b)))) (by exact (Option.some.inj (congrArg (fun l => l[15]?) (fK b)))) (Bd.fc_rebuilt b)
noncomputable def bw_fold_constants : BW := seqBW (asgBW (callW (consW (attrW "cells" (nameW 0)) (nilW)) listF) (nameA 1)) (seqBW (asgBW (dict0W) (nameA 2)) (seqBW (asgBW (dict0W) (nameA 3)) (seqBW (forBW (srcW (callW (consW (nameW 0) (nilW)) f_comb_order)) (nameA 4) (seqBW (asgBW (subW (nameW 1) (nameW 4)) (nameA 5)) (seqBW (asgBW (subW (nameW 5) (constW (.int 1))) (nameA 6)) (seqBW (asgBW (callW (consW (compW [none, none, none, some 2] (srcW (subW (nameW 5) (constW (.int 2)))) (nameA 1) (trueTW true) (callW (consW (nameW 3) (consW (nameW 1) (nilW))) f_final_net)) (nilW)) tupleF) (nameA 7)) (seqBW (asgBW (callW (consW (nameW 5) (consW (nameW 7) (consW (nameW 3) (nilW)))) f_simple_form) (tupA 3 (consAs (nameA 8) (consAs (nameA 7) (consAs (nameA 9) (nilAs)))))) (seqBW (ifBW (cmpTW .Eq (nameW 8) (constW (.str "buf"))) (seqBW (asgBW (subW (nameW 7) (constW (.int 0))) (subA (nameW 2) (nameW 6))) (nextBW)) (seqBW (asgBW (tupW (consW (nameW 8) (consW (nameW 6) (consW (nameW 7) (consW (nameW 9) (nilW)))))) (subA (nameW 1) (nameW 4))) (seqBW (ifBW (cmpTW .Eq (nameW 8) (constW (.str "not"))) (seqBW (asgBW (subW (nameW 7) (constW (.int 0))) (subA (nameW 3) (nameW 6))) (seqBW (asgBW (nameW 6) (subA (nameW 3) (subW (nameW 7) (constW (.int 0))))) (nextBW))) (nextBW)) (nextBW)))) (nextBW))))))) (seqBW (retBW (callW (consW (nameW 0) (consW (nameW 1) (consW (nameW 2) (nilW)))) f_rebuilt_cells)) (nextBW)))))
noncomputable def f_fold_constants : FW := defF 1 15 bw_fold_constants
theorem Bd.fc_fold_constants (b : Bd S) : FnP S 10 (.ref 326) f_fold_constants := by
 have hS := b.st
 have hC := hS.C
 obtain ⟨oc, od, nm, qual, doc, pm, an, ct, osl, ho, hcd⟩ := b.ho (Option.some.inj (congrArg (fun l => l[28]?) (fF b)))
 refine' fnp_def (n := 9) (k := 1) (m := 15) (W := bw_fold_constants) (ps := [Str.ofString "netlist"]) hS (f := 326) (ho := ho) (hcd := hcd) (ok := ?ok) (hk := rfl) (hm := ?hm) (hb := ?hb) (h := ?h)
 case ok => kernel_rfl
 case hm => kernel_rfl
 case hb => intro xs hx; obtain ⟨a0, rfl⟩ := len1 hx; kernel_rfl
 case h => exact PB.cons (PS.asg hC (PE.call hS (i := 10) (by kernel_rfl) b.cn_list (PEs.cons hC (PE.attr hS (b.ao_cells) (PE.nl (by kernel_rfl))) (PEs.nil))) (PA.nl (by kernel_rfl))) (PB.cons (PS.asg hC (PE.dict0 hC) (PA.name (k := .cell) (by kernel_rfl))) (PB.cons (PS.asg hC (PE.dict0 hC) (PA.nl (by kernel_rfl))) (PB.cons (PS.for hC (PI.of hC (PE.call hS (i := 11) (by kernel_rfl) (b.cn_comb_order.le (by decide)) (PEs.cons hC (PE.nl (by kernel_rfl)) (PEs.nil)))) (PA.nl (by kernel_rfl)) (PB.cons (PS.asg hC (PE.sub hC (PE.nl (by kernel_rfl)) (PE.nl (by kernel_rfl))) (PA.nl (by kernel_rfl))) (PB.cons (PS.asg hC (PE.sub hC (PE.nl (by kernel_rfl)) (PE.int)) (PA.nl (by kernel_rfl))) (PB.cons (PS.asg hC (PE.call hS (i := 12) (by kernel_rfl) b.cn_tuple (PEs.cons hC (PE.comp hC (by kernel_rfl) (by kernel_rfl) (PI.of hC (PE.sub hC (PE.nl (by kernel_rfl)) (PE.int))) (PA.nl (by kernel_rfl)) (PTs.nil) (PE.call hS (i := 2) (by kernel_rfl) (b.cn_final_net.le (by decide)) (PEs.cons hC (PE.name (k := .cell) (by kernel_rfl)) (PEs.cons hC (PE.nl (by kernel_rfl)) (PEs.nil))))) (PEs.nil))) (PA.nl (by kernel_rfl))) (PB.cons (PS.asg hC (PE.call hS (i := 13) (by kernel_rfl) (b.cn_simple_form.le (by decide)) (PEs.cons hC (PE.nl (by kernel_rfl)) (PEs.cons hC (PE.nl (by kernel_rfl)) (PEs.cons hC (PE.nl (by kernel_rfl)) (PEs.nil))))) (PA.tup hC (PAs.cons hC (PA.nl (by kernel_rfl)) (PAs.cons hC (PA.nl (by kernel_rfl)) (PAs.cons hC (PA.nl (by kernel_rfl)) (PAs.nil)))))) (PB.cons (PS.ite hC (PT.cmp hC (PE.nl (by kernel_rfl)) (PE.str)) (PB.cons (PS.asg hC (PE.sub hC (PE.nl (by kernel_rfl)) (PE.int)) (PA.sub hC (PE.name (k := .cell) (by kernel_rfl)) (PE.nl (by kernel_rfl)))) (PB.nil)) (PB.cons (PS.asg hC (PE.tup hC (PEs.cons hC (PE.nl (by kernel_rfl)) (PEs.cons hC (PE.nl (by kernel_rfl)) (PEs.cons hC (PE.nl (by kernel_rfl)) (PEs.cons hC (PE.nl (by kernel_rfl)) (PEs.nil)))))) (PA.sub hC (PE.nl (by kernel_rfl)) (PE.nl (by kernel_rfl)))) (PB.cons (PS.ite hC (PT.cmp hC (PE.nl (by kernel_rfl)) (PE.str)) (PB.cons (PS.asg hC (PE.sub hC (PE.nl (by kernel_rfl)) (PE.int)) (PA.sub hC (PE.nl (by kernel_rfl)) (PE.nl (by kernel_rfl)))) (PB.cons (PS.asg hC (PE.nl (by kernel_rfl)) (PA.sub hC (PE.nl (by kernel_rfl)) (PE.sub hC (PE.nl (by kernel_rfl)) (PE.int)))) (PB.nil))) (PB.nil)) (PB.nil)))) (PB.nil))))))) (PB.cons (PS.ret hC (PE.call hS (i := 14) (by kernel_rfl) (b.cn_rebuilt_cells.le (by decide)) (PEs.cons hC (PE.nl (by kernel_rfl)) (PEs.cons hC (PE.nl (by kernel_rfl)) (PEs.cons hC (PE.name (k := .cell) (by kernel_rfl)) (PEs.nil)))))) (PB.nil)))))
theorem Bd.cn_fold_constants (b : Bd S) : CN S 10 (Str.ofString "fold_constants") f_fold_constants := cn_fn b.st (f := .ref 326) (by exact (Option.some.inj (congrArg (fun l => l[28]?) (fN b)))) (by exact (Option.some.inj (congrArg (fun l => l[28]?) (fK b)))) (Bd.fc_fold_constants b)
noncomputable def bw_law_word : BW := seqBW (ifBW (orTW (cmpTW .Eq (nameW 0) (constW (.str "lut"))) (orTW (cmpTW .Eq (nameW 0) (constW (.str "cell"))) (trueTW false))) (seqBW (asgBW (iteW (cmpTW .Eq (nameW 0) (constW (.str "lut"))) (nameW 1) (subW (nameW 1) (constW (.int 1)))) (nameA 4)) (seqBW (asgBW (constW (.int 0)) (nameA 5)) (seqBW (forBW (rangeW (consW (binW .LShift (constW (.int 1)) (callW (consW (nameW 2) (nilW)) lenF)) (nilW))) (nameA 6) (seqBW (ifBW (plainTW (binW .BitAnd (binW .RShift (nameW 4) (nameW 6)) (constW (.int 1)))) (seqBW (asgBW (nameW 3) (nameA 7)) (seqBW (forBW (rangeW (consW (callW (consW (nameW 2) (nilW)) lenF) (nilW))) (nameA 8) (seqBW (augNameBW 7 .BitAnd (iteW (plainTW (binW .BitAnd (binW .RShift (nameW 6) (nameW 8)) (constW (.int 1)))) (subW (nameW 2) (nameW 8)) (binW .BitXor (nameW 3) (subW (nameW 2) (nameW 8))))) (nextBW))) (seqBW (augNameBW 5 .BitOr (nameW 7)) (nextBW)))) (nextBW)) (nextBW))) (seqBW (retBW (nameW 5)) (nextBW))))) (nextBW)) (seqBW (ifBW (orTW (cmpTW .Eq (nameW 0) (constW (.str "buf"))) (orTW (cmpTW .Eq (nameW 0) (constW (.str "not"))) (trueTW false))) (seqBW (retBW (iteW (cmpTW .Eq (nameW 0) (constW (.str "buf"))) (subW (nameW 2) (constW (.int 0))) (binW .BitXor (nameW 3) (subW (nameW 2) (constW (.int 0)))))) (nextBW)) (nextBW)) (seqBW (ifBW (cmpTW .Eq (nameW 0) (constW (.str "mux"))) (seqBW (retBW (binW .BitOr (binW .BitAnd (subW (nameW 2) (constW (.int 0))) (subW (nameW 2) (constW (.int 2)))) (binW .BitAnd (binW .BitXor (nameW 3) (subW (nameW 2) (constW (.int 0)))) (subW (nameW 2) (constW (.int 1)))))) (nextBW)) (nextBW)) (seqBW (ifBW (orTW (cmpTW .Eq (nameW 0) (constW (.str "and"))) (orTW (cmpTW .Eq (nameW 0) (constW (.str "nand"))) (trueTW false))) (seqBW (asgBW (binW .BitAnd (subW (nameW 2) (constW (.int 0))) (subW (nameW 2) (constW (.int 1)))) (nameA 5)) (nextBW)) (seqBW (ifBW (orTW (cmpTW .Eq (nameW 0) (constW (.str "or"))) (orTW (cmpTW .Eq (nameW 0) (constW (.str "nor"))) (trueTW false))) (seqBW (asgBW (binW .BitOr (subW (nameW 2) (constW (.int 0))) (subW (nameW 2) (constW (.int 1)))) (nameA 5)) (nextBW)) (seqBW (asgBW (binW .BitXor (subW (nameW 2) (constW (.int 0))) (subW (nameW 2) (constW (.int 1)))) (nameA 5)) (nextBW))) (nextBW))) (seqBW (retBW (iteW (cmpTW .In (nameW 0) (tupW (consW (constW (.str "nand")) (consW (constW (.str "nor")) (consW (constW (.str "xnor")) (nilW)))))) (binW .BitXor (nameW 3) (nameW 5)) (nameW 5))) (nextBW)))))
noncomputable def f_law_word : FW := defF 4 11 bw_law_word
theorem Bd.fc_law_word (b : Bd S) : FnP S 1 (.ref 338) f_law_word := by
 have hS := b.st
 have hC := hS.C
 obtain ⟨oc, od, nm, qual, doc, pm, an, ct, osl, ho, hcd⟩ := b.ho (Option.some.inj (congrArg (fun l => l[30]?) (fF b)))
 refine' fnp_def (n := 0) (k := 4) (m := 11) (W := bw_law_word) (ps := [Str.ofString "kind", Str.ofString "param", Str.ofString "words", Str.ofString "full"]) hS (f := 338) (ho := ho) (hcd := hcd) (ok := ?ok) (hk := rfl) (hm := ?hm) (hb := ?hb) (h := ?h)
 case ok => kernel_rfl
 case hm => kernel_rfl
 case hb => intro xs hx; obtain ⟨a0, a1, a2, a3, rfl⟩ := len4 hx; kernel_rfl
 case h => exact PB.cons (PS.ite hC (PT.or hC (PT.cmp hC (PE.nl (by kernel_rfl)) (PE.str)) (PT.or hC (PT.cmp hC (PE.nl (by kernel_rfl)) (PE.str)) (PT.or0))) (PB.cons (PS.asg hC (PE.ite hC (PT.cmp hC (PE.nl (by kernel_rfl)) (PE.str)) (PE.nl (by kernel_rfl)) (PE.sub hC (PE.nl (by kernel_rfl)) (PE.int))) (PA.nl (by kernel_rfl))) (PB.cons (PS.asg hC (PE.int) (PA.nl (by kernel_rfl))) (PB.cons (PS.for hC (PI.range hS (i := 9) (by kernel_rfl) (b.no_range) (PEs.cons hC (PE.bin hC (PE.int) (PE.call hS (i := 10) (by kernel_rfl) b.cn_len (PEs.cons hC (PE.nl (by kernel_rfl)) (PEs.nil)))) (PEs.nil))) (PA.nl (by kernel_rfl)) (PB.cons (PS.ite hC (PT.plain hC (PE.bin hC (PE.bin hC (PE.nl (by kernel_rfl)) (PE.nl (by kernel_rfl))) (PE.int))) (PB.cons (PS.asg hC (PE.nl (by kernel_rfl)) (PA.nl (by kernel_rfl))) (PB.cons (PS.for hC (PI.range hS (i := 9) (by kernel_rfl) (b.no_range) (PEs.cons hC (PE.call hS (i := 10) (by kernel_rfl) b.cn_len (PEs.cons hC (PE.nl (by kernel_rfl)) (PEs.nil))) (PEs.nil))) (PA.nl (by kernel_rfl)) (PB.cons (PS.augName hC (k := .local) (by kernel_rfl) (PE.ite hC (PT.plain hC (PE.bin hC (PE.bin hC (PE.nl (by kernel_rfl)) (PE.nl (by kernel_rfl))) (PE.int))) (PE.sub hC (PE.nl (by kernel_rfl)) (PE.nl (by kernel_rfl))) (PE.bin hC (PE.nl (by kernel_rfl)) (PE.sub hC (PE.nl (by kernel_rfl)) (PE.nl (by kernel_rfl)))))) (PB.nil))) (PB.cons (PS.augName hC (k := .local) (by kernel_rfl) (PE.nl (by kernel_rfl))) (PB.nil)))) (PB.nil)) (PB.nil))) (PB.cons (PS.ret hC (PE.nl (by kernel_rfl))) (PB.nil))))) (PB.nil)) (PB.cons (PS.ite hC (PT.or hC (PT.cmp hC (PE.nl (by kernel_rfl)) (PE.str)) (PT.or hC (PT.cmp hC (PE.nl (by kernel_rfl)) (PE.str)) (PT.or0))) (PB.cons (PS.ret hC (PE.ite hC (PT.cmp hC (PE.nl (by kernel_rfl)) (PE.str)) (PE.sub hC (PE.nl (by kernel_rfl)) (PE.int)) (PE.bin hC (PE.nl (by kernel_rfl)) (PE.sub hC (PE.nl (by kernel_rfl)) (PE.int))))) (PB.nil)) (PB.nil)) (PB.cons (PS.ite hC (PT.cmp hC (PE.nl (by kernel_rfl)) (PE.str)) (PB.cons (PS.ret hC (PE.bin hC (PE.bin hC (PE.sub hC (PE.nl (by kernel_rfl)) (PE.int)) (PE.sub hC (PE.nl (by kernel_rfl)) (PE.int))) (PE.bin hC (PE.bin hC (PE.nl (by kernel_rfl)) (PE.sub hC (PE.nl (by kernel_rfl)) (PE.int))) (PE.sub hC (PE.nl (by kernel_rfl)) (PE.int))))) (PB.nil)) (PB.nil)) (PB.cons (PS.ite hC (PT.or hC (PT.cmp hC (PE.nl (by kernel_rfl)) (PE.str)) (PT.or hC (PT.cmp hC (PE.nl (by kernel_rfl)) (PE.str)) (PT.or0))) (PB.cons (PS.asg hC (PE.bin hC (PE.sub hC (PE.nl (by kernel_rfl)) (PE.int)) (PE.sub hC (PE.nl (by kernel_rfl)) (PE.int))) (PA.nl (by kernel_rfl))) (PB.nil)) (PB.cons (PS.ite hC (PT.or hC (PT.cmp hC (PE.nl (by kernel_rfl)) (PE.str)) (PT.or hC (PT.cmp hC (PE.nl (by kernel_rfl)) (PE.str)) (PT.or0))) (PB.cons (PS.asg hC (PE.bin hC (PE.sub hC (PE.nl (by kernel_rfl)) (PE.int)) (PE.sub hC (PE.nl (by kernel_rfl)) (PE.int))) (PA.nl (by kernel_rfl))) (PB.nil)) (PB.cons (PS.asg hC (PE.bin hC (PE.sub hC (PE.nl (by kernel_rfl)) (PE.int)) (PE.sub hC (PE.nl (by kernel_rfl)) (PE.int))) (PA.nl (by kernel_rfl))) (PB.nil))) (PB.nil))) (PB.cons (PS.ret hC (PE.ite hC (PT.cmp hC (PE.nl (by kernel_rfl)) (PE.tup hC (PEs.cons hC (PE.str) (PEs.cons hC (PE.str) (PEs.cons hC (PE.str) (PEs.nil)))))) (PE.bin hC (PE.nl (by kernel_rfl)) (PE.nl (by kernel_rfl))) (PE.nl (by kernel_rfl)))) (PB.nil)))))
theorem Bd.cn_law_word (b : Bd S) : CN S 1 (Str.ofString "_law_word") f_law_word := cn_fn b.st (f := .ref 338) (by exact (Option.some.inj (congrArg (fun l => l[30]?) (fN b)))) (by exact (Option.some.inj (congrArg (fun l => l[30]?) (fK b)))) (Bd.fc_law_word b)
noncomputable def bw_law_all_words : BW := seqBW (asgBW (callW (consW (nameW 1) (nilW)) dictF) (nameA 3)) (seqBW (asgBW (constW (.int 0)) (subA (nameW 3) (constW (.int 0)))) (seqBW (asgBW (nameW 2) (subA (nameW 3) (constW (.int 1)))) (seqBW (asgBW (compW [none, none] (srcW (nameW 0)) (nameA 1) (cmpTW .NotIn (subW (nameW 1) (constW (.int 0))) (tupW (consW (constW (.str "flop")) (consW (constW (.str "latch")) (nilW))))) (nameW 1)) (nameA 5)) (seqBW (forBW (rangeW (consW (callW (consW (nameW 5) (nilW)) lenF) (nilW))) (nameA 6) (seqBW (asgBW (listW (nilW)) (nameA 7)) (seqBW (forBW (srcW (nameW 5)) (nameA 4) (seqBW (ifBW (cmpTW .Gt (callW (consW (compW [none, none, some 3] (srcW (subW (nameW 4) (constW (.int 2)))) (nameA 1) (cmpTW .NotIn (nameW 1) (nameW 2)) (nameW 1)) (nilW)) lenF) (constW (.int 0))) (seqBW (exprBW (appendW (nameW 7) (nameW 4))) (nextBW)) (seqBW (asgBW (callW (consW (subW (nameW 4) (constW (.int 0))) (consW (subW (nameW 4) (constW (.int 3))) (consW (compW [none, none, some 3] (srcW (subW (nameW 4) (constW (.int 2)))) (nameA 1) (trueTW true) (subW (nameW 2) (nameW 1))) (consW (nameW 2) (nilW))))) f_law_word) (subA (nameW 3) (subW (nameW 4) (constW (.int 1))))) (nextBW))) (nextBW))) (seqBW (asgBW (nameW 7) (nameA 5)) (nextBW))))) (seqBW (retBW (nameW 3)) (nextBW))))))
noncomputable def f_law_all_words : FW := defF 3 12 bw_law_all_words
theorem Bd.fc_law_all_words (b : Bd S) : FnP S 2 (.ref 343) f_law_all_words := by
 have hS := b.st
 have hC := hS.C
 obtain ⟨oc, od, nm, qual, doc, pm, an, ct, osl, ho, hcd⟩ := b.ho (Option.some.inj (congrArg (fun l => l[31]?) (fF b)))
 refine' fnp_def (n := 1) (k := 3) (m := 12) (W := bw_law_all_words) (ps := [Str.ofString "cells", Str.ofString "given", Str.ofString "full"]) hS (f := 343) (ho := ho) (hcd := hcd) (ok := ?ok) (hk := rfl) (hm := ?hm) (hb := ?hb) (h := ?h)
 case ok => kernel_rfl
 case hm => kernel_rfl
 case hb => intro xs hx; obtain ⟨a0, a1, a2, rfl⟩ := len3 hx; kernel_rfl
 case h => exact PB.cons (PS.asg hC (PE.call hS (i := 8) (by kernel_rfl) b.cn_dict (PEs.cons hC (PE.nl (by kernel_rfl)) (PEs.nil))) (PA.name (k := .cell) (by kernel_rfl))) (PB.cons (PS.asg hC (PE.int) (PA.sub hC (PE.name (k := .cell) (by kernel_rfl)) (PE.int))) (PB.cons (PS.asg hC (PE.nl (by kernel_rfl)) (PA.sub hC (PE.name (k := .cell) (by kernel_rfl)) (PE.int))) (PB.cons (PS.asgComp hC (k := .local) (by kernel_rfl) (by kernel_rfl) (by kernel_rfl) (PI.of hC (PE.nl (by kernel_rfl))) (PA.nl (by kernel_rfl)) (PTs.one (PT.cmp hC (PE.sub hC (PE.nl (by kernel_rfl)) (PE.int)) (PE.tup hC (PEs.cons hC (PE.str) (PEs.cons hC (PE.str) (PEs.nil)))))) (PE.nl (by kernel_rfl))) (PB.cons (PS.for hC (PI.range hS (i := 9) (by kernel_rfl) (b.no_range) (PEs.cons hC (PE.call hS (i := 10) (by kernel_rfl) b.cn_len (PEs.cons hC (PE.nl (by kernel_rfl)) (PEs.nil))) (PEs.nil))) (PA.nl (by kernel_rfl)) (PB.cons (PS.asg hC (PE.list hC (PEs.nil)) (PA.nl (by kernel_rfl))) (PB.cons (PS.for hC (PI.of hC (PE.nl (by kernel_rfl))) (PA.nl (by kernel_rfl)) (PB.cons (PS.ite hC (PT.cmp hC (PE.call hS (i := 10) (by kernel_rfl) b.cn_len (PEs.cons hC (PE.comp hC (by kernel_rfl) (by kernel_rfl) (PI.of hC (PE.sub hC (PE.nl (by kernel_rfl)) (PE.int))) (PA.nl (by kernel_rfl)) (PTs.one (PT.cmp hC (PE.nl (by kernel_rfl)) (PE.name (k := .cell) (by kernel_rfl)))) (PE.nl (by kernel_rfl))) (PEs.nil))) (PE.int)) (PB.cons (PS.expr hC (PE.append hS (PE.nl (by kernel_rfl)) (PE.nl (by kernel_rfl)))) (PB.nil)) (PB.cons (PS.asg hC (PE.call hS (i := 11) (by kernel_rfl) (b.cn_law_word.le (by decide)) (PEs.cons hC (PE.sub hC (PE.nl (by kernel_rfl)) (PE.int)) (PEs.cons hC (PE.sub hC (PE.nl (by kernel_rfl)) (PE.int)) (PEs.cons hC (PE.comp hC (by kernel_rfl) (by kernel_rfl) (PI.of hC (PE.sub hC (PE.nl (by kernel_rfl)) (PE.int))) (PA.nl (by kernel_rfl)) (PTs.nil) (PE.sub hC (PE.name (k := .cell) (by kernel_rfl)) (PE.nl (by kernel_rfl)))) (PEs.cons hC (PE.nl (by kernel_rfl)) (PEs.nil)))))) (PA.sub hC (PE.name (k := .cell) (by kernel_rfl)) (PE.sub hC (PE.nl (by kernel_rfl)) (PE.int)))) (PB.nil))) (PB.nil))) (PB.cons (PS.asg hC (PE.nl (by kernel_rfl)) (PA.nl (by kernel_rfl))) (PB.nil))))) (PB.cons (PS.ret hC (PE.name (k := .cell) (by kernel_rfl))) (PB.nil))))))
theorem Bd.cn_law_all_words (b : Bd S) : CN S 2 (Str.ofString "_law_all_words") f_law_all_words := cn_fn b.st (f := .ref 343) (by exact (Option.some.inj (congrArg (fun l => l[31]?) (fN b)))) (by exact (Option.some.inj (congrArg (fun l => l[31]?) (fK b)))) (Bd.fc_law_all_words b)
noncomputable def bw_law_held : BW := seqBW (retBW (compW [none, none] (srcW (attrW "cells" (nameW 0))) (nameA 1) (cmpTW .In (subW (nameW 1) (constW (.int 0))) (tupW (consW (constW (.str "flop")) (consW (constW (.str "latch")) (nilW))))) (nameW 1))) (nextBW)
noncomputable def f_law_held : FW := defF 1 1 bw_law_held
theorem Bd.fc_law_held (b : Bd S) : FnP S 1 (.ref 348) f_law_held := by
 have hS := b.st
 have hC := hS.C
 obtain ⟨oc, od, nm, qual, doc, pm, an, ct, osl, ho, hcd⟩ := b.ho (Option.some.inj (congrArg (fun l => l[32]?) (fF b)))
 refine' fnp_def (n := 0) (k := 1) (m := 1) (W := bw_law_held) (ps := [Str.ofString "netlist"]) hS (f := 348) (ho := ho) (hcd := hcd) (ok := ?ok) (hk := rfl) (hm := ?hm) (hb := ?hb) (h := ?h)
 case ok => kernel_rfl
 case hm => kernel_rfl
 case hb => intro xs hx; obtain ⟨a0, rfl⟩ := len1 hx; kernel_rfl
 case h => exact PB.cons (PS.ret hC (PE.comp hC (by kernel_rfl) (by kernel_rfl) (PI.of hC (PE.attr hS (b.ao_cells) (PE.nl (by kernel_rfl)))) (PA.nl (by kernel_rfl)) (PTs.one (PT.cmp hC (PE.sub hC (PE.nl (by kernel_rfl)) (PE.int)) (PE.tup hC (PEs.cons hC (PE.str) (PEs.cons hC (PE.str) (PEs.nil)))))) (PE.nl (by kernel_rfl)))) (PB.nil)
theorem Bd.cn_law_held (b : Bd S) : CN S 1 (Str.ofString "_law_held") f_law_held := cn_fn b.st (f := .ref 348) (by exact (Option.some.inj (congrArg (fun l => l[32]?) (fN b)))) (by exact (Option.some.inj (congrArg (fun l => l[32]?) (fK b)))) (Bd.fc_law_held b)
noncomputable def bw_law_at_ends : BW := seqBW (asgBW (listW (nilW)) (nameA 2)) (seqBW (forBW (srcW (attrW "outputs" (nameW 0))) (tupA 2 (consAs (nameA 3) (consAs (nameA 4) (nilAs)))) (seqBW (exprBW (appendW (nameW 2) (tupW (consW (nameW 3) (consW (compW [none, none, some 1] (srcW (nameW 4)) (nameA 1) (trueTW true) (dgetW (nameW 2) (nameW 1) (negW (constW (.int 1))))) (nilW)))))) (nextBW))) (seqBW (retBW (nameW 2)) (nextBW)))
noncomputable def f_law_at_ends : FW := defF 2 5 bw_law_at_ends
theorem Bd.fc_law_at_ends (b : Bd S) : FnP S 1 (.ref 353) f_law_at_ends := by
 have hS := b.st
 have hC := hS.C
 obtain ⟨oc, od, nm, qual, doc, pm, an, ct, osl, ho, hcd⟩ := b.ho (Option.some.inj (congrArg (fun l => l[33]?) (fF b)))
 refine' fnp_def (n := 0) (k := 2) (m := 5) (W := bw_law_at_ends) (ps := [Str.ofString "netlist", Str.ofString "words"]) hS (f := 353) (ho := ho) (hcd := hcd) (ok := ?ok) (hk := rfl) (hm := ?hm) (hb := ?hb) (h := ?h)
 case ok => kernel_rfl
 case hm => kernel_rfl
 case hb => intro xs hx; obtain ⟨a0, a1, rfl⟩ := len2 hx; kernel_rfl
 case h => exact PB.cons (PS.asg hC (PE.list hC (PEs.nil)) (PA.nl (by kernel_rfl))) (PB.cons (PS.for hC (PI.of hC (PE.attr hS (b.ao_outputs) (PE.nl (by kernel_rfl)))) (PA.tup hC (PAs.cons hC (PA.nl (by kernel_rfl)) (PAs.cons hC (PA.nl (by kernel_rfl)) (PAs.nil)))) (PB.cons (PS.expr hC (PE.append hS (PE.nl (by kernel_rfl)) (PE.tup hC (PEs.cons hC (PE.nl (by kernel_rfl)) (PEs.cons hC (PE.comp hC (by kernel_rfl) (by kernel_rfl) (PI.of hC (PE.nl (by kernel_rfl))) (PA.nl (by kernel_rfl)) (PTs.nil) (PE.dictGet hS (PE.name (k := .cell) (by kernel_rfl)) (PE.nl (by kernel_rfl)) (PE.neg hC (PE.int)))) (PEs.nil)))))) (PB.nil))) (PB.cons (PS.ret hC (PE.nl (by kernel_rfl))) (PB.nil)))
theorem Bd.cn_law_at_ends (b : Bd S) : CN S 1 (Str.ofString "_law_at_ends") f_law_at_ends := cn_fn b.st (f := .ref 353) (by exact (Option.some.inj (congrArg (fun l => l[33]?) (fN b)))) (by exact (Option.some.inj (congrArg (fun l => l[33]?) (fK b)))) (Bd.fc_law_at_ends b)
end
end Mine
end
section
open PySem PySem.W PyProof.Rows
set_option maxRecDepth 100000
set_option maxHeartbeats 800000
namespace Mine
section
variable {S : Sur} (b : Bd S) {n : Nat}
noncomputable def bw_law_draw : BW := seqBW (ifBW (andTW (cmpTW .Eq (subW (nameW 4) (constW (.int 1))) (constW (.int 0))) (andTW (cmpTW .Lt (subW (nameW 4) (constW (.int 0))) (callW (consW (nameW 3) (nilW)) lenF)) (trueTW true))) (seqBW (asgBW (subW (nameW 3) (subW (nameW 4) (constW (.int 0)))) (nameA 1)) (seqBW (augSubBW .Add (nameW 4) (constW (.int 0)) (constW (.int 1))) (seqBW (ifBW (chain2TW .Lt .Lt (negW (constW (.int 1000000))) (nameW 1) (constW (.int 1000000))) (seqBW (retBW (binW .Mod (callW (consW (nameW 1) (nilW)) intF) (nameW 0))) (nextBW)) (nextBW)) (seqBW (asgBW (binW .Mod (callW (consW (callW (consW (nameW 1) (nilW)) absF) (nilW)) intF) (binW .Pow (constW (.int 10)) (constW (.int 300)))) (subA (nameW 4) (constW (.int 1)))) (nextBW))))) (nextBW)) (seqBW (ifBW (cmpTW .Gt (subW (nameW 4) (constW (.int 1))) (constW (.int 0))) (seqBW (asgBW (binW .Mod (callW (consW (subW (nameW 4) (constW (.int 1))) (nilW)) intF) (nameW 0)) (nameA 2)) (seqBW (asgBW (binW .FloorDiv (subW (nameW 4) (constW (.int 1))) (nameW 0)) (subA (nameW 4) (constW (.int 1)))) (seqBW (retBW (nameW 2)) (nextBW)))) (nextBW)) (seqBW (asgBW (binW .Mod (callW (consW (binW .Mult (subW (nameW 4) (constW (.int 2))) (constW (.int 5))) (nilW)) intF) (constW (.int 97))) (subA (nameW 4) (constW (.int 2)))) (seqBW (retBW (binW .Mod (callW (consW (subW (nameW 4) (constW (.int 2))) (nilW)) intF) (nameW 0))) (nextBW))))
noncomputable def bw_deal1 (zs : List Int) : BW := asgBW (compW [none, none, none] (srcW (uptoW (callW (consW (nameW 0) (nilW)) (listS zs)) 40)) (nameA 1) (trueTW true) (callW (consW (nameW 1) (nilW)) intF)) (nameA 2)
noncomputable def bw_deal2 : BW := asgBW (listW (consW (constW (.int 0)) (consW (constW (.int 0)) (consW (binW .Add (constW (.int 1)) (binW .Mod (callW (consW (callW (consW (nameW 2) (nilW)) sumF) (nilW)) intF) (constW (.int 96)))) (nilW))))) (nameA 3)
noncomputable abbrev DC (zs : List Int) : CloSpec := DrawC Bd bw_law_draw zs
noncomputable def f_law_dealer (zs : List Int) : FW := dealerF 328 7 (bw_deal1 zs) bw_deal2
theorem Bd.fc_law_dealer (b : Bd S) {zs : List Int} (hD : S.C = DC zs) (hB : ∃ mg, S.h₀.Ns mainGlobals mg ∧ S.h₀.BuiltinsAt mg 328) (hH : CodeHd S.h₀ 330 328) : FnP S 3 (.ref 331) (f_law_dealer zs) := by
 have hS := b.st
 have hC := hS.C
 obtain ⟨oc, od, nm, qual, doc, pm, an, ct, osl, ho, hcd⟩ := b.ho (Option.some.inj (congrArg (fun l => l[29]?) (fF b)))
 refine' dealer_p (n := 2) (m := 7) (a := bw_deal1 zs) (b := bw_deal2) (ps := [Str.ofString "script"]) (f := 331) hS hD hB hH (by decide) (ho := ho) (hcd := hcd) (ok := ?ok) (hk := rfl) (hm := ?hm) (hb := ?hb) (hd := ?hd) (hpd := ?hpd) (hpk := ?hpk) (hpa := ?hpa) (hs1 := ?hs1) (hs2 := ?hs2) (hs3 := ?hs3) (hnd := ?hnd) (hnd0 := ?hnd0) (h1 := ?h1) (h2 := ?h2)
 case ok => kernel_rfl
 case hm => kernel_rfl
 case hb => intro xs hx; obtain ⟨a0, rfl⟩ := len1 hx; kernel_rfl
 case hpd => rfl
 case hpk => rfl
 case hpa => intro _; rfl
 case hs1 => kernel_rfl
 case hs2 => kernel_rfl
 case hs3 => kernel_rfl
 case hnd => kernel_rfl
 case hnd0 => kernel_rfl
 case h1 => exact PS.asgComp hC (k := .cell) (by kernel_rfl) (by kernel_rfl) (by kernel_rfl) (PI.of hC (pe_upto hC (m := 40) (PE.call hS (i := 4) (by kernel_rfl) (CN.built hS b.no_list (f := .type "list") (by boot_fast) .type (listS_ok hS hD)) (PEs.cons hC (PE.nl (by kernel_rfl)) (PEs.nil))))) (PA.nl (by kernel_rfl)) (PTs.nil) (PE.call hS (i := 2) (by kernel_rfl) b.cn_int (PEs.cons hC (PE.nl (by kernel_rfl)) (PEs.nil)))
 case h2 => exact PS.asg hC (PE.list hC (PEs.cons hC (PE.int) (PEs.cons hC (PE.int) (PEs.cons hC (PE.bin hC (PE.int) (PE.bin hC (PE.call hS (i := 5) (by kernel_rfl) b.cn_int (PEs.cons hC (PE.call hS (i := 6) (by kernel_rfl) b.cn_sum (PEs.cons hC (PE.name (k := .cell) (by kernel_rfl)) (PEs.nil))) (PEs.nil))) (PE.int))) (PEs.nil))))) (PA.name (k := .cell) (by kernel_rfl))
 case hd =>
  refine isDraw_of (by kernel_rfl) (by kernel_rfl) (by kernel_rfl) (by kernel_rfl) (fun _ _ _ _ _ _ _ => by rfl) (fun S' b => ?_)
  have hS := b.st
  have hC := hS.C
  exact PB.cons (PS.ite hC (PT.and hC (PT.cmp hC (PE.sub hC (PE.name (k := .free) (by kernel_rfl)) (PE.int)) (PE.int)) (PT.and hC (PT.cmp hC (PE.sub hC (PE.name (k := .free) (by kernel_rfl)) (PE.int)) (PE.call hS (i := 5) (by kernel_rfl) b.cn_len (PEs.cons hC (PE.name (k := .free) (by kernel_rfl)) (PEs.nil)))) (PT.and0))) (PB.cons (PS.asg hC (PE.sub hC (PE.name (k := .free) (by kernel_rfl)) (PE.sub hC (PE.name (k := .free) (by kernel_rfl)) (PE.int))) (PA.nl (by kernel_rfl))) (PB.cons (PS.augSub hC (PE.name (k := .free) (by kernel_rfl)) (PE.int) (PE.int)) (PB.cons (PS.ite hC (PT.chain2 hC (PE.neg hC (PE.int)) (PE.nl (by kernel_rfl)) (PE.int)) (PB.cons (PS.ret hC (PE.bin hC (PE.call hS (i := 6) (by kernel_rfl) b.cn_int (PEs.cons hC (PE.nl (by kernel_rfl)) (PEs.nil))) (PE.nl (by kernel_rfl)))) (PB.nil)) (PB.nil)) (PB.cons (PS.asg hC (PE.bin hC (PE.call hS (i := 6) (by kernel_rfl) b.cn_int (PEs.cons hC (PE.call hS (i := 7) (by kernel_rfl) b.cn_abs (PEs.cons hC (PE.nl (by kernel_rfl)) (PEs.nil))) (PEs.nil))) (PE.bin hC (PE.int) (PE.int))) (PA.sub hC (PE.name (k := .free) (by kernel_rfl)) (PE.int))) (PB.nil))))) (PB.nil)) (PB.cons (PS.ite hC (PT.cmp hC (PE.sub hC (PE.name (k := .free) (by kernel_rfl)) (PE.int)) (PE.int)) (PB.cons (PS.asg hC (PE.bin hC (PE.call hS (i := 6) (by kernel_rfl) b.cn_int (PEs.cons hC (PE.sub hC (PE.name (k := .free) (by kernel_rfl)) (PE.int)) (PEs.nil))) (PE.nl (by kernel_rfl))) (PA.nl (by kernel_rfl))) (PB.cons (PS.asg hC (PE.bin hC (PE.sub hC (PE.name (k := .free) (by kernel_rfl)) (PE.int)) (PE.nl (by kernel_rfl))) (PA.sub hC (PE.name (k := .free) (by kernel_rfl)) (PE.int))) (PB.cons (PS.ret hC (PE.nl (by kernel_rfl))) (PB.nil)))) (PB.nil)) (PB.cons (PS.asg hC (PE.bin hC (PE.call hS (i := 6) (by kernel_rfl) b.cn_int (PEs.cons hC (PE.bin hC (PE.sub hC (PE.name (k := .free) (by kernel_rfl)) (PE.int)) (PE.int)) (PEs.nil))) (PE.int)) (PA.sub hC (PE.name (k := .free) (by kernel_rfl)) (PE.int))) (PB.cons (PS.ret hC (PE.bin hC (PE.call hS (i := 6) (by kernel_rfl) b.cn_int (PEs.cons hC (PE.sub hC (PE.name (k := .free) (by kernel_rfl)) (PE.int)) (PEs.nil))) (PE.nl (by kernel_rfl)))) (PB.nil))))
theorem Bd.cn_law_dealer (b : Bd S) {zs : List Int} (hD : S.C = DC zs) (hB : ∃ mg, S.h₀.Ns mainGlobals mg ∧ S.h₀.BuiltinsAt mg 328) (hH : CodeHd S.h₀ 330 328) : CN S 3 (Str.ofString "_law_dealer") (f_law_dealer zs) :=
 cn_fn b.st (f := .ref 331) (by exact (Option.some.inj (congrArg (fun l => l[29]?) (fN b)))) (by exact (Option.some.inj (congrArg (fun l => l[29]?) (fK b)))) (b.fc_law_dealer hD hB hH)
end
end Mine
end
section
open PySem PySem.W PyProof.Rows
set_option maxRecDepth 100000
set_option maxHeartbeats 800000
namespace Mine
section
variable {S : Sur} (b : Bd S) {n : Nat}
noncomputable def law_0 (zs : List Int) : BW := asgBW (callW (consW (nameW 0) (nilW)) (f_law_dealer zs)) (nameA 1)
noncomputable def law_1 : BW := asgBW (tupW (consW (constW (.str "and")) (consW (constW (.str "or")) (consW (constW (.str "xor")) (consW (constW (.str "nand")) (consW (constW (.str "nor")) (consW (constW (.str "xnor")) (consW (constW (.str "mux")) (consW (constW (.str "not")) (consW (constW (.str "buf")) (consW (constW (.str "lut")) (consW (constW (.str "cell")) (nilW))))))))))))) (nameA 2)
noncomputable def law_2 : BW := asgBW (callW (consW (constW (.str "f")) (nilW)) (newF f_init)) (nameA 3)
noncomputable def law_3 : BW := asgBW (methW "add_input" (nameW 3) (consW (constW (.str "a")) (consW (binW .Add (constW (.int 1)) (callVW 1 bw_law_draw (consW (constW (.int 3)) (nilW)))) (nilW))) f_add_input) (nameA 4)
noncomputable def law_4 : BW := asgBW (methW "add_input" (nameW 3) (consW (constW (.str "b")) (consW (constW (.int 1)) (nilW))) f_add_input) (nameA 5)
noncomputable def law_5 : BW := asgBW (methW "new_nets" (nameW 3) (consW (callVW 1 bw_law_draw (consW (constW (.int 2)) (nilW))) (nilW)) f_new_nets) (nameA 6)
noncomputable def law_6 : BW := asgBW (binW .Add (binW .Add (nameW 4) (nameW 5)) (nameW 6)) (nameA 7)
noncomputable def law_7 : BW := asgBW (binW .Add (listW (consW (constW (.int 0)) (consW (constW (.int 1)) (nilW)))) (nameW 7)) (nameA 8)
noncomputable def law_8 : BW := asgBW (listW (nilW)) (nameA 9)
noncomputable def law_9 : BW := forBW (rangeW (consW (binW .Add (constW (.int 3)) (callVW 1 bw_law_draw (consW (constW (.int 3)) (nilW)))) (nilW))) (nameA 10) (seqBW (asgBW (subW (nameW 2) (callVW 1 bw_law_draw (consW (constW (.int 11)) (nilW)))) (nameA 11)) (seqBW (asgBW (constW (.int 2)) (nameA 12)) (seqBW (ifBW (cmpTW .Eq (nameW 11) (constW (.str "mux"))) (seqBW (asgBW (constW (.int 3)) (nameA 12)) (nextBW)) (seqBW (ifBW (cmpTW .In (nameW 11) (tupW (consW (constW (.str "not")) (consW (constW (.str "buf")) (nilW))))) (seqBW (asgBW (constW (.int 1)) (nameA 12)) (nextBW)) (seqBW (ifBW (cmpTW .In (nameW 11) (tupW (consW (constW (.str "lut")) (consW (constW (.str "cell")) (nilW))))) (seqBW (asgBW (binW .Add (constW (.int 1)) (callVW 1 bw_law_draw (consW (constW (.int 3)) (nilW)))) (nameA 12)) (nextBW)) (nextBW)) (nextBW))) (nextBW))) (seqBW (asgBW (callW (consW (compW [none, none, none, some 1, some 8] (rangeW (consW (nameW 12) (nilW))) (nameA 1) (trueTW true) (subW (nameW 4) (callVW 3 bw_law_draw (consW (callW (consW (nameW 4) (nilW)) lenF) (nilW))))) (nilW)) tupleF) (nameA 13)) (seqBW (asgBW (constW .none) (nameA 14)) (seqBW (ifBW (cmpTW .In (nameW 11) (tupW (consW (constW (.str "lut")) (consW (constW (.str "cell")) (nilW))))) (seqBW (asgBW (callVW 1 bw_law_draw (consW (binW .LShift (constW (.int 1)) (binW .LShift (constW (.int 1)) (nameW 12))) (nilW))) (nameA 14)) (seqBW (ifBW (cmpTW .Eq (nameW 11) (constW (.str "cell"))) (seqBW (asgBW (tupW (consW (constW (.str "C")) (consW (nameW 14) (nilW)))) (nameA 14)) (nextBW)) (nextBW)) (nextBW))) (nextBW)) (seqBW (asgBW (meth0W "new_net" (nameW 3) f_new_net) (nameA 15)) (seqBW (exprBW (appendW (nameW 9) (tupW (consW (nameW 11) (consW (nameW 15) (consW (nameW 13) (consW (nameW 14) (nilW)))))))) (seqBW (exprBW (appendW (nameW 8) (nameW 15))) (nextBW))))))))))
noncomputable def law_10 : BW := forBW (srcW (tupW (consW (constW (.str "y")) (consW (constW (.str "z")) (nilW))))) (nameA 16) (seqBW (exprBW (methW "add_output" (nameW 3) (consW (nameW 16) (consW (listW (consW (subW (nameW 8) (callVW 1 bw_law_draw (consW (callW (consW (nameW 8) (nilW)) lenF) (nilW)))) (nilW))) (nilW))) f_add_output)) (nextBW))
noncomputable def law_11 : BW := forBW (srcW (nameW 6)) (nameA 17) (seqBW (asgBW (callW (consW (compW [none, none, none, some 1, some 8] (rangeW (consW (constW (.int 4)) (nilW))) (nameA 1) (trueTW true) (subW (nameW 4) (callVW 3 bw_law_draw (consW (callW (consW (nameW 4) (nilW)) lenF) (nilW))))) (nilW)) tupleF) (nameA 18)) (seqBW (exprBW (appendW (nameW 9) (iteW (plainTW (callVW 1 bw_law_draw (consW (constW (.int 2)) (nilW)))) (tupW (consW (constW (.str "flop")) (consW (nameW 17) (consW (nameW 18) (consW (tupW (consW (constW (.int 1)) (consW (constW (.str "q")) (consW (constW (.int 0)) (nilW))))) (nilW)))))) (tupW (consW (constW (.str "latch")) (consW (nameW 17) (consW (nameW 18) (consW (tupW (consW (constW (.str "q")) (consW (constW (.int 0)) (nilW)))) (nilW))))))))) (nextBW)))
noncomputable def law_12 : BW := ifBW (plainTW (callVW 1 bw_law_draw (consW (constW (.int 2)) (nilW)))) (seqBW (exprBW (reverseW (nameW 9))) (nextBW)) (nextBW)
noncomputable def law_13 : BW := forBW (srcW (nameW 9)) (tupA 4 (consAs (nameA 11) (consAs (nameA 15) (consAs (nameA 13) (consAs (nameA 14) (nilAs)))))) (seqBW (exprBW (methW "drive" (nameW 3) (consW (nameW 15) (consW (nameW 11) (consW (nameW 13) (consW (nameW 14) (nilW))))) f_drive)) (nextBW))
noncomputable def law_14 : BW := asgBW (dict0W) (nameA 19)
noncomputable def law_15 : BW := forBW (srcW (nameW 7)) (nameA 17) (seqBW (asgBW (callVW 1 bw_law_draw (consW (constW (.int 2)) (nilW))) (subA (nameW 19) (nameW 17))) (nextBW))
noncomputable def law_16 : BW := asgBW (compW [none, none, none, none] (srcW (attrW "inputs" (nameW 3))) (tupA 2 (consAs (nameA 1) (consAs (nameA 2) (nilAs)))) (trueTW true) (tupW (consW (nameW 1) (consW (callW (consW (nameW 2) (nilW)) listF) (nilW))))) (nameA 20)
noncomputable def law_17 : BW := asgBW (compW [none, none, none, none] (srcW (attrW "outputs" (nameW 3))) (tupA 2 (consAs (nameA 1) (consAs (nameA 2) (nilAs)))) (trueTW true) (tupW (consW (nameW 1) (consW (callW (consW (nameW 2) (nilW)) listF) (nilW))))) (nameA 21)
noncomputable def law_18 : BW := asgBW (callW (consW (callW (consW (nameW 3) (consW (callW (consW (nameW 19) (nilW)) dictF) (nilW))) f_rebuilt) (nilW)) f_fold_constants) (nameA 22)
noncomputable def law_19 : BW := asgBW (callW (consW (nameW 9) (consW (nameW 19) (consW (constW (.int 1)) (nilW)))) f_law_all_words) (nameA 23)
noncomputable def law_20 : BW := ifBW (orTW (cmpTW .NotEq (attrW "cells" (nameW 22)) (listW (nilW))) (orTW (cmpTW .NotEq (attrW "inputs" (nameW 22)) (nameW 20)) (trueTW false))) (seqBW (retBW (constW (.bool false))) (nextBW)) (nextBW)
noncomputable def law_21 : BW := ifBW (cmpTW .NotEq (attrW "outputs" (nameW 22)) (callW (consW (nameW 3) (consW (nameW 23) (nilW))) f_law_at_ends)) (seqBW (retBW (constW (.bool false))) (nextBW)) (nextBW)
noncomputable def law_22 : BW := asgBW (binW .LShift (constW (.int 1)) (callW (consW (nameW 7) (nilW)) lenF)) (nameA 24)
noncomputable def law_23 : BW := asgBW (binW .Sub (binW .LShift (constW (.int 1)) (nameW 24)) (constW (.int 1))) (nameA 25)
noncomputable def law_24 : BW := asgBW (dict0W) (nameA 26)
noncomputable def law_25 : BW := asgBW (dict0W) (nameA 27)
noncomputable def law_26 : BW := forBW (rangeW (consW (callW (consW (nameW 7) (nilW)) lenF) (nilW))) (nameA 28) (seqBW (asgBW (subW (nameW 7) (nameW 28)) (nameA 17)) (seqBW (asgBW (binW .LShift (constW (.int 1)) (nameW 28)) (nameA 29)) (seqBW (asgBW (binW .LShift (binW .FloorDiv (nameW 25) (binW .Add (binW .LShift (constW (.int 1)) (nameW 29)) (constW (.int 1)))) (nameW 29)) (subA (nameW 27) (nameW 17))) (seqBW (ifBW (plainTW (callVW 1 bw_law_draw (consW (constW (.int 2)) (nilW)))) (seqBW (asgBW (subW (nameW 19) (nameW 17)) (subA (nameW 26) (nameW 17))) (seqBW (asgBW (iteW (plainTW (subW (nameW 19) (nameW 17))) (nameW 25) (constW (.int 0))) (subA (nameW 27) (nameW 17))) (nextBW))) (nextBW)) (nextBW)))))
noncomputable def law_27 : BW := asgBW (callW (consW (callW (consW (nameW 3) (consW (callW (consW (nameW 26) (nilW)) dictF) (nilW))) f_rebuilt) (nilW)) f_fold_constants) (nameA 22)
noncomputable def law_28 : BW := asgBW (callW (consW (nameW 9) (consW (nameW 27) (consW (nameW 25) (nilW)))) f_law_all_words) (nameA 30)
noncomputable def law_29 : BW := asgBW (callW (consW (attrW "cells" (nameW 22)) (consW (nameW 27) (consW (nameW 25) (nilW)))) f_law_all_words) (nameA 31)
noncomputable def law_30 : BW := ifBW (orTW (cmpTW .NotEq (attrW "inputs" (nameW 22)) (nameW 20)) (orTW (cmpTW .NotEq (callW (consW (nameW 22) (consW (nameW 31) (nilW))) f_law_at_ends) (callW (consW (nameW 3) (consW (nameW 30) (nilW))) f_law_at_ends)) (trueTW false))) (seqBW (retBW (constW (.bool false))) (nextBW)) (nextBW)
noncomputable def law_31 : BW := asgBW (compW [none, none, some 26, some 6] (srcW (nameW 9)) (nameA 1) (andTW (cmpTW .In (subW (nameW 1) (constW (.int 1))) (nameW 3)) (andTW (cmpTW .NotIn (subW (nameW 1) (constW (.int 1))) (nameW 2)) (trueTW true))) (nameW 1)) (nameA 32)
noncomputable def law_32 : BW := asgBW (callW (consW (nameW 22) (nilW)) f_law_held) (nameA 33)
noncomputable def law_33 : BW := ifBW (cmpTW .NotEq (compW [none, none] (srcW (nameW 33)) (nameA 1) (trueTW true) (binW .Add (uptoW (nameW 1) 2) (fromW (nameW 1) 3))) (compW [none, none] (srcW (nameW 32)) (nameA 1) (trueTW true) (binW .Add (uptoW (nameW 1) 2) (fromW (nameW 1) 3)))) (seqBW (retBW (constW (.bool false))) (nextBW)) (nextBW)
noncomputable def law_34 : BW := forBW (rangeW (consW (callW (consW (nameW 32) (nilW)) lenF) (nilW))) (nameA 28) (seqBW (ifBW (cmpTW .NotEq (compW [none, none, some 31] (srcW (subW (subW (nameW 33) (nameW 28)) (constW (.int 2)))) (nameA 1) (trueTW true) (dgetW (nameW 2) (nameW 1) (negW (constW (.int 1))))) (compW [none, none, some 30] (srcW (subW (subW (nameW 32) (nameW 28)) (constW (.int 2)))) (nameA 1) (trueTW true) (subW (nameW 2) (nameW 1)))) (seqBW (retBW (constW (.bool false))) (nextBW)) (nextBW)) (nextBW))
noncomputable def law_35 : BW := retBW (andW (cmpW .Eq (attrW "cells" (nameW 3)) (nameW 9)) (andW (cmpW .Eq (attrW "inputs" (nameW 3)) (nameW 20)) (cmpW .Eq (attrW "outputs" (nameW 3)) (nameW 21))))
noncomputable def bw_law (zs : List Int) : BW := seqBW (law_0 zs) (seqBW (law_1) (seqBW (law_2) (seqBW (law_3) (seqBW (law_4) (seqBW (law_5) (seqBW (law_6) (seqBW (law_7) (seqBW (law_8) (seqBW (law_9) (seqBW (law_10) (seqBW (law_11) (seqBW (law_12) (seqBW (law_13) (seqBW (law_14) (seqBW (law_15) (seqBW (law_16) (seqBW (law_17) (seqBW (law_18) (seqBW (law_19) (seqBW (law_20) (seqBW (law_21) (seqBW (law_22) (seqBW (law_23) (seqBW (law_24) (seqBW (law_25) (seqBW (law_26) (seqBW (law_27) (seqBW (law_28) (seqBW (law_29) (seqBW (law_30) (seqBW (law_31) (seqBW (law_32) (seqBW (law_33) (seqBW (law_34) (seqBW (law_35) (nextBW))))))))))))))))))))))))))))))))))))
theorem Bd.sb_law (b : Bd S) {zs : List Int} (hD : S.C = DC zs) (hB : ∃ mg, S.h₀.Ns mainGlobals mg ∧ S.h₀.BuiltinsAt mg 328) (hH : CodeHd S.h₀ 330 328) : PB S (dfn 45).2.2 12 (dfn 45).2.1 (bw_law zs) := by
 have hS := b.st
 have hC := hS.C
 unfold bw_law
 refine PB.cons ?_ ?_
 ·exact PS.asg hC (PE.call hS (i := 34) (by kernel_rfl) ((b.cn_law_dealer hD hB hH).le (by decide)) (PEs.cons hC (PE.nl (by kernel_rfl)) (PEs.nil))) (PA.name (k := .cell) (by kernel_rfl))
 refine PB.cons ?_ ?_
 ·exact PS.asg hC (PE.tup hC (PEs.cons hC (PE.str) (PEs.cons hC (PE.str) (PEs.cons hC (PE.str) (PEs.cons hC (PE.str) (PEs.cons hC (PE.str) (PEs.cons hC (PE.str) (PEs.cons hC (PE.str) (PEs.cons hC (PE.str) (PEs.cons hC (PE.str) (PEs.cons hC (PE.str) (PEs.cons hC (PE.str) (PEs.nil))))))))))))) (PA.nl (by kernel_rfl))
 refine PB.cons ?_ ?_
 ·exact PS.asg hC (PE.call hS (i := 35) (by kernel_rfl) (b.cn_Netlist.le (by decide)) (PEs.cons hC (PE.str) (PEs.nil))) (PA.nl (by kernel_rfl))
 refine PB.cons ?_ ?_
 ·exact PS.asg hC (PE.meth hS (b.mn_add_input.le (by decide)) (PE.nl (by kernel_rfl)) (PEs.cons hC (PE.str) (PEs.cons hC (PE.bin hC (PE.int) (PE.callV hS hD b (by decide) (k := .cell) (by kernel_rfl) (PEs.cons hC (PE.int) (PEs.nil)))) (PEs.nil)))) (PA.nl (by kernel_rfl))
 refine PB.cons ?_ ?_
 ·exact PS.asg hC (PE.meth hS (b.mn_add_input.le (by decide)) (PE.nl (by kernel_rfl)) (PEs.cons hC (PE.str) (PEs.cons hC (PE.int) (PEs.nil)))) (PA.nl (by kernel_rfl))
 refine PB.cons ?_ ?_
 ·exact PS.asg hC (PE.meth hS (b.mn_new_nets.le (by decide)) (PE.nl (by kernel_rfl)) (PEs.cons hC (PE.callV hS hD b (by decide) (k := .cell) (by kernel_rfl) (PEs.cons hC (PE.int) (PEs.nil))) (PEs.nil))) (PA.name (k := .cell) (by kernel_rfl))
 refine PB.cons ?_ ?_
 ·exact PS.asg hC (PE.bin hC (PE.bin hC (PE.nl (by kernel_rfl)) (PE.nl (by kernel_rfl))) (PE.name (k := .cell) (by kernel_rfl))) (PA.nl (by kernel_rfl))
 refine PB.cons ?_ ?_
 ·exact PS.asg hC (PE.bin hC (PE.list hC (PEs.cons hC (PE.int) (PEs.cons hC (PE.int) (PEs.nil)))) (PE.nl (by kernel_rfl))) (PA.name (k := .cell) (by kernel_rfl))
 refine PB.cons ?_ ?_
 ·exact PS.asg hC (PE.list hC (PEs.nil)) (PA.nl (by kernel_rfl))
 refine PB.cons ?_ ?_
 ·exact PS.for hC (PI.range hS (i := 36) (by kernel_rfl) (b.no_range) (PEs.cons hC (PE.bin hC (PE.int) (PE.callV hS hD b (by decide) (k := .cell) (by kernel_rfl) (PEs.cons hC (PE.int) (PEs.nil)))) (PEs.nil))) (PA.nl (by kernel_rfl)) (PB.cons (PS.asg hC (PE.sub hC (PE.nl (by kernel_rfl)) (PE.callV hS hD b (by decide) (k := .cell) (by kernel_rfl) (PEs.cons hC (PE.int) (PEs.nil)))) (PA.nl (by kernel_rfl))) (PB.cons (PS.asg hC (PE.int) (PA.nl (by kernel_rfl))) (PB.cons (PS.ite hC (PT.cmp hC (PE.nl (by kernel_rfl)) (PE.str)) (PB.cons (PS.asg hC (PE.int) (PA.nl (by kernel_rfl))) (PB.nil)) (PB.cons (PS.ite hC (PT.cmp hC (PE.nl (by kernel_rfl)) (PE.tup hC (PEs.cons hC (PE.str) (PEs.cons hC (PE.str) (PEs.nil))))) (PB.cons (PS.asg hC (PE.int) (PA.nl (by kernel_rfl))) (PB.nil)) (PB.cons (PS.ite hC (PT.cmp hC (PE.nl (by kernel_rfl)) (PE.tup hC (PEs.cons hC (PE.str) (PEs.cons hC (PE.str) (PEs.nil))))) (PB.cons (PS.asg hC (PE.bin hC (PE.int) (PE.callV hS hD b (by decide) (k := .cell) (by kernel_rfl) (PEs.cons hC (PE.int) (PEs.nil)))) (PA.nl (by kernel_rfl))) (PB.nil)) (PB.nil)) (PB.nil))) (PB.nil))) (PB.cons (PS.asg hC (PE.call hS (i := 37) (by kernel_rfl) b.cn_tuple (PEs.cons hC (PE.comp hC (by kernel_rfl) (by kernel_rfl) (PI.range hS (i := 36) (by kernel_rfl) (b.no_range) (PEs.cons hC (PE.nl (by kernel_rfl)) (PEs.nil))) (PA.nl (by kernel_rfl)) (PTs.nil) (PE.sub hC (PE.name (k := .cell) (by kernel_rfl)) (PE.callV hS hD b (by decide) (k := .cell) (by kernel_rfl) (PEs.cons hC (PE.call hS (i := 2) (by kernel_rfl) b.cn_len (PEs.cons hC (PE.name (k := .cell) (by kernel_rfl)) (PEs.nil))) (PEs.nil))))) (PEs.nil))) (PA.nl (by kernel_rfl))) (PB.cons (PS.asg hC (PE.none) (PA.nl (by kernel_rfl))) (PB.cons (PS.ite hC (PT.cmp hC (PE.nl (by kernel_rfl)) (PE.tup hC (PEs.cons hC (PE.str) (PEs.cons hC (PE.str) (PEs.nil))))) (PB.cons (PS.asg hC (PE.callV hS hD b (by decide) (k := .cell) (by kernel_rfl) (PEs.cons hC (PE.bin hC (PE.int) (PE.bin hC (PE.int) (PE.nl (by kernel_rfl)))) (PEs.nil))) (PA.nl (by kernel_rfl))) (PB.cons (PS.ite hC (PT.cmp hC (PE.nl (by kernel_rfl)) (PE.str)) (PB.cons (PS.asg hC (PE.tup hC (PEs.cons hC (PE.str) (PEs.cons hC (PE.nl (by kernel_rfl)) (PEs.nil)))) (PA.nl (by kernel_rfl))) (PB.nil)) (PB.nil)) (PB.nil))) (PB.nil)) (PB.cons (PS.asg hC (PE.meth0 hS (b.mn_new_net.le (by decide)) (PE.nl (by kernel_rfl))) (PA.nl (by kernel_rfl))) (PB.cons (PS.expr hC (PE.append hS (PE.nl (by kernel_rfl)) (PE.tup hC (PEs.cons hC (PE.nl (by kernel_rfl)) (PEs.cons hC (PE.nl (by kernel_rfl)) (PEs.cons hC (PE.nl (by kernel_rfl)) (PEs.cons hC (PE.nl (by kernel_rfl)) (PEs.nil)))))))) (PB.cons (PS.expr hC (PE.append hS (PE.name (k := .cell) (by kernel_rfl)) (PE.nl (by kernel_rfl)))) (PB.nil))))))))))
 refine PB.cons ?_ ?_
 ·exact PS.for hC (PI.of hC (PE.tup hC (PEs.cons hC (PE.str) (PEs.cons hC (PE.str) (PEs.nil))))) (PA.nl (by kernel_rfl)) (PB.cons (PS.expr hC (PE.meth hS (b.mn_add_output.le (by decide)) (PE.nl (by kernel_rfl)) (PEs.cons hC (PE.nl (by kernel_rfl)) (PEs.cons hC (PE.list hC (PEs.cons hC (PE.sub hC (PE.name (k := .cell) (by kernel_rfl)) (PE.callV hS hD b (by decide) (k := .cell) (by kernel_rfl) (PEs.cons hC (PE.call hS (i := 38) (by kernel_rfl) b.cn_len (PEs.cons hC (PE.name (k := .cell) (by kernel_rfl)) (PEs.nil))) (PEs.nil)))) (PEs.nil))) (PEs.nil))))) (PB.nil))
 refine PB.cons ?_ ?_
 ·exact PS.for hC (PI.of hC (PE.name (k := .cell) (by kernel_rfl))) (PA.nl (by kernel_rfl)) (PB.cons (PS.asg hC (PE.call hS (i := 37) (by kernel_rfl) b.cn_tuple (PEs.cons hC (PE.comp hC (by kernel_rfl) (by kernel_rfl) (PI.range hS (i := 36) (by kernel_rfl) (b.no_range) (PEs.cons hC (PE.int) (PEs.nil))) (PA.nl (by kernel_rfl)) (PTs.nil) (PE.sub hC (PE.name (k := .cell) (by kernel_rfl)) (PE.callV hS hD b (by decide) (k := .cell) (by kernel_rfl) (PEs.cons hC (PE.call hS (i := 2) (by kernel_rfl) b.cn_len (PEs.cons hC (PE.name (k := .cell) (by kernel_rfl)) (PEs.nil))) (PEs.nil))))) (PEs.nil))) (PA.nl (by kernel_rfl))) (PB.cons (PS.expr hC (PE.append hS (PE.nl (by kernel_rfl)) (PE.ite hC (PT.plain hC (PE.callV hS hD b (by decide) (k := .cell) (by kernel_rfl) (PEs.cons hC (PE.int) (PEs.nil)))) (PE.tup hC (PEs.cons hC (PE.str) (PEs.cons hC (PE.nl (by kernel_rfl)) (PEs.cons hC (PE.nl (by kernel_rfl)) (PEs.cons hC (PE.tup hC (PEs.cons hC (PE.int) (PEs.cons hC (PE.str) (PEs.cons hC (PE.int) (PEs.nil))))) (PEs.nil)))))) (PE.tup hC (PEs.cons hC (PE.str) (PEs.cons hC (PE.nl (by kernel_rfl)) (PEs.cons hC (PE.nl (by kernel_rfl)) (PEs.cons hC (PE.tup hC (PEs.cons hC (PE.str) (PEs.cons hC (PE.int) (PEs.nil)))) (PEs.nil))))))))) (PB.nil)))
 refine PB.cons ?_ ?_
 ·exact PS.ite hC (PT.plain hC (PE.callV hS hD b (by decide) (k := .cell) (by kernel_rfl) (PEs.cons hC (PE.int) (PEs.nil)))) (PB.cons (PS.expr hC (PE.reverse hS (PE.nl (by kernel_rfl)))) (PB.nil)) (PB.nil)
 refine PB.cons ?_ ?_
 ·exact PS.for hC (PI.of hC (PE.nl (by kernel_rfl))) (PA.tup hC (PAs.cons hC (PA.nl (by kernel_rfl)) (PAs.cons hC (PA.nl (by kernel_rfl)) (PAs.cons hC (PA.nl (by kernel_rfl)) (PAs.cons hC (PA.nl (by kernel_rfl)) (PAs.nil)))))) (PB.cons (PS.expr hC (PE.meth hS (b.mn_drive.le (by decide)) (PE.nl (by kernel_rfl)) (PEs.cons hC (PE.nl (by kernel_rfl)) (PEs.cons hC (PE.nl (by kernel_rfl)) (PEs.cons hC (PE.nl (by kernel_rfl)) (PEs.cons hC (PE.nl (by kernel_rfl)) (PEs.nil))))))) (PB.nil))
 refine PB.cons ?_ ?_
 ·exact PS.asg hC (PE.dict0 hC) (PA.nl (by kernel_rfl))
 refine PB.cons ?_ ?_
 ·exact PS.for hC (PI.of hC (PE.nl (by kernel_rfl))) (PA.nl (by kernel_rfl)) (PB.cons (PS.asg hC (PE.callV hS hD b (by decide) (k := .cell) (by kernel_rfl) (PEs.cons hC (PE.int) (PEs.nil))) (PA.sub hC (PE.nl (by kernel_rfl)) (PE.nl (by kernel_rfl)))) (PB.nil))
 refine PB.cons ?_ ?_
 ·exact PS.asgComp hC (k := .local) (by kernel_rfl) (by kernel_rfl) (by kernel_rfl) (PI.of hC (PE.attr hS (b.ao_inputs) (PE.nl (by kernel_rfl)))) (PA.tup hC (PAs.cons hC (PA.nl (by kernel_rfl)) (PAs.cons hC (PA.nl (by kernel_rfl)) (PAs.nil)))) (PTs.nil) (PE.tup hC (PEs.cons hC (PE.nl (by kernel_rfl)) (PEs.cons hC (PE.call hS (i := 3) (by kernel_rfl) b.cn_list (PEs.cons hC (PE.nl (by kernel_rfl)) (PEs.nil))) (PEs.nil))))
 refine PB.cons ?_ ?_
 ·exact PS.asgComp hC (k := .local) (by kernel_rfl) (by kernel_rfl) (by kernel_rfl) (PI.of hC (PE.attr hS (b.ao_outputs) (PE.nl (by kernel_rfl)))) (PA.tup hC (PAs.cons hC (PA.nl (by kernel_rfl)) (PAs.cons hC (PA.nl (by kernel_rfl)) (PAs.nil)))) (PTs.nil) (PE.tup hC (PEs.cons hC (PE.nl (by kernel_rfl)) (PEs.cons hC (PE.call hS (i := 3) (by kernel_rfl) b.cn_list (PEs.cons hC (PE.nl (by kernel_rfl)) (PEs.nil))) (PEs.nil))))
 refine PB.cons ?_ ?_
 ·exact PS.asg hC (PE.call hS (i := 39) (by kernel_rfl) (b.cn_fold_constants.le (by decide)) (PEs.cons hC (PE.call hS (i := 40) (by kernel_rfl) (b.cn_rebuilt.le (by decide)) (PEs.cons hC (PE.nl (by kernel_rfl)) (PEs.cons hC (PE.call hS (i := 41) (by kernel_rfl) b.cn_dict (PEs.cons hC (PE.nl (by kernel_rfl)) (PEs.nil))) (PEs.nil)))) (PEs.nil))) (PA.nl (by kernel_rfl))
 refine PB.cons ?_ ?_
 ·exact PS.asg hC (PE.call hS (i := 42) (by kernel_rfl) (b.cn_law_all_words.le (by decide)) (PEs.cons hC (PE.nl (by kernel_rfl)) (PEs.cons hC (PE.nl (by kernel_rfl)) (PEs.cons hC (PE.int) (PEs.nil))))) (PA.nl (by kernel_rfl))
 refine PB.cons ?_ ?_
 ·exact PS.ite hC (PT.or hC (PT.cmp hC (PE.attr hS (b.ao_cells) (PE.nl (by kernel_rfl))) (PE.list hC (PEs.nil))) (PT.or hC (PT.cmp hC (PE.attr hS (b.ao_inputs) (PE.nl (by kernel_rfl))) (PE.nl (by kernel_rfl))) (PT.or0))) (PB.cons (PS.ret hC (PE.bool)) (PB.nil)) (PB.nil)
 refine PB.cons ?_ ?_
 ·exact PS.ite hC (PT.cmp hC (PE.attr hS (b.ao_outputs) (PE.nl (by kernel_rfl))) (PE.call hS (i := 43) (by kernel_rfl) (b.cn_law_at_ends.le (by decide)) (PEs.cons hC (PE.nl (by kernel_rfl)) (PEs.cons hC (PE.nl (by kernel_rfl)) (PEs.nil))))) (PB.cons (PS.ret hC (PE.bool)) (PB.nil)) (PB.nil)
 refine PB.cons ?_ ?_
 ·exact PS.asg hC (PE.bin hC (PE.int) (PE.call hS (i := 38) (by kernel_rfl) b.cn_len (PEs.cons hC (PE.nl (by kernel_rfl)) (PEs.nil)))) (PA.nl (by kernel_rfl))
 refine PB.cons ?_ ?_
 ·exact PS.asg hC (PE.bin hC (PE.bin hC (PE.int) (PE.nl (by kernel_rfl))) (PE.int)) (PA.nl (by kernel_rfl))
 refine PB.cons ?_ ?_
 ·exact PS.asg hC (PE.dict0 hC) (PA.name (k := .cell) (by kernel_rfl))
 refine PB.cons ?_ ?_
 ·exact PS.asg hC (PE.dict0 hC) (PA.nl (by kernel_rfl))
 refine PB.cons ?_ ?_
 ·exact PS.for hC (PI.range hS (i := 36) (by kernel_rfl) (b.no_range) (PEs.cons hC (PE.call hS (i := 38) (by kernel_rfl) b.cn_len (PEs.cons hC (PE.nl (by kernel_rfl)) (PEs.nil))) (PEs.nil))) (PA.nl (by kernel_rfl)) (PB.cons (PS.asg hC (PE.sub hC (PE.nl (by kernel_rfl)) (PE.nl (by kernel_rfl))) (PA.nl (by kernel_rfl))) (PB.cons (PS.asg hC (PE.bin hC (PE.int) (PE.nl (by kernel_rfl))) (PA.nl (by kernel_rfl))) (PB.cons (PS.asg hC (PE.bin hC (PE.bin hC (PE.nl (by kernel_rfl)) (PE.bin hC (PE.bin hC (PE.int) (PE.nl (by kernel_rfl))) (PE.int))) (PE.nl (by kernel_rfl))) (PA.sub hC (PE.nl (by kernel_rfl)) (PE.nl (by kernel_rfl)))) (PB.cons (PS.ite hC (PT.plain hC (PE.callV hS hD b (by decide) (k := .cell) (by kernel_rfl) (PEs.cons hC (PE.int) (PEs.nil)))) (PB.cons (PS.asg hC (PE.sub hC (PE.nl (by kernel_rfl)) (PE.nl (by kernel_rfl))) (PA.sub hC (PE.name (k := .cell) (by kernel_rfl)) (PE.nl (by kernel_rfl)))) (PB.cons (PS.asg hC (PE.ite hC (PT.plain hC (PE.sub hC (PE.nl (by kernel_rfl)) (PE.nl (by kernel_rfl)))) (PE.nl (by kernel_rfl)) (PE.int)) (PA.sub hC (PE.nl (by kernel_rfl)) (PE.nl (by kernel_rfl)))) (PB.nil))) (PB.nil)) (PB.nil)))))
 refine PB.cons ?_ ?_
 ·exact PS.asg hC (PE.call hS (i := 39) (by kernel_rfl) (b.cn_fold_constants.le (by decide)) (PEs.cons hC (PE.call hS (i := 40) (by kernel_rfl) (b.cn_rebuilt.le (by decide)) (PEs.cons hC (PE.nl (by kernel_rfl)) (PEs.cons hC (PE.call hS (i := 41) (by kernel_rfl) b.cn_dict (PEs.cons hC (PE.name (k := .cell) (by kernel_rfl)) (PEs.nil))) (PEs.nil)))) (PEs.nil))) (PA.nl (by kernel_rfl))
 refine PB.cons ?_ ?_
 ·exact PS.asg hC (PE.call hS (i := 42) (by kernel_rfl) (b.cn_law_all_words.le (by decide)) (PEs.cons hC (PE.nl (by kernel_rfl)) (PEs.cons hC (PE.nl (by kernel_rfl)) (PEs.cons hC (PE.nl (by kernel_rfl)) (PEs.nil))))) (PA.name (k := .cell) (by kernel_rfl))
 refine PB.cons ?_ ?_
 ·exact PS.asg hC (PE.call hS (i := 42) (by kernel_rfl) (b.cn_law_all_words.le (by decide)) (PEs.cons hC (PE.attr hS (b.ao_cells) (PE.nl (by kernel_rfl))) (PEs.cons hC (PE.nl (by kernel_rfl)) (PEs.cons hC (PE.nl (by kernel_rfl)) (PEs.nil))))) (PA.name (k := .cell) (by kernel_rfl))
 refine PB.cons ?_ ?_
 ·exact PS.ite hC (PT.or hC (PT.cmp hC (PE.attr hS (b.ao_inputs) (PE.nl (by kernel_rfl))) (PE.nl (by kernel_rfl))) (PT.or hC (PT.cmp hC (PE.call hS (i := 43) (by kernel_rfl) (b.cn_law_at_ends.le (by decide)) (PEs.cons hC (PE.nl (by kernel_rfl)) (PEs.cons hC (PE.name (k := .cell) (by kernel_rfl)) (PEs.nil)))) (PE.call hS (i := 43) (by kernel_rfl) (b.cn_law_at_ends.le (by decide)) (PEs.cons hC (PE.nl (by kernel_rfl)) (PEs.cons hC (PE.name (k := .cell) (by kernel_rfl)) (PEs.nil))))) (PT.or0))) (PB.cons (PS.ret hC (PE.bool)) (PB.nil)) (PB.nil)
 refine PB.cons ?_ ?_
 ·exact PS.asgComp hC (k := .local) (by kernel_rfl) (by kernel_rfl) (by kernel_rfl) (PI.of hC (PE.nl (by kernel_rfl))) (PA.nl (by kernel_rfl)) (PTs.one (PT.and hC (PT.cmp hC (PE.sub hC (PE.nl (by kernel_rfl)) (PE.int)) (PE.name (k := .cell) (by kernel_rfl))) (PT.and hC (PT.cmp hC (PE.sub hC (PE.nl (by kernel_rfl)) (PE.int)) (PE.name (k := .cell) (by kernel_rfl))) (PT.and0)))) (PE.nl (by kernel_rfl))
 refine PB.cons ?_ ?_
 ·exact PS.asg hC (PE.call hS (i := 44) (by kernel_rfl) (b.cn_law_held.le (by decide)) (PEs.cons hC (PE.nl (by kernel_rfl)) (PEs.nil))) (PA.nl (by kernel_rfl))
 refine PB.cons ?_ ?_
 ·exact PS.ite hC (PT.cmp hC (PE.comp hC (by kernel_rfl) (by kernel_rfl) (PI.of hC (PE.nl (by kernel_rfl))) (PA.nl (by kernel_rfl)) (PTs.nil) (PE.bin hC (pe_upto hC (m := 2) (PE.nl (by kernel_rfl))) (pe_from hC (m := 3) (PE.nl (by kernel_rfl))))) (PE.comp hC (by kernel_rfl) (by kernel_rfl) (PI.of hC (PE.nl (by kernel_rfl))) (PA.nl (by kernel_rfl)) (PTs.nil) (PE.bin hC (pe_upto hC (m := 2) (PE.nl (by kernel_rfl))) (pe_from hC (m := 3) (PE.nl (by kernel_rfl)))))) (PB.cons (PS.ret hC (PE.bool)) (PB.nil)) (PB.nil)
 refine PB.cons ?_ ?_
 ·exact PS.for hC (PI.range hS (i := 36) (by kernel_rfl) (b.no_range) (PEs.cons hC (PE.call hS (i := 38) (by kernel_rfl) b.cn_len (PEs.cons hC (PE.nl (by kernel_rfl)) (PEs.nil))) (PEs.nil))) (PA.nl (by kernel_rfl)) (PB.cons (PS.ite hC (PT.cmp hC (PE.comp hC (by kernel_rfl) (by kernel_rfl) (PI.of hC (PE.sub hC (PE.sub hC (PE.nl (by kernel_rfl)) (PE.nl (by kernel_rfl))) (PE.int))) (PA.nl (by kernel_rfl)) (PTs.nil) (PE.dictGet hS (PE.name (k := .cell) (by kernel_rfl)) (PE.nl (by kernel_rfl)) (PE.neg hC (PE.int)))) (PE.comp hC (by kernel_rfl) (by kernel_rfl) (PI.of hC (PE.sub hC (PE.sub hC (PE.nl (by kernel_rfl)) (PE.nl (by kernel_rfl))) (PE.int))) (PA.nl (by kernel_rfl)) (PTs.nil) (PE.sub hC (PE.name (k := .cell) (by kernel_rfl)) (PE.nl (by kernel_rfl))))) (PB.cons (PS.ret hC (PE.bool)) (PB.nil)) (PB.nil)) (PB.nil))
 refine PB.cons ?_ ?_
 ·exact PS.ret hC (PE.and hC (PE.cmp hC (PE.attr hS (b.ao_cells) (PE.nl (by kernel_rfl))) (PE.nl (by kernel_rfl))) (PE.and hC (PE.cmp hC (PE.attr hS (b.ao_inputs) (PE.nl (by kernel_rfl))) (PE.nl (by kernel_rfl))) (PE.bool1 (PE.cmp hC (PE.attr hS (b.ao_outputs) (PE.nl (by kernel_rfl))) (PE.nl (by kernel_rfl))))))
 exact PB.nil
end
end Mine
end
section
open PySem PySem.W PyProof.Rows
set_option maxRecDepth 100000
set_option maxHeartbeats 1600000
namespace Mine
theorem FR.start {S : Sur} {T : Ty} {H : List AO} {s : Shared} (_r : SR S T H s) {scope : Scope} {ps : List Str} (ok : ScopeOk scope ps) {vs : List V} {xs : List Value} (hl : vs.length = ps.length) (vr : VRs S.C T vs xs)
  {name : Str} {L a : Addr} {cd : Value} (hns : s.heap.Ns L (bindL (envOfC name scope L a cd).kindOf (ps.zip xs) fun _ => none)) (x : Cl L (cellsFrom (L + 1) scope.names []) s.heap (bindC (envOfC name scope L a cd).kindOf (ps.zip xs) fun _ => none))
  (hL : L ∉ T.ids ∧ T.F L = none) (hcells : ∀ nm c, (nm, c) ∈ cellsFrom (L + 1) scope.names [] → c ∉ T.ids ∧ T.F c = none) :
  FR S T (envOfC name scope L a cd) (vs.map some ++ List.replicate (scope.names.length - ps.length) none) s := by
 have hx := vr.length
 have hz : ((ps.zip xs).map (·.1)) = ps := by
  rw [List.map_fst_zip]; omega
 have cellNd : ((cellsFrom (L + 1) scope.names []).map (·.1)).Nodup := cellsFrom_names scope.names 0 (L + 1) [] [] rfl ▸ ok.cells
 refine ⟨rfl, rfl, ok.kind, ?_, ok.nd, ⟨_, hns, fun i y e => ?_⟩, fun i y k e hkk => ?_, fun p q c hp hq => pairwise_one x.apart (lookup_mem2 hp) (lookup_mem2 hq), hL, fun c hc => ?_, fun i p c hp hc => (hcells p c (lookup_mem2 hc)).2⟩
 ·show _ = scope.names.length
  rw [List.length_append, List.length_map, List.length_replicate, hl]; have := ok.len; omega
 ·have e : scope.names[i]? = some (y, .local) := e
  have hkd : (envOfC name scope L a cd).kindOf y = some .local := lookup_of_get ok.nd e
  rw [← hl, init_getD]
  cases hv : vs[i]? with
  | some v =>
   obtain ⟨z, ez, vz⟩ := vr.get hv
   have hi : i < ps.length := by rw [← hl]; exact (List.getElem?_eq_some_iff.mp hv).1
   have hp : ps[i]? = some y := by
    obtain ⟨k, e1, _⟩ := ok.at (List.getElem?_eq_getElem hi)
    rw [e] at e1; injection e1 with e1; injection e1 with e1 _
    rw [List.getElem?_eq_getElem hi, e1]
   rw [bindL_at hkd (by rw [hz]; exact ok.nps) (zip_mem hp ez)]
   exact .some vz
  | none =>
   rw [bindL_not (by
    rw [hz]
    intro hm
    obtain ⟨j, hj⟩ := List.getElem?_of_mem hm
    obtain ⟨k, e1, _⟩ := ok.at hj
    have hji : j = i := by
     by_cases q : j = i
     ·exact q
     ·exact absurd rfl (names_ne (env := envOfC name scope L a cd) ok.nd e e1 q)
    subst hji
    have := (List.getElem?_eq_some_iff.mp hj).1
    rw [List.getElem?_eq_none_iff] at hv
    omega)]
   exact .none
 ·have e : scope.names[i]? = some (y, k) := e
  have hkd : (envOfC name scope L a cd).kindOf y = some k := lookup_of_get ok.nd e
  rcases hkk with rfl | rfl
  ·have hs : ((cellsFrom (L + 1) scope.names []).lookup y).isSome = true := cellsFrom_some _ _ _ (.inl (lookup_of_get ok.nd e))
   obtain ⟨c, hc⟩ := Option.isSome_iff_exists.mp hs
   refine ⟨c, _, hc, x.cell y c hc, ?_⟩
   have hne : (envOfC name scope L a cd).kindOf y ≠ some .local := by rw [hkd]; intro z; cases z
   rw [← hl, init_getD]
   cases hv : vs[i]? with
   | some v =>
    obtain ⟨z, ez, vz⟩ := vr.get hv
    have hi : i < ps.length := by rw [← hl]; exact (List.getElem?_eq_some_iff.mp hv).1
    have hp : ps[i]? = some y := by
     obtain ⟨k, e1, _⟩ := ok.at (List.getElem?_eq_getElem hi)
     rw [e] at e1; injection e1 with e1; injection e1 with e1 _
     rw [List.getElem?_eq_getElem hi, e1]
    rw [bindC_at hne (by rw [hz]; exact ok.nps) (zip_mem hp ez)]
    exact .some vz
   | none =>
    rw [bindC_not (by
     rw [hz]
     intro hm
     obtain ⟨j, hj⟩ := List.getElem?_of_mem hm
     obtain ⟨k, e1, _⟩ := ok.at hj
     have hji : j = i := by
      by_cases q : j = i
      ·exact q
      ·exact absurd rfl (names_ne (env := envOfC name scope L a cd) ok.nd e e1 q)
     subst hji
     have := (List.getElem?_eq_some_iff.mp hj).1
     rw [List.getElem?_eq_none_iff] at hv
     omega)]
    exact .none
  ·exact absurd rfl (ok.free _ (List.mem_of_getElem? e))
 ·obtain ⟨⟨nm, c'⟩, hm, rfl⟩ := List.mem_map.mp hc
  obtain ⟨o, ho, _⟩ := x.cell nm c' (lookup_of_mem_nodup cellNd hm)
  exact ⟨(hcells nm c' hm).1, o, ho⟩
theorem cellsFrom_ge : ∀ (names : List (Str × NameKind)) (n : Nat) (acc : List (Str × Addr)) {x : Str} {c : Addr}, (x, c) ∈ cellsFrom n names acc → n ≤ c ∨ (x, c) ∈ acc
 | [], _, _, _, _, h => .inr h
 | (y, k) :: r, n, acc, x, c, h => by
  unfold cellsFrom at h
  split at h
  ·rcases cellsFrom_ge r _ _ h with h | h
   ·exact .inl (by omega)
   ·rcases List.mem_cons.mp h with h | h
    ·cases h; exact .inl (Nat.le_refl _)
    ·exact .inr h
  ·exact cellsFrom_ge r _ _ h
theorem cellsFrom_apart : ∀ (names : List (Str × NameKind)) (n : Nat) (acc : List (Str × Addr)), (∀ x ∈ acc, x.2 < n) → acc.Pairwise (fun x y => x.2 ≠ y.2) → (cellsFrom n names acc).Pairwise fun x y => x.2 ≠ y.2
 | [], _, _, _, h => h
 | (y, k) :: r, n, acc, hl, h => by
  unfold cellsFrom
  split
  ·refine cellsFrom_apart r _ _ (fun x hx => ?_) (List.pairwise_cons.mpr ⟨fun x hx => Nat.ne_of_gt (hl x hx), h⟩)
   rcases List.mem_cons.mp hx with rfl | hx
   ·exact Nat.lt_succ_self _
   ·exact Nat.lt_succ_of_lt (hl x hx)
  ·exact cellsFrom_apart r _ _ hl h
theorem cells_mem {cm : Str → Option Value} {cs : List (Str × Addr)} {cells : List (Addr × Obj)} (X : CellsAre cm cs cells) {n : Str} {c : Addr} (h : (n, c) ∈ cs) : ∃ o, (c, o) ∈ cells := by
 induction X with
 | nil => cases h
 | cons hd _ ih =>
  rcases List.mem_cons.mp h with h | h
  ·cases h; exact ⟨_, List.mem_cons_self⟩
  ·obtain ⟨o, ho⟩ := ih h; exact ⟨o, List.mem_cons_of_mem _ ho⟩
noncomputable def LawVC : Prop := ∀ zs : List Int, zs.length ≤ 63 → bw_law zs (some (V.clo 0 0) :: List.replicate 44 none) [.tab 328 true] fun fl _ H => fl = .ret (.bool true) ∧ ∃ b, H[0]? = some (.tab 328 b)
theorem enter (hvc : LawVC) {prog : Program} {w : World} {g : Heap} {s : Shared} {L : Addr} {name : Str} {body : List Stmt} {scope : Scope} {fa : Addr} {cd : Value} {p : Program} {loose : List Str} {mean : ExcName → Option Value} {mg mb : Str → Option Value}
  {lst : Addr} {vals : List Value} {zs : List Int} {cells : List (Addr × Obj)} {m cm : Str → Option Value} {R : Flow → Shared → Prop} {E : Value → Shared → Prop}
  {K : Frag} (hK : obs9 K = exp9) (X : K.In g) (T : Top p loose mean mg mb g) (F : Fr g L s.heap m) (hcells : CellsAre cm (cellsFrom (L + 1) scope.names []) cells) (N : News g L s.heap (cells ++ [(328, tabObj #[])]))
  (hl : g.IsList lst vals.toArray) (hi : IntsAre vals zs) (hz : ¬ (63 : Int) < zs.length) (hc : CodeHd g 330 328) (hlt : 328 < L)
  (hm : m = bindL (envOfC name scope L fa cd).kindOf [(Str.ofString "script", .ref lst)] fun _ => none) (hcm : cm = bindC (envOfC name scope L fa cd).kindOf [(Str.ofString "script", .ref lst)] fun _ => none)
  (hbody : body = (dfn 45).2.1) (hscope : scope = (dfn 45).2.2)
  (hR : ∀ s', (∀ b o, g.get? b = some o → s'.heap.get? b = some o) → s'.os = s.os → s'.gens = s.gens → GrownAll [(330, 328)] s'.heap → R (.ret (.bool true)) s') :
  wpAny (model prog w) (callerA.deeper (envOfC name scope L fa cd)) (execs body (envOfC name scope L fa cd)) R E s := by
 have h328 := N (328, tabObj #[]) (List.mem_append_right _ List.mem_cons_self)
 let S : Sur := ⟨prog, w, K, g, DC zs, 134⟩
 have hS : Stat S := ⟨X, ⟨_, _, _, _, topRead_of T⟩, DrawC.mono⟩
 have b : Bd S := ⟨hS, hK, rfl⟩
 have hB : ∃ mg, S.h₀.Ns mainGlobals mg ∧ S.h₀.BuiltinsAt mg 328 := by
  obtain ⟨bm, ob, b1, b2, b3, b4, b5, b6⟩ := T.bmain
  refine ⟨mg, T.g, bm, ob, b1, b2, fun q => ?_, fun q => ?_, b3, b4, b5, b6⟩
  ·obtain ⟨o, es, ep, e, hd, _⟩ := T.g
   rw [q, e] at b3; cases b3; rw [hd] at b6; cases b6
  ·rw [q, h328.2.2] at b3; cases b3
 let T₀ : Ty := ⟨g.get?, [328]⟩
 have r : SR S T₀ [.tab 328 true] s := by
  refine ⟨F.keep, rfl, fun k a o e q => ?_, by simp [T₀], fun a ha => ?_, fun _ _ e => e, fun a ha => ?_, ?_⟩
  ·match k, e, q with
   | 0, e, q =>
    cases e; cases q
    exact ⟨rfl, #[], h328.1, fun _ => rfl⟩
   | k + 1, e, q => cases e
  ·simp [T₀] at ha; subst ha; exact h328.2.2
  ·simp [T₀] at ha; subst ha; decide
  ·obtain ⟨mc, ⟨o, _, _, e, _⟩, _⟩ := T.nodigits
   exact ⟨o, e⟩
 have hv : VRs S.C T₀ [.clo 0 0] [.ref lst] := by
  refine .cons (.clo ?_) .nil
  obtain ⟨o, e, h1, n, h2⟩ := hl
  exact .script e h1 h2 hi
 have ok : ScopeOk scope [Str.ofString "script"] := by rw [hscope]; exact scopeOk_of (by kernel_rfl)
 have hnm : scope.names.length = 45 := by rw [hscope]; kernel_rfl
 have above : ∀ nm c, (nm, c) ∈ cellsFrom (L + 1) scope.names [] → L < c := fun nm c h => (cellsFrom_ge _ _ _ h).elim (fun z => z) fun z => nomatch z
 have fr := FR.start (name := name) (L := L) (a := fa) (cd := cd) r ok rfl hv (by have := F.ns; rw [hm] at this; exact this) (Cl.of_news (h₀ := g) (own := [(328, tabObj #[])]) (cells := cells) (fun p hp => N p (by rcases List.mem_append.mp hp with h | h; exact List.mem_append_right _ h; exact List.mem_append_left _ h)) (hcm ▸ hcells) (cellsFrom_apart _ _ _ (fun _ h => nomatch h) List.Pairwise.nil) above)
  ⟨by simp [T₀]; exact Ne.symm h328.2.1, by
   show g.get? L = none
   cases e : g.get? L with
   | none => rfl
   | some o => exact absurd (Heap.lt_size e) (Nat.not_lt.mpr F.above)⟩
  (fun nm c h => by
   obtain ⟨o, ho⟩ := cells_mem hcells h
   have := N _ (List.mem_append_left _ ho)
   have hL := above nm c h
   exact ⟨by simp [T₀]; exact fun q => by rw [q] at hL; exact absurd (Nat.lt_trans hlt hL) (Nat.lt_irrefl _), this.2.2⟩)
 have hsp := b.sb_law (zs := zs) rfl hB hc
 rw [← hbody, ← hscope] at hsp
 have q := hvc zs (by omega)
 have hro : Roomy 12 (callerA.deeper (envOfC name scope L fa cd)) := ⟨rfl, by show (302 : Nat) + 4 * 12 ≤ 900; decide, by show (7 : Nat) + 40 * 12 ≤ 9000; decide⟩
 have fr' : FR S T₀ (envOfC name scope L fa cd) (some (V.clo 0 0) :: List.replicate 44 none) s := by
  have := fr
  rw [hnm] at this
  exact this
 refine wpAny_mono (hsp.h hro rfl r fr' q) (fun f s' e => ?_) fun _ _ e => e
 obtain ⟨T', H', ρ', fl, gg, r', _, hfl, rfl, bb, h0⟩ := e
 cases hfl with
 | ret v =>
 cases v
 obtain ⟨h', t', rfl⟩ := gg.up
 refine hR _ (fun b o e => r'.fz b o (gg.le.F b o e)) rfl rfl ⟨?_, trivial⟩
 have e0 : T'.ids[0]? = some 328 := gg.le.id (show T₀.ids[0]? = some 328 from rfl)
 obtain ⟨_, ps, hps, _⟩ := r'.obj 0 _ _ e0 h0
 exact ⟨ps, hps⟩
end Mine
end
section
open PySem PySem.W PyProof.Rows
set_option maxRecDepth 100000
set_option maxHeartbeats 8000000
set_option pp.deepTerms false
set_option pp.deepTerms.threshold 4
namespace Mine
theorem code_ok {K : Frag} (e : obs9 K = exp9) : codeHdIn K 330 328 = true := Option.some.inj (congrArg (fun l => l[3]?) (congrArg (fun x => x.2.2.2.2.2.2.2.1) e))
theorem hd2 (hvc : LawVC) : PySem.Challenge.rw_sj0050_01.Holds := by
 w_on
 refine holds_law t0 fun said => ?_
 refine holds_open (r := PySem.Challenge.rw_sj0050_01.row) (q := qv) (loose := lo) (Xt := fun s => xlAt qv [] s && recOk (RowW.records PySem.Challenge.rw_sj0050_01.row.toRowW) s) (XP := XL qv []) (Yf := hook.obs) (Ya := hook.val) (YP := hook.says) (N := 4322) left hook.of hook.keeps (fun s e => xl_of s (Bool.and_eq_true_iff.mp e).1) XL.keeps (by rfl) (by rfl) (by rfl) (fun s e => recFacts_of (Bool.and_eq_true_iff.mp e).2) (by rfl) (by assumption) (by decide +kernel) ⟨rfl, rfl, rfl, rfl, rfl, by decide +kernel⟩ ?hw ?hc
 case hw => w_witness2
 case hc =>
  w_strict (
  intro w s₀ s₁ mg mb G Y fa o pm cd doc dV kV ho hd hcd hD hmg hg args vals as hpre hlay hrd hwl hlo
  obtain ⟨K, KX, KF, KN⟩ : ∃ K : Frag, K.In s₁.heap ∧ obs9 K = exp9 ∧ noTabs K = true := ⟨Kof s₁.heap, Kof_in, Y.1.1, Y.1.2⟩
  have hT8 : ∀ P ∈ [328], s₁.heap.get? P = some (tabObj #[]) := fun P hP => by rw [List.mem_singleton] at hP; subst hP; exact Y.2.2
  have X := (Ground.X G).1
  have V := (Ground.X G).2
  refine Ground.open G ?_
  intro T B D TE TW
  try (refine guard_noD D (by decide +kernel) ?_; clear D)
  have hT9 : TabsAt [(330, 328)] s₁.heap := List.forall_mem_cons.mpr ⟨⟨codeHd_of_K KX (code_ok KF), hT8 328 (List.mem_singleton.mpr rfl)⟩, fun _ h => nomatch h⟩
  clear hmg
  wrow_args hpre hlay hrd hwl hlo
  all_goals (
   first | refine callC_kw (enter_call ?_) | refine enter_call ?_
   w_top on
   kn_posts
   w_call any ho hd hcd hD T F
   clear hd
   have KG := ghost_K hT9 KX KN
   clear KX
   have X0 : Frag.In [] s₁.heap := fun _ _ e => nomatch e
   kn_ghosts F T
   k_drop
   refine' Mine.enter (K := K) hvc KF ?X ?T ?F ?hcells ?N ?hl ?hi ?hz ?hc ?hlt ?hm ?hcm ?hbody ?hscope ?hR
   case X => assumption
   case T => assumption
   case F => assumption
   case hcells => assumption
   case N => assumption
   case hl => assumption
   case hi => assumption
   case hz => assumption
   case hc => assumption
   case hlt => assumption
   case hm => rfl
   case hcm => rfl
   case hbody => kernel_rfl
   case hscope => kernel_rfl
   case hR =>
    intro s' hk ho hg hgr
    refine ⟨⟨.inl ⟨_, .bool true, [], rfl, fun _ => rfl, .bool true, ?_, unshared_nil⟩, hk, ho, hg.trans ?_⟩, hgr⟩
    ·wrow_post
    ·assumption))
end Mine
end
section
open PySem
set_option maxRecDepth 100000
namespace Mine
section
variable {H : List AO} {Q : V → List AO → Prop} {T : Bool → List AO → Prop} {B : Fl → Rho → List AO → Prop} {U : Rho → List AO → Prop} {L : List V → List AO → Prop} {ρ : Rho} {x y : Int} {l r : List V} {u v a0 b0 c0 d0 : V} {op op' : CmpOp} {bo : Operator} {i j k m : Nat}
variable {a b c : EW} {s : ESW} {t t' : TW} {p q : BW} {f : FW} {g : SW} {w : V → Rho → List AO → (Rho → List AO → Prop) → Prop} {ws : ASW}
theorem seqBW_p : seqBW p q ρ H B = p ρ H (fun f ρ' H' => match f with | .next => q ρ' H' B | f => B f ρ' H') := propext Iff.rfl
theorem nextBW_p : nextBW ρ H B = B .next ρ H := propext Iff.rfl
theorem contBW_p : contBW ρ H B = B .cont ρ H := propext Iff.rfl
theorem falseBW_p : falseBW ρ H B = False := propext Iff.rfl
theorem trueTW_p {z : Bool} : trueTW z ρ H T = T z H := propext Iff.rfl
theorem name0_p : nameW 0 (some v :: ρ) H Q = Q v H := propext Iff.rfl
theorem nameS_p {o : Option V} : nameW (i + 1) (o :: ρ) H Q = nameW i ρ H Q := propext Iff.rfl
theorem constW_p : constW v ρ H Q = Q v H := propext Iff.rfl
theorem neg_const_p : negW (constW (.int x)) ρ H Q = Q (.int (-x)) H := propext Iff.rfl
theorem dict0W_p : dict0W ρ H Q = Q (.ref H.length) (H ++ [.dict []]) := propext Iff.rfl
theorem nilW_p : nilW ρ H L = L [] H := propext Iff.rfl
theorem tupA_p : tupA m ws (.tup l) ρ H U = (l.length = m ∧ ws l ρ H U) := propext Iff.rfl
theorem nilAs_p : nilAs [] ρ H U = U ρ H := propext Iff.rfl
theorem newF_p {vs : List V} : newF f vs H Q = f (.ref (H.length + 1) :: vs) (H ++ [.ns []] ++ [.inst H.length]) fun v H' => match v with | .none => Q (.ref (H.length + 1)) H' | _ => False := propext Iff.rfl
theorem dict2W_p {z z' : Bool} : dict2W x y z z' ρ H Q = (x ≠ y ∧ Q (.ref H.length) (H ++ [.dict [(x, .bool z), (y, .bool z')]])) := propext Iff.rfl
theorem bin_add : binV .Add (.int x) (.int y) H Q = Q (.int (x + y)) H := propext Iff.rfl
theorem bin_addt : binV .Add (.tup l) (.tup r) H Q = (l.length ≠ 0 ∧ r.length ≠ 0 ∧ l.length + r.length ≤ 1000 ∧ Q (.tup (l ++ r)) H) := propext Iff.rfl
theorem bin_sub : binV .Sub (.int x) (.int y) H Q = Q (.int (x - y)) H := propext Iff.rfl
theorem bin_fdiv : binV .FloorDiv (.int x) (.int y) H Q = (y ≠ 0 ∧ y.natAbs < 1073741824 ∧ Q (.int (x.fdiv y)) H) := propext Iff.rfl
theorem bin_mod : binV .Mod (.int x) (.int y) H Q = (y ≠ 0 ∧ Q (.int (x.fmod y)) H) := propext Iff.rfl
theorem bin_shl : binV .LShift (.int x) (.int y) H Q = (0 ≤ y ∧ y ≤ 1000000 ∧ x.natAbs < 2 ^ 64 ∧ Q (.int (x * 2 ^ y.toNat)) H) := propext Iff.rfl
theorem bin_shr : binV .RShift (.int x) (.int y) H Q = (0 ≤ y ∧ Q (.int (x.fdiv (2 ^ y.toNat))) H) := propext Iff.rfl
theorem bin_and : binV .BitAnd (.int x) (.int y) H Q = Q (.int (Builtin.bitAnd x y)) H := propext Iff.rfl
theorem bin_or : binV .BitOr (.int x) (.int y) H Q = Q (.int (Builtin.bitOr x y)) H := propext Iff.rfl
theorem bin_xor : binV .BitXor (.int x) (.int y) H Q = Q (.int (Builtin.bitXor x y)) H := propext Iff.rfl
theorem inp_add : inpV .Add (.int x) (.int y) H Q = Q (.int (x + y)) H := propext Iff.rfl
theorem inp_sub : inpV .Sub (.int x) (.int y) H Q = Q (.int (x - y)) H := propext Iff.rfl
theorem inp_and : inpV .BitAnd (.int x) (.int y) H Q = Q (.int (Builtin.bitAnd x y)) H := propext Iff.rfl
theorem inp_or : inpV .BitOr (.int x) (.int y) H Q = Q (.int (Builtin.bitOr x y)) H := propext Iff.rfl
theorem cmp_eqi : cmpV .Eq (.int x) (.int y) H Q = Q (.bool (x == y)) H := propext Iff.rfl
theorem cmp_nei : cmpV .NotEq (.int x) (.int y) H Q = Q (.bool (x != y)) H := propext Iff.rfl
theorem cmp_lt : cmpV .Lt (.int x) (.int y) H Q = Q (.bool (decide (x < y))) H := propext Iff.rfl
theorem cmp_ge : cmpV .GtE (.int x) (.int y) H Q = Q (.bool (decide (x ≥ y))) H := propext Iff.rfl
theorem cmp_eqs {x y : String} : cmpV .Eq (.str x) (.str y) H Q = Q (.bool (x == y)) H := propext Iff.rfl
theorem tru_bool {b : Bool} : truV (.bool b) H T = T b H := propext Iff.rfl
theorem tru_int : truV (.int x) H T = T (x != 0) H := propext Iff.rfl
theorem get_t0 : getV (.tup (a0 :: l)) (.int 0) H Q = Q a0 H := propext ⟨fun ⟨_, _, _, e, q⟩ => by cases e; exact q, fun q => ⟨a0, by decide, by decide, rfl, q⟩⟩
theorem get_t1 : getV (.tup (a0 :: b0 :: l)) (.int 1) H Q = Q b0 H := propext ⟨fun ⟨_, _, _, e, q⟩ => by cases e; exact q, fun q => ⟨b0, by decide, by decide, rfl, q⟩⟩
theorem get_t2 : getV (.tup (a0 :: b0 :: c0 :: l)) (.int 2) H Q = Q c0 H := propext ⟨fun ⟨_, _, _, e, q⟩ => by cases e; exact q, fun q => ⟨c0, by decide, by decide, rfl, q⟩⟩
theorem get_t3 : getV (.tup (a0 :: b0 :: c0 :: d0 :: l)) (.int 3) H Q = Q d0 H := propext ⟨fun ⟨_, _, _, e, q⟩ => by cases e; exact q, fun q => ⟨d0, by decide, by decide, rfl, q⟩⟩
theorem intF_int : intF [.int x] H Q = Q (.int x) H := propext Iff.rfl
theorem absF_int : absF [.int x] H Q = Q (.int (if x < 0 then -x else x)) H := propext Iff.rfl
theorem lenF_tup : lenF [.tup l] H Q = (l.length ≤ 1000 ∧ Q (.int l.length) H) := propext Iff.rfl
end
end Mine
end
section
open PySem
set_option maxRecDepth 100000
namespace Mine
section
noncomputable abbrev QT := V → List AO → Prop
noncomputable abbrev TT := Bool → List AO → Prop
noncomputable abbrev BT' := Fl → Rho → List AO → Prop
noncomputable abbrev UT := Rho → List AO → Prop
noncomputable abbrev LT := List V → List AO → Prop
noncomputable abbrev ST' := Src → List AO → Prop
noncomputable abbrev AW := V → Rho → List AO → (Rho → List AO → Prop) → Prop
variable {H : List AO} {Q : QT} {T : TT} {B : BT'} {U : UT} {L : LT} {Z : ST'} {ρ : Rho} {x y : Int} {l r : List V} {u v o w' : V} {op op' : CmpOp} {bo : Operator} {i j k m : Nat} {z : Bool}
variable {a b c : EW} {s : ESW} {t t' : TW} {p q : BW} {f : FW} {g : SW} {w : AW} {ws : ASW} {vs : List V} {X : String} {src : Src}
noncomputable def kDef (Q : QT) : BT' := fun f _ H => match f with | .ret v => Q v H | .next => Q .none H | _ => False
noncomputable def kSeq (q : BW) (B : BT') : BT' := fun f ρ H => match f with | .next => q ρ H B | f => B f ρ H
noncomputable def kIf (p q : BW) (ρ : Rho) (B : BT') : TT := fun c H => if c then p ρ H B else q ρ H B
noncomputable def kRet (ρ : Rho) (B : BT') : QT := fun v H => B (.ret v) ρ H
noncomputable def kNx (B : BT') : UT := fun ρ H => B .next ρ H
noncomputable def kAsg (w : AW) (ρ : Rho) (B : BT') : QT := fun v H => w v ρ H (kNx B)
noncomputable def kExp (ρ : Rho) (B : BT') : QT := fun v H => match v with | .none => B .next ρ H | _ => False
noncomputable def kBd (p : BW) (B : BT') : UT := fun ρ H => p ρ H B
noncomputable def kBody (w : AW) (p : BW) : V → BW := fun v ρ H B => w v ρ H (kBd p B)
noncomputable def kFor (w : AW) (p : BW) (ρ : Rho) (B : BT') : ST' := fun src H => loopW src.ok (kBody w p) src.items ρ H B
noncomputable def kOr (t' : TW) (ρ : Rho) (T : TT) : TT := fun c H => if c then T true H else t' ρ H T
noncomputable def kAnd (t' : TW) (ρ : Rho) (T : TT) : TT := fun c H => if c then t' ρ H T else T false H
noncomputable def kNot (T : TT) : TT := fun c H => T (!c) H
noncomputable def kTr (T : TT) : QT := fun v H => truV v H T
noncomputable def kC2 (op : CmpOp) (x : V) (T : TT) : QT := fun y H => cmpV op x y H (kTr T)
noncomputable def kC1 (op : CmpOp) (b : EW) (ρ : Rho) (T : TT) : QT := fun x H => b ρ H (kC2 op x T)
noncomputable def kH4 (op' : CmpOp) (c : EW) (ρ : Rho) (T : TT) (y : V) : TT := fun t H => if t then c ρ H (kC2 op' y T) else T false H
noncomputable def kH3 (op' : CmpOp) (c : EW) (ρ : Rho) (T : TT) (y : V) : QT := fun v H => truV v H (kH4 op' c ρ T y)
noncomputable def kH2 (op op' : CmpOp) (c : EW) (ρ : Rho) (T : TT) (x : V) : QT := fun y H => cmpV op x y H (kH3 op' c ρ T y)
noncomputable def kH1 (op op' : CmpOp) (b c : EW) (ρ : Rho) (T : TT) : QT := fun x H => b ρ H (kH2 op op' c ρ T x)
noncomputable def kD2 (op : CmpOp) (x : V) (Q : QT) : QT := fun y H => cmpV op x y H Q
noncomputable def kD1 (op : CmpOp) (b : EW) (ρ : Rho) (Q : QT) : QT := fun x H => b ρ H (kD2 op x Q)
noncomputable def kW2 (b : EW) (ρ : Rho) (Q : QT) (v : V) : TT := fun c H => if c then Q v H else b ρ H Q
noncomputable def kW1 (b : EW) (ρ : Rho) (Q : QT) : QT := fun v H => truV v H (kW2 b ρ Q v)
noncomputable def kW4 (b : EW) (ρ : Rho) (Q : QT) (v : V) : TT := fun c H => if c then b ρ H Q else Q v H
noncomputable def kW3 (b : EW) (ρ : Rho) (Q : QT) : QT := fun v H => truV v H (kW4 b ρ Q v)
noncomputable def kI (a b : EW) (ρ : Rho) (Q : QT) : TT := fun c H => if c then a ρ H Q else b ρ H Q
noncomputable def kTup (Q : QT) : LT := fun vs H => vs.length ≤ 1000 ∧ Q (.tup vs) H
noncomputable def kLst (Q : QT) : LT := fun vs H => vs.length ≤ 1000 ∧ Q (.ref H.length) (H ++ [.list vs])
noncomputable def kCo2 (v : V) (L : LT) : LT := fun vs H => L (v :: vs) H
noncomputable def kCo (s : ESW) (ρ : Rho) (L : LT) : QT := fun v H => s ρ H (kCo2 v L)
noncomputable def kCl (f : FW) (Q : QT) : LT := fun vs H => f vs H Q
noncomputable def kS2 (o : V) (Q : QT) : QT := fun i H => getV o i H Q
noncomputable def kS1 (b : EW) (ρ : Rho) (Q : QT) : QT := fun o H => b ρ H (kS2 o Q)
noncomputable def kAt (X : String) (Q : QT) : QT := fun v H => attrV X v H Q
noncomputable def kB2 (bo : Operator) (x : V) (Q : QT) : QT := fun y H => binV bo x y H Q
noncomputable def kB1 (bo : Operator) (b : EW) (ρ : Rho) (Q : QT) : QT := fun x H => b ρ H (kB2 bo x Q)
noncomputable def kA2 (o v : V) (ρ : Rho) (U : UT) : QT := fun i H => setV o i v H (U ρ)
noncomputable def kA1 (b : EW) (v : V) (ρ : Rho) (U : UT) : QT := fun o H => b ρ H (kA2 o v ρ U)
noncomputable def kAs (ws : ASW) (l : List V) (U : UT) : UT := fun ρ H => ws l ρ H U
noncomputable def kN2 (i : Nat) (ρ : Rho) (B : BT') : QT := fun r H => B .next (ρ.set i (some r)) H
noncomputable def kN1 (bo : Operator) (v : V) (i : Nat) (ρ : Rho) (B : BT') : QT := fun u H => inpV bo v u H (kN2 i ρ B)
noncomputable def kG6 (ρ : Rho) (B : BT') : List AO → Prop := fun H => B .next ρ H
noncomputable def kG5 (o i : V) (ρ : Rho) (B : BT') : QT := fun w H => setV o i w H (kG6 ρ B)
noncomputable def kG4 (bo : Operator) (o i v : V) (ρ : Rho) (B : BT') : QT := fun u H => inpV bo v u H (kG5 o i ρ B)
noncomputable def kG3 (bo : Operator) (c : EW) (o i : V) (ρ : Rho) (B : BT') : QT := fun v H => c ρ H (kG4 bo o i v ρ B)
noncomputable def kG2 (bo : Operator) (c : EW) (o : V) (ρ : Rho) (B : BT') : QT := fun i H => getV o i H (kG3 bo c o i ρ B)
noncomputable def kG1 (bo : Operator) (b c : EW) (ρ : Rho) (B : BT') : QT := fun o H => b ρ H (kG2 bo c o ρ B)
noncomputable def kR (Z : ST') : LT := fun vs H => match vs with | [.int m] => -1000000 < m ∧ m < 1000000 ∧ Z (.range m) H | _ => False
noncomputable def kSr (Z : ST') : QT := fun v H => match v with | .ref k => ∃ l, H[k]? = some (.list l) ∧ Z (.list k l) H | .tup l => Z (.tup l) H | _ => False
noncomputable def kP2 (k : Nat) (Q : QT) : QT := fun v H => ∃ l : List V, H[k]? = some (.list l) ∧ l.length ≤ 1000 ∧ Q .none (H.set k (.list (l ++ [v])))
noncomputable def kP1 (b : EW) (ρ : Rho) (Q : QT) : QT := fun x H => match x with | .ref k => ∃ l₀, H[k]? = some (.list l₀) ∧ b ρ H (kP2 k Q) | _ => False
noncomputable def kRv (Q : QT) : QT := fun x H => match x with | .ref k => ∃ l : List V, H[k]? = some (.list l) ∧ l.length ≤ 1000 ∧ Q .none (H.set k (.list l.reverse)) | _ => False
noncomputable def kX2 (k : Nat) (Q : QT) : QT := fun v H => ∃ (l : List Int) (i : Int) (j : Nat), v = .int i ∧ H[k]? = some (.list (l.map V.int)) ∧ l.length ≤ 1000 ∧ l[j]? = some i ∧ (∀ m < j, l[m]? ≠ some i) ∧ Q (.int j) H
noncomputable def kX1 (b : EW) (ρ : Rho) (Q : QT) : QT := fun x H => match x with | .ref k => ∃ l₀, H[k]? = some (.list l₀) ∧ b ρ H (kX2 k Q) | _ => False
noncomputable def kY3 (k : Nat) (v : V) (Q : QT) : QT := fun u H => ∃ d i, v = .int i ∧ H[k]? = some (.dict d) ∧ Q ((Mine.dget d i).getD u) H
noncomputable def kY2 (k : Nat) (c : EW) (ρ : Rho) (Q : QT) : QT := fun v H => c ρ H (kY3 k v Q)
noncomputable def kY1 (b c : EW) (ρ : Rho) (Q : QT) : QT := fun x H => match x with | .ref k => ∃ d₀, H[k]? = some (.dict d₀) ∧ b ρ H (kY2 k c ρ Q) | _ => False
noncomputable def kM2 (k : Nat) (f : FW) (Q : QT) : LT := fun vs H => f (.ref k :: vs) H Q
noncomputable def kM1 (X : String) (s : ESW) (f : FW) (ρ : Rho) (Q : QT) : QT := fun v H => match v with | .ref k => ∃ j fs, H[k]? = some (.inst j) ∧ H[j]? = some (.ns fs) ∧ flk fs X = none ∧ s ρ H (kM2 k f Q) | _ => False
noncomputable def kM0 (X : String) (f : FW) (Q : QT) : QT := fun v H => match v with | .ref k => ∃ j fs, H[k]? = some (.inst j) ∧ H[j]? = some (.ns fs) ∧ flk fs X = none ∧ f [.ref k] H Q | _ => False
noncomputable def kAA (X : String) (v : V) (ρ : Rho) (U : UT) : QT := fun o H => match o with | .ref k => ∃ j fs, H[k]? = some (.inst j) ∧ H[j]? = some (.ns fs) ∧ fs.length ≤ 900 ∧ U ρ (H.set j (.ns (fput fs X v))) | _ => False
noncomputable def kU4 (X : String) (o : V) (ρ : Rho) (B : BT') : QT := fun w H => match o with | .ref k => ∃ j fs, H[k]? = some (.inst j) ∧ H[j]? = some (.ns fs) ∧ fs.length ≤ 900 ∧ B .next ρ (H.set j (.ns (fput fs X w))) | _ => False
noncomputable def kU3 (X : String) (bo : Operator) (o v : V) (ρ : Rho) (B : BT') : QT := fun u H => inpV bo v u H (kU4 X o ρ B)
noncomputable def kU2 (X : String) (bo : Operator) (c : EW) (o : V) (ρ : Rho) (B : BT') : QT := fun v H => c ρ H (kU3 X bo o v ρ B)
noncomputable def kU1 (X : String) (bo : Operator) (c : EW) (ρ : Rho) (B : BT') : QT := fun o H => attrV X o H (kU2 X bo c o ρ B)
noncomputable def kUp (m : Nat) (Q : QT) : QT := fun v H => match v with | .tup l => m < l.length ∧ l.length ≤ 1000 ∧ Q (.tup (l.take m)) H | .ref k => ∃ l : List V, H[k]? = some (.list l) ∧ l.length ≤ 1000 ∧ Q (.ref H.length) (H ++ [.list (l.take m)]) | _ => False
noncomputable def kFr (m : Nat) (Q : QT) : QT := fun v H => match v with | .tup l => 1 ≤ m ∧ m ≤ l.length ∧ l.length ≤ 1000 ∧ Q (.tup (l.drop m)) H | _ => False
noncomputable def kCq (Q : QT) : LT := fun acc H => Q (.ref H.length) (H ++ [.list acc])
noncomputable def kCm (mm : List (Option Nat)) (w : AW) (t : TW) (b : EW) (ρ : Rho) (Q : QT) : ST' := fun src H => compLoopW src.ok w t b src.items (compRho mm ρ) H [] (kCq Q)
theorem zk1 : defF k m p vs H Q = (vs.length = k ∧ p (vs.map some ++ List.replicate (m - k) none) H (kDef Q)) := propext Iff.rfl
theorem zk2 : kDef Q (.ret v) ρ H = Q v H := propext Iff.rfl
theorem zk3 : kDef Q .next ρ H = Q .none H := propext Iff.rfl
theorem zk4_ : seqBW p q ρ H B = p ρ H (kSeq q B) := propext ⟨fun h => (show seqBW p q ρ H B from h), fun h => (show seqBW p q ρ H B from h)⟩
theorem zk5 : kSeq q B .next ρ H = q ρ H B := propext Iff.rfl
theorem zk6 : kSeq q B (.ret v) ρ H = B (.ret v) ρ H := propext Iff.rfl
theorem zk7 : kSeq q B .cont ρ H = B .cont ρ H := propext Iff.rfl
theorem zk8 : ifBW t p q ρ H B = t ρ H (kIf p q ρ B) := propext Iff.rfl
theorem zk9 : kIf p q ρ B z H = if z = true then p ρ H B else q ρ H B := propext Iff.rfl
theorem zk10 : retBW a ρ H B = a ρ H (kRet ρ B) := propext Iff.rfl
theorem zk11 : kRet ρ B v H = B (.ret v) ρ H := propext Iff.rfl
theorem zk12 : asgBW a w ρ H B = a ρ H (kAsg w ρ B) := propext Iff.rfl
theorem zk13 : kAsg w ρ B v H = w v ρ H (kNx B) := propext Iff.rfl
theorem zk14 : kNx B ρ H = B .next ρ H := propext Iff.rfl
theorem zk15 : exprBW a ρ H B = a ρ H (kExp ρ B) := propext Iff.rfl
theorem zk16 : kExp ρ B .none H = B .next ρ H := propext Iff.rfl
theorem zk17 : forBW g w p ρ H B = g ρ H (kFor w p ρ B) := propext Iff.rfl
theorem zk18 : kFor w p ρ B src H = loopW src.ok (kBody w p) src.items ρ H B := propext Iff.rfl
theorem zk19 : kBody w p v ρ H B = w v ρ H (kBd p B) := propext Iff.rfl
theorem zk20 : kBd p B ρ H = p ρ H B := propext Iff.rfl
theorem zk21 : orTW t t' ρ H T = t ρ H (kOr t' ρ T) := propext Iff.rfl
theorem zk22 : kOr t' ρ T z H = if z = true then T true H else t' ρ H T := propext Iff.rfl
theorem zk23 : andTW t t' ρ H T = t ρ H (kAnd t' ρ T) := propext Iff.rfl
theorem zk24 : kAnd t' ρ T z H = if z = true then t' ρ H T else T false H := propext Iff.rfl
theorem zk25 : notTW t ρ H T = t ρ H (kNot T) := propext Iff.rfl
theorem zk26 : kNot T z H = T (!z) H := propext Iff.rfl
theorem zk27 : cmpTW op a b ρ H T = a ρ H (kC1 op b ρ T) := propext Iff.rfl
theorem zk28 : kC1 op b ρ T u H = b ρ H (kC2 op u T) := propext Iff.rfl
theorem zk29 : kC2 op u T v H = cmpV op u v H (kTr T) := propext Iff.rfl
theorem zk30 : kTr T v H = truV v H T := propext Iff.rfl
theorem zk31 : chain2TW op op' a b c ρ H T = a ρ H (kH1 op op' b c ρ T) := propext Iff.rfl
theorem zk32 : kH1 op op' b c ρ T u H = b ρ H (kH2 op op' c ρ T u) := propext Iff.rfl
theorem zk33 : kH2 op op' c ρ T u v H = cmpV op u v H (kH3 op' c ρ T v) := propext Iff.rfl
theorem zk34 : kH3 op' c ρ T u v H = truV v H (kH4 op' c ρ T u) := propext Iff.rfl
theorem zk35 : kH4 op' c ρ T u z H = if z = true then c ρ H (kC2 op' u T) else T false H := propext Iff.rfl
theorem zk36 : plainTW a ρ H T = a ρ H (kTr T) := propext Iff.rfl
theorem zk37 : cmpW op a b ρ H Q = a ρ H (kD1 op b ρ Q) := propext Iff.rfl
theorem zk38 : kD1 op b ρ Q u H = b ρ H (kD2 op u Q) := propext Iff.rfl
theorem zk39 : kD2 op u Q v H = cmpV op u v H Q := propext Iff.rfl
theorem zk40 : orW a b ρ H Q = a ρ H (kW1 b ρ Q) := propext Iff.rfl
theorem zk41 : kW1 b ρ Q v H = truV v H (kW2 b ρ Q v) := propext Iff.rfl
theorem zk42 : kW2 b ρ Q v z H = if z = true then Q v H else b ρ H Q := propext Iff.rfl
theorem zk43 : andW a b ρ H Q = a ρ H (kW3 b ρ Q) := propext Iff.rfl
theorem zk44 : kW3 b ρ Q v H = truV v H (kW4 b ρ Q v) := propext Iff.rfl
theorem zk45 : kW4 b ρ Q v z H = if z = true then b ρ H Q else Q v H := propext Iff.rfl
theorem zk46 : iteW t a b ρ H Q = t ρ H (kI a b ρ Q) := propext Iff.rfl
theorem zk47 : kI a b ρ Q z H = if z = true then a ρ H Q else b ρ H Q := propext Iff.rfl
theorem zk48 : tupW s ρ H Q = s ρ H (kTup Q) := propext Iff.rfl
theorem zk49 : kTup Q vs H = (vs.length ≤ 1000 ∧ Q (.tup vs) H) := propext Iff.rfl
theorem zk50 : listW s ρ H Q = s ρ H (kLst Q) := propext Iff.rfl
theorem zk51 : kLst Q vs H = (vs.length ≤ 1000 ∧ Q (.ref H.length) (H ++ [.list vs])) := propext Iff.rfl
theorem zk52 : consW a s ρ H L = a ρ H (kCo s ρ L) := propext Iff.rfl
theorem zk53 : kCo s ρ L v H = s ρ H (kCo2 v L) := propext Iff.rfl
theorem zk54 : kCo2 v L vs H = L (v :: vs) H := propext Iff.rfl
theorem zk55 : callW s f ρ H Q = s ρ H (kCl f Q) := propext Iff.rfl
theorem zk56 : kCl f Q vs H = f vs H Q := propext Iff.rfl
theorem zk57 : subW a b ρ H Q = a ρ H (kS1 b ρ Q) := propext Iff.rfl
theorem zk58 : kS1 b ρ Q o H = b ρ H (kS2 o Q) := propext Iff.rfl
theorem zk59 : kS2 o Q v H = getV o v H Q := propext Iff.rfl
theorem zk60 : attrW X a ρ H Q = a ρ H (kAt X Q) := propext Iff.rfl
theorem zk61 : kAt X Q v H = attrV X v H Q := propext Iff.rfl
theorem zk62 : binW bo a b ρ H Q = a ρ H (kB1 bo b ρ Q) := propext Iff.rfl
theorem zk63 : kB1 bo b ρ Q u H = b ρ H (kB2 bo u Q) := propext Iff.rfl
theorem zk64 : kB2 bo u Q v H = binV bo u v H Q := propext Iff.rfl
theorem zk65 : nameA i v ρ H U = U (ρ.set i (some v)) H := propext Iff.rfl
theorem zk66 : subA a b v ρ H U = a ρ H (kA1 b v ρ U) := propext Iff.rfl
theorem zk67 : kA1 b v ρ U o H = b ρ H (kA2 o v ρ U) := propext Iff.rfl
theorem zk68 : kA2 o v ρ U u H = setV o u v H (U ρ) := propext Iff.rfl
theorem zk69 : consAs w ws (v :: l) ρ H U = w v ρ H (kAs ws l U) := propext Iff.rfl
theorem zk70 : kAs ws l U ρ H = ws l ρ H U := propext Iff.rfl
theorem zk72 : kN1 bo v i ρ B u H = inpV bo v u H (kN2 i ρ B) := propext Iff.rfl
theorem zk74 : augSubBW bo a b c ρ H B = a ρ H (kG1 bo b c ρ B) := propext Iff.rfl
theorem zk75 : kG1 bo b c ρ B o H = b ρ H (kG2 bo c o ρ B) := propext Iff.rfl
theorem zk76 : kG2 bo c o ρ B u H = getV o u H (kG3 bo c o u ρ B) := propext Iff.rfl
theorem zk77 : kG3 bo c o u ρ B v H = c ρ H (kG4 bo o u v ρ B) := propext Iff.rfl
theorem zk78 : kG4 bo o w' v ρ B u H = inpV bo v u H (kG5 o w' ρ B) := propext Iff.rfl
theorem zk79 : kG5 o u ρ B v H = setV o u v H (kG6 ρ B) := propext Iff.rfl
theorem zk80 : kG6 ρ B H = B .next ρ H := propext Iff.rfl
theorem zk81 : rangeW s ρ H Z = s ρ H (kR Z) := propext Iff.rfl
theorem zk82 : kR Z [.int x] H = (-1000000 < x ∧ x < 1000000 ∧ Z (.range x) H) := propext Iff.rfl
theorem zk83 : srcW a ρ H Z = a ρ H (kSr Z) := propext Iff.rfl
theorem zk84 : kSr Z (.ref k) H = (∃ l, H[k]? = some (.list l) ∧ Z (.list k l) H) := propext Iff.rfl
theorem zk85 : kSr Z (.tup l) H = Z (.tup l) H := propext Iff.rfl
theorem zk86 : appendW a b ρ H Q = a ρ H (kP1 b ρ Q) := propext Iff.rfl
theorem zk87 : kP1 b ρ Q (.ref k) H = (∃ l₀, H[k]? = some (.list l₀) ∧ b ρ H (kP2 k Q)) := propext Iff.rfl
theorem zk88 : kP2 k Q v H = (∃ l : List V, H[k]? = some (.list l) ∧ l.length ≤ 1000 ∧ Q .none (H.set k (.list (l ++ [v])))) := propext Iff.rfl
theorem zk89 : reverseW a ρ H Q = a ρ H (kRv Q) := propext Iff.rfl
theorem zk90 : kRv Q (.ref k) H = (∃ l : List V, H[k]? = some (.list l) ∧ l.length ≤ 1000 ∧ Q .none (H.set k (.list l.reverse))) := propext Iff.rfl
theorem zk91 : indexW a b ρ H Q = a ρ H (kX1 b ρ Q) := propext Iff.rfl
theorem zk92 : kX1 b ρ Q (.ref k) H = (∃ l₀, H[k]? = some (.list l₀) ∧ b ρ H (kX2 k Q)) := propext Iff.rfl
theorem zk93 : kX2 k Q v H = (∃ (l : List Int) (i : Int) (j : Nat), v = .int i ∧ H[k]? = some (.list (l.map V.int)) ∧ l.length ≤ 1000 ∧ l[j]? = some i ∧ (∀ m < j, l[m]? ≠ some i) ∧ Q (.int j) H) := propext Iff.rfl
theorem zk94 : dgetW a b c ρ H Q = a ρ H (kY1 b c ρ Q) := propext Iff.rfl
theorem zk95 : kY1 b c ρ Q (.ref k) H = (∃ d₀, H[k]? = some (.dict d₀) ∧ b ρ H (kY2 k c ρ Q)) := propext Iff.rfl
theorem zk96 : kY2 k c ρ Q v H = c ρ H (kY3 k v Q) := propext Iff.rfl
theorem zk97 : kY3 k v Q u H = (∃ d i, v = .int i ∧ H[k]? = some (.dict d) ∧ Q ((Mine.dget d i).getD u) H) := propext Iff.rfl
theorem zk98 : methW X a s f ρ H Q = a ρ H (kM1 X s f ρ Q) := propext Iff.rfl
theorem zk99 : kM1 X s f ρ Q (.ref k) H = (∃ j fs, H[k]? = some (.inst j) ∧ H[j]? = some (.ns fs) ∧ flk fs X = none ∧ s ρ H (kM2 k f Q)) := propext Iff.rfl
theorem zk100 : kM2 k f Q vs H = f (.ref k :: vs) H Q := propext Iff.rfl
theorem zk101 : meth0W X a f ρ H Q = a ρ H (kM0 X f Q) := propext Iff.rfl
theorem zk102 : kM0 X f Q (.ref k) H = (∃ j fs, H[k]? = some (.inst j) ∧ H[j]? = some (.ns fs) ∧ flk fs X = none ∧ f [.ref k] H Q) := propext Iff.rfl
theorem zk104 : kAA X v ρ U (.ref k) H = (∃ j fs, H[k]? = some (.inst j) ∧ H[j]? = some (.ns fs) ∧ fs.length ≤ 900 ∧ U ρ (H.set j (.ns (fput fs X v)))) := propext Iff.rfl
theorem zk105 : augAttrBW X bo a c ρ H B = a ρ H (kU1 X bo c ρ B) := propext Iff.rfl
theorem zk106 : kU1 X bo c ρ B o H = attrV X o H (kU2 X bo c o ρ B) := propext Iff.rfl
theorem zk107 : kU2 X bo c o ρ B v H = c ρ H (kU3 X bo o v ρ B) := propext Iff.rfl
theorem zk108 : kU3 X bo o v ρ B u H = inpV bo v u H (kU4 X o ρ B) := propext Iff.rfl
theorem zk109 : kU4 X (.ref k) ρ B v H = (∃ j fs, H[k]? = some (.inst j) ∧ H[j]? = some (.ns fs) ∧ fs.length ≤ 900 ∧ B .next ρ (H.set j (.ns (fput fs X v)))) := propext Iff.rfl
theorem zk110 : uptoW a m ρ H Q = a ρ H (kUp m Q) := propext Iff.rfl
theorem zk111 : kUp m Q (.tup l) H = (m < l.length ∧ l.length ≤ 1000 ∧ Q (.tup (l.take m)) H) := propext Iff.rfl
theorem zk112 : kUp m Q (.ref k) H = (∃ l : List V, H[k]? = some (.list l) ∧ l.length ≤ 1000 ∧ Q (.ref H.length) (H ++ [.list (l.take m)])) := propext Iff.rfl
theorem zk113 : fromW a m ρ H Q = a ρ H (kFr m Q) := propext Iff.rfl
theorem zk114 : kFr m Q (.tup l) H = (1 ≤ m ∧ m ≤ l.length ∧ l.length ≤ 1000 ∧ Q (.tup (l.drop m)) H) := propext Iff.rfl
theorem zk115 {mm : List (Option Nat)} : compW mm g w t b ρ H Q = g ρ H (kCm mm w t b ρ Q) := propext Iff.rfl
theorem zk116 {mm : List (Option Nat)} : kCm mm w t b ρ Q src H = compLoopW src.ok w t b src.items (compRho mm ρ) H [] (kCq Q) := propext Iff.rfl
theorem zk117 : kCq Q vs H = Q (.ref H.length) (H ++ [.list vs]) := propext Iff.rfl
theorem augN1 {o0 : Option V} : augNameBW 1 bo a (o0 :: some v :: ρ) H B = a (o0 :: some v :: ρ) H (kN1 bo v 1 (o0 :: some v :: ρ) B) := propext Iff.rfl
theorem augN2 {o0 o1 : Option V} : augNameBW 2 bo a (o0 :: o1 :: some v :: ρ) H B = a (o0 :: o1 :: some v :: ρ) H (kN1 bo v 2 (o0 :: o1 :: some v :: ρ) B) := propext Iff.rfl
theorem augN3 {o0 o1 o2 : Option V} : augNameBW 3 bo a (o0 :: o1 :: o2 :: some v :: ρ) H B = a (o0 :: o1 :: o2 :: some v :: ρ) H (kN1 bo v 3 (o0 :: o1 :: o2 :: some v :: ρ) B) := propext Iff.rfl
theorem augN5 {o0 o1 o2 o3 o4 : Option V} : augNameBW 5 bo a (o0 :: o1 :: o2 :: o3 :: o4 :: some v :: ρ) H B = a (o0 :: o1 :: o2 :: o3 :: o4 :: some v :: ρ) H (kN1 bo v 5 (o0 :: o1 :: o2 :: o3 :: o4 :: some v :: ρ) B) := propext Iff.rfl
theorem augN7 {o0 o1 o2 o3 o4 o5 o6 : Option V} : augNameBW 7 bo a (o0 :: o1 :: o2 :: o3 :: o4 :: o5 :: o6 :: some v :: ρ) H B = a (o0 :: o1 :: o2 :: o3 :: o4 :: o5 :: o6 :: some v :: ρ) H (kN1 bo v 7 (o0 :: o1 :: o2 :: o3 :: o4 :: o5 :: o6 :: some v :: ρ) B) := propext Iff.rfl
theorem augN10 {o0 o1 o2 o3 o4 o5 o6 o7 o8 o9 : Option V} : augNameBW 10 bo a (o0 :: o1 :: o2 :: o3 :: o4 :: o5 :: o6 :: o7 :: o8 :: o9 :: some v :: ρ) H B = a (o0 :: o1 :: o2 :: o3 :: o4 :: o5 :: o6 :: o7 :: o8 :: o9 :: some v :: ρ) H (kN1 bo v 10 (o0 :: o1 :: o2 :: o3 :: o4 :: o5 :: o6 :: o7 :: o8 :: o9 :: some v :: ρ) B) := propext Iff.rfl
theorem nm0 : nameW 0 (some v :: ρ) H Q = Q v H := propext Iff.rfl
theorem nm1 {o0 : Option V} : nameW 1 (o0 :: some v :: ρ) H Q = Q v H := propext Iff.rfl
theorem na1 {o0 o1 : Option V} : nameA 1 v (o0 :: o1 :: ρ) H U = U (o0 :: some v :: ρ) H := propext Iff.rfl
theorem ka1 {o0 o1 : Option V} : kAsg (nameA 1) (o0 :: o1 :: ρ) (kSeq q B) v H = q (o0 :: some v :: ρ) H B := propext Iff.rfl
theorem kn1 {o0 o1 : Option V} : kN2 1 (o0 :: o1 :: ρ) B v H = B .next (o0 :: some v :: ρ) H := propext Iff.rfl
theorem nm2 {o0 o1 : Option V} : nameW 2 (o0 :: o1 :: some v :: ρ) H Q = Q v H := propext Iff.rfl
theorem na2 {o0 o1 o2 : Option V} : nameA 2 v (o0 :: o1 :: o2 :: ρ) H U = U (o0 :: o1 :: some v :: ρ) H := propext Iff.rfl
theorem ka2 {o0 o1 o2 : Option V} : kAsg (nameA 2) (o0 :: o1 :: o2 :: ρ) (kSeq q B) v H = q (o0 :: o1 :: some v :: ρ) H B := propext Iff.rfl
theorem kn2 {o0 o1 o2 : Option V} : kN2 2 (o0 :: o1 :: o2 :: ρ) B v H = B .next (o0 :: o1 :: some v :: ρ) H := propext Iff.rfl
theorem nm3 {o0 o1 o2 : Option V} : nameW 3 (o0 :: o1 :: o2 :: some v :: ρ) H Q = Q v H := propext Iff.rfl
theorem na3 {o0 o1 o2 o3 : Option V} : nameA 3 v (o0 :: o1 :: o2 :: o3 :: ρ) H U = U (o0 :: o1 :: o2 :: some v :: ρ) H := propext Iff.rfl
theorem ka3 {o0 o1 o2 o3 : Option V} : kAsg (nameA 3) (o0 :: o1 :: o2 :: o3 :: ρ) (kSeq q B) v H = q (o0 :: o1 :: o2 :: some v :: ρ) H B := propext Iff.rfl
theorem kn3 {o0 o1 o2 o3 : Option V} : kN2 3 (o0 :: o1 :: o2 :: o3 :: ρ) B v H = B .next (o0 :: o1 :: o2 :: some v :: ρ) H := propext Iff.rfl
theorem nm4 {o0 o1 o2 o3 : Option V} : nameW 4 (o0 :: o1 :: o2 :: o3 :: some v :: ρ) H Q = Q v H := propext Iff.rfl
theorem na4 {o0 o1 o2 o3 o4 : Option V} : nameA 4 v (o0 :: o1 :: o2 :: o3 :: o4 :: ρ) H U = U (o0 :: o1 :: o2 :: o3 :: some v :: ρ) H := propext Iff.rfl
theorem ka4 {o0 o1 o2 o3 o4 : Option V} : kAsg (nameA 4) (o0 :: o1 :: o2 :: o3 :: o4 :: ρ) (kSeq q B) v H = q (o0 :: o1 :: o2 :: o3 :: some v :: ρ) H B := propext Iff.rfl
theorem nm5 {o0 o1 o2 o3 o4 : Option V} : nameW 5 (o0 :: o1 :: o2 :: o3 :: o4 :: some v :: ρ) H Q = Q v H := propext Iff.rfl
theorem na5 {o0 o1 o2 o3 o4 o5 : Option V} : nameA 5 v (o0 :: o1 :: o2 :: o3 :: o4 :: o5 :: ρ) H U = U (o0 :: o1 :: o2 :: o3 :: o4 :: some v :: ρ) H := propext Iff.rfl
theorem ka5 {o0 o1 o2 o3 o4 o5 : Option V} : kAsg (nameA 5) (o0 :: o1 :: o2 :: o3 :: o4 :: o5 :: ρ) (kSeq q B) v H = q (o0 :: o1 :: o2 :: o3 :: o4 :: some v :: ρ) H B := propext Iff.rfl
theorem kn5 {o0 o1 o2 o3 o4 o5 : Option V} : kN2 5 (o0 :: o1 :: o2 :: o3 :: o4 :: o5 :: ρ) B v H = B .next (o0 :: o1 :: o2 :: o3 :: o4 :: some v :: ρ) H := propext Iff.rfl
theorem nm6 {o0 o1 o2 o3 o4 o5 : Option V} : nameW 6 (o0 :: o1 :: o2 :: o3 :: o4 :: o5 :: some v :: ρ) H Q = Q v H := propext Iff.rfl
theorem na6 {o0 o1 o2 o3 o4 o5 o6 : Option V} : nameA 6 v (o0 :: o1 :: o2 :: o3 :: o4 :: o5 :: o6 :: ρ) H U = U (o0 :: o1 :: o2 :: o3 :: o4 :: o5 :: some v :: ρ) H := propext Iff.rfl
theorem ka6 {o0 o1 o2 o3 o4 o5 o6 : Option V} : kAsg (nameA 6) (o0 :: o1 :: o2 :: o3 :: o4 :: o5 :: o6 :: ρ) (kSeq q B) v H = q (o0 :: o1 :: o2 :: o3 :: o4 :: o5 :: some v :: ρ) H B := propext Iff.rfl
theorem nm7 {o0 o1 o2 o3 o4 o5 o6 : Option V} : nameW 7 (o0 :: o1 :: o2 :: o3 :: o4 :: o5 :: o6 :: some v :: ρ) H Q = Q v H := propext Iff.rfl
theorem na7 {o0 o1 o2 o3 o4 o5 o6 o7 : Option V} : nameA 7 v (o0 :: o1 :: o2 :: o3 :: o4 :: o5 :: o6 :: o7 :: ρ) H U = U (o0 :: o1 :: o2 :: o3 :: o4 :: o5 :: o6 :: some v :: ρ) H := propext Iff.rfl
theorem ka7 {o0 o1 o2 o3 o4 o5 o6 o7 : Option V} : kAsg (nameA 7) (o0 :: o1 :: o2 :: o3 :: o4 :: o5 :: o6 :: o7 :: ρ) (kSeq q B) v H = q (o0 :: o1 :: o2 :: o3 :: o4 :: o5 :: o6 :: some v :: ρ) H B := propext Iff.rfl
theorem kn7 {o0 o1 o2 o3 o4 o5 o6 o7 : Option V} : kN2 7 (o0 :: o1 :: o2 :: o3 :: o4 :: o5 :: o6 :: o7 :: ρ) B v H = B .next (o0 :: o1 :: o2 :: o3 :: o4 :: o5 :: o6 :: some v :: ρ) H := propext Iff.rfl
theorem nm8 {o0 o1 o2 o3 o4 o5 o6 o7 : Option V} : nameW 8 (o0 :: o1 :: o2 :: o3 :: o4 :: o5 :: o6 :: o7 :: some v :: ρ) H Q = Q v H := propext Iff.rfl
theorem na8 {o0 o1 o2 o3 o4 o5 o6 o7 o8 : Option V} : nameA 8 v (o0 :: o1 :: o2 :: o3 :: o4 :: o5 :: o6 :: o7 :: o8 :: ρ) H U = U (o0 :: o1 :: o2 :: o3 :: o4 :: o5 :: o6 :: o7 :: some v :: ρ) H := propext Iff.rfl
theorem nm9 {o0 o1 o2 o3 o4 o5 o6 o7 o8 : Option V} : nameW 9 (o0 :: o1 :: o2 :: o3 :: o4 :: o5 :: o6 :: o7 :: o8 :: some v :: ρ) H Q = Q v H := propext Iff.rfl
theorem na9 {o0 o1 o2 o3 o4 o5 o6 o7 o8 o9 : Option V} : nameA 9 v (o0 :: o1 :: o2 :: o3 :: o4 :: o5 :: o6 :: o7 :: o8 :: o9 :: ρ) H U = U (o0 :: o1 :: o2 :: o3 :: o4 :: o5 :: o6 :: o7 :: o8 :: some v :: ρ) H := propext Iff.rfl
theorem ka9 {o0 o1 o2 o3 o4 o5 o6 o7 o8 o9 : Option V} : kAsg (nameA 9) (o0 :: o1 :: o2 :: o3 :: o4 :: o5 :: o6 :: o7 :: o8 :: o9 :: ρ) (kSeq q B) v H = q (o0 :: o1 :: o2 :: o3 :: o4 :: o5 :: o6 :: o7 :: o8 :: some v :: ρ) H B := propext Iff.rfl
theorem nm10 {o0 o1 o2 o3 o4 o5 o6 o7 o8 o9 : Option V} : nameW 10 (o0 :: o1 :: o2 :: o3 :: o4 :: o5 :: o6 :: o7 :: o8 :: o9 :: some v :: ρ) H Q = Q v H := propext Iff.rfl
theorem ka10 {o0 o1 o2 o3 o4 o5 o6 o7 o8 o9 o10 : Option V} : kAsg (nameA 10) (o0 :: o1 :: o2 :: o3 :: o4 :: o5 :: o6 :: o7 :: o8 :: o9 :: o10 :: ρ) (kSeq q B) v H = q (o0 :: o1 :: o2 :: o3 :: o4 :: o5 :: o6 :: o7 :: o8 :: o9 :: some v :: ρ) H B := propext Iff.rfl
theorem kn10 {o0 o1 o2 o3 o4 o5 o6 o7 o8 o9 o10 : Option V} : kN2 10 (o0 :: o1 :: o2 :: o3 :: o4 :: o5 :: o6 :: o7 :: o8 :: o9 :: o10 :: ρ) B v H = B .next (o0 :: o1 :: o2 :: o3 :: o4 :: o5 :: o6 :: o7 :: o8 :: o9 :: some v :: ρ) H := propext Iff.rfl
theorem ksub : kAsg (subA a b) ρ B v H = a ρ H (kA1 b v ρ (kNx B)) := propext Iff.rfl
theorem ktup {n : Nat} : kAsg (tupA n ws) ρ B v H = tupA n ws v ρ H (kNx B) := propext Iff.rfl
theorem katt : kAsg (attrA X a) ρ B v H = a ρ H (kAA X v ρ (kNx B)) := propext Iff.rfl
theorem df1 {v0 : V} : defF 1 m p [v0] H Q = p (some v0 :: List.replicate (m - 1) none) H (kDef Q) := propext ⟨fun h => h.2, fun h => ⟨rfl, h⟩⟩
theorem df2 {v0 v1 : V} : defF 2 m p [v0, v1] H Q = p (some v0 :: some v1 :: List.replicate (m - 2) none) H (kDef Q) := propext ⟨fun h => h.2, fun h => ⟨rfl, h⟩⟩
theorem df3 {v0 v1 v2 : V} : defF 3 m p [v0, v1, v2] H Q = p (some v0 :: some v1 :: some v2 :: List.replicate (m - 3) none) H (kDef Q) := propext ⟨fun h => h.2, fun h => ⟨rfl, h⟩⟩
theorem df4 {v0 v1 v2 v3 : V} : defF 4 m p [v0, v1, v2, v3] H Q = p (some v0 :: some v1 :: some v2 :: some v3 :: List.replicate (m - 4) none) H (kDef Q) := propext ⟨fun h => h.2, fun h => ⟨rfl, h⟩⟩
theorem df5 {v0 v1 v2 v3 v4 : V} : defF 5 m p [v0, v1, v2, v3, v4] H Q = p (some v0 :: some v1 :: some v2 :: some v3 :: some v4 :: List.replicate (m - 5) none) H (kDef Q) := propext ⟨fun h => h.2, fun h => ⟨rfl, h⟩⟩
theorem rp0 : List.replicate 0 (none : Option V) = [] := by simp only [List.replicate]
theorem rp1 : List.replicate 1 (none : Option V) = [none] := by simp only [List.replicate]
theorem rp2 : List.replicate 2 (none : Option V) = [none, none] := by simp only [List.replicate]
theorem rp3 : List.replicate 3 (none : Option V) = [none, none, none] := by simp only [List.replicate]
theorem rp4 : List.replicate 4 (none : Option V) = [none, none, none, none] := by simp only [List.replicate]
theorem rp5 : List.replicate 5 (none : Option V) = [none, none, none, none, none] := by simp only [List.replicate]
theorem rp6 : List.replicate 6 (none : Option V) = [none, none, none, none, none, none] := by simp only [List.replicate]
theorem rp7 : List.replicate 7 (none : Option V) = [none, none, none, none, none, none, none] := by simp only [List.replicate]
theorem rp8 : List.replicate 8 (none : Option V) = [none, none, none, none, none, none, none, none] := by simp only [List.replicate]
theorem rp9 : List.replicate 9 (none : Option V) = [none, none, none, none, none, none, none, none, none] := by simp only [List.replicate]
theorem rp12 : List.replicate 12 (none : Option V) = [none, none, none, none, none, none, none, none, none, none, none, none] := by simp only [List.replicate]
theorem rp14 : List.replicate 14 (none : Option V) = [none, none, none, none, none, none, none, none, none, none, none, none, none, none] := by simp only [List.replicate]
theorem vf1 : kC1 op (constW w') ρ T u H = kC2 op u T w' H := propext Iff.rfl
theorem vf3 : kS1 (constW w') ρ Q o H = getV o w' H Q := propext Iff.rfl
theorem vf4 : kB1 bo (constW w') ρ Q u H = binV bo u w' H Q := propext Iff.rfl
theorem vf5 : kCo nilW ρ L v H = L [v] H := propext Iff.rfl
theorem vf6 : kCo2 v (kCo2 u L) vs H = L (u :: v :: vs) H := propext Iff.rfl
theorem vf7 : seqBW (asgBW a w) q ρ H B = a ρ H (kAsg w ρ (kSeq q B)) := propext Iff.rfl
theorem vf8 {r : BW} : seqBW (ifBW t p q) r ρ H B = t ρ H (kIf p q ρ (kSeq r B)) := propext Iff.rfl
theorem vf9 {r : BW} : seqBW (retBW a) r ρ H B = a ρ H (kRet ρ B) := propext Iff.rfl
theorem vf10 {r : BW} : seqBW (exprBW a) r ρ H B = a ρ H (kExp ρ (kSeq r B)) := propext Iff.rfl
theorem vf11 : kExp ρ (kSeq q B) .none H = q ρ H B := propext Iff.rfl
theorem vf12 : kNx (kSeq q B) ρ H = q ρ H B := propext Iff.rfl
theorem vf13 {r : BW} : seqBW (forBW g w p) r ρ H B = g ρ H (kFor w p ρ (kSeq r B)) := propext Iff.rfl
theorem vf14 {b : Bool} : kTr T (.bool b) H = T b H := propext Iff.rfl
theorem vf15 : kC2 .Eq (.int x) T (.int y) H = T (x == y) H := propext Iff.rfl
theorem vf17 : kC2 .Lt (.int x) T (.int y) H = T (decide (x < y)) H := propext Iff.rfl
theorem vf19 : kC2 .Gt (.int x) T (.int y) H = T (decide (x > y)) H := propext Iff.rfl
theorem vf21 {x y : String} : kC2 .Eq (.str x) T (.str y) H = T (x == y) H := propext Iff.rfl
theorem vf22 : consW (constW w') s ρ H L = s ρ H (kCo2 w' L) := propext Iff.rfl
theorem cn0 : consW (nameW 0) s (some v :: ρ) H L = s (some v :: ρ) H (kCo2 v L) := propext Iff.rfl
theorem sn0 : subW (nameW 0) b (some v :: ρ) H Q = b (some v :: ρ) H (kS2 v Q) := propext Iff.rfl
theorem tn0 : cmpTW op (nameW 0) b (some v :: ρ) H T = b (some v :: ρ) H (kC2 op v T) := propext Iff.rfl
theorem cn1 {o0 : Option V} : consW (nameW 1) s (o0 :: some v :: ρ) H L = s (o0 :: some v :: ρ) H (kCo2 v L) := propext Iff.rfl
theorem sn1 {o0 : Option V} : subW (nameW 1) b (o0 :: some v :: ρ) H Q = b (o0 :: some v :: ρ) H (kS2 v Q) := propext Iff.rfl
theorem tn1 {o0 : Option V} : cmpTW op (nameW 1) b (o0 :: some v :: ρ) H T = b (o0 :: some v :: ρ) H (kC2 op v T) := propext Iff.rfl
theorem cn2 {o0 o1 : Option V} : consW (nameW 2) s (o0 :: o1 :: some v :: ρ) H L = s (o0 :: o1 :: some v :: ρ) H (kCo2 v L) := propext Iff.rfl
theorem sn2 {o0 o1 : Option V} : subW (nameW 2) b (o0 :: o1 :: some v :: ρ) H Q = b (o0 :: o1 :: some v :: ρ) H (kS2 v Q) := propext Iff.rfl
theorem tn2 {o0 o1 : Option V} : cmpTW op (nameW 2) b (o0 :: o1 :: some v :: ρ) H T = b (o0 :: o1 :: some v :: ρ) H (kC2 op v T) := propext Iff.rfl
theorem cn3 {o0 o1 o2 : Option V} : consW (nameW 3) s (o0 :: o1 :: o2 :: some v :: ρ) H L = s (o0 :: o1 :: o2 :: some v :: ρ) H (kCo2 v L) := propext Iff.rfl
theorem sn3 {o0 o1 o2 : Option V} : subW (nameW 3) b (o0 :: o1 :: o2 :: some v :: ρ) H Q = b (o0 :: o1 :: o2 :: some v :: ρ) H (kS2 v Q) := propext Iff.rfl
theorem tn3 {o0 o1 o2 : Option V} : cmpTW op (nameW 3) b (o0 :: o1 :: o2 :: some v :: ρ) H T = b (o0 :: o1 :: o2 :: some v :: ρ) H (kC2 op v T) := propext Iff.rfl
theorem cn4 {o0 o1 o2 o3 : Option V} : consW (nameW 4) s (o0 :: o1 :: o2 :: o3 :: some v :: ρ) H L = s (o0 :: o1 :: o2 :: o3 :: some v :: ρ) H (kCo2 v L) := propext Iff.rfl
theorem sn4 {o0 o1 o2 o3 : Option V} : subW (nameW 4) b (o0 :: o1 :: o2 :: o3 :: some v :: ρ) H Q = b (o0 :: o1 :: o2 :: o3 :: some v :: ρ) H (kS2 v Q) := propext Iff.rfl
theorem tn4 {o0 o1 o2 o3 : Option V} : cmpTW op (nameW 4) b (o0 :: o1 :: o2 :: o3 :: some v :: ρ) H T = b (o0 :: o1 :: o2 :: o3 :: some v :: ρ) H (kC2 op v T) := propext Iff.rfl
theorem cn5 {o0 o1 o2 o3 o4 : Option V} : consW (nameW 5) s (o0 :: o1 :: o2 :: o3 :: o4 :: some v :: ρ) H L = s (o0 :: o1 :: o2 :: o3 :: o4 :: some v :: ρ) H (kCo2 v L) := propext Iff.rfl
theorem sn5 {o0 o1 o2 o3 o4 : Option V} : subW (nameW 5) b (o0 :: o1 :: o2 :: o3 :: o4 :: some v :: ρ) H Q = b (o0 :: o1 :: o2 :: o3 :: o4 :: some v :: ρ) H (kS2 v Q) := propext Iff.rfl
theorem cn6 {o0 o1 o2 o3 o4 o5 : Option V} : consW (nameW 6) s (o0 :: o1 :: o2 :: o3 :: o4 :: o5 :: some v :: ρ) H L = s (o0 :: o1 :: o2 :: o3 :: o4 :: o5 :: some v :: ρ) H (kCo2 v L) := propext Iff.rfl
theorem cn7 {o0 o1 o2 o3 o4 o5 o6 : Option V} : consW (nameW 7) s (o0 :: o1 :: o2 :: o3 :: o4 :: o5 :: o6 :: some v :: ρ) H L = s (o0 :: o1 :: o2 :: o3 :: o4 :: o5 :: o6 :: some v :: ρ) H (kCo2 v L) := propext Iff.rfl
theorem sn7 {o0 o1 o2 o3 o4 o5 o6 : Option V} : subW (nameW 7) b (o0 :: o1 :: o2 :: o3 :: o4 :: o5 :: o6 :: some v :: ρ) H Q = b (o0 :: o1 :: o2 :: o3 :: o4 :: o5 :: o6 :: some v :: ρ) H (kS2 v Q) := propext Iff.rfl
theorem tn7 {o0 o1 o2 o3 o4 o5 o6 : Option V} : cmpTW op (nameW 7) b (o0 :: o1 :: o2 :: o3 :: o4 :: o5 :: o6 :: some v :: ρ) H T = b (o0 :: o1 :: o2 :: o3 :: o4 :: o5 :: o6 :: some v :: ρ) H (kC2 op v T) := propext Iff.rfl
theorem cn8 {o0 o1 o2 o3 o4 o5 o6 o7 : Option V} : consW (nameW 8) s (o0 :: o1 :: o2 :: o3 :: o4 :: o5 :: o6 :: o7 :: some v :: ρ) H L = s (o0 :: o1 :: o2 :: o3 :: o4 :: o5 :: o6 :: o7 :: some v :: ρ) H (kCo2 v L) := propext Iff.rfl
theorem tn8 {o0 o1 o2 o3 o4 o5 o6 o7 : Option V} : cmpTW op (nameW 8) b (o0 :: o1 :: o2 :: o3 :: o4 :: o5 :: o6 :: o7 :: some v :: ρ) H T = b (o0 :: o1 :: o2 :: o3 :: o4 :: o5 :: o6 :: o7 :: some v :: ρ) H (kC2 op v T) := propext Iff.rfl
theorem cn9 {o0 o1 o2 o3 o4 o5 o6 o7 o8 : Option V} : consW (nameW 9) s (o0 :: o1 :: o2 :: o3 :: o4 :: o5 :: o6 :: o7 :: o8 :: some v :: ρ) H L = s (o0 :: o1 :: o2 :: o3 :: o4 :: o5 :: o6 :: o7 :: o8 :: some v :: ρ) H (kCo2 v L) := propext Iff.rfl
theorem tn9 {o0 o1 o2 o3 o4 o5 o6 o7 o8 : Option V} : cmpTW op (nameW 9) b (o0 :: o1 :: o2 :: o3 :: o4 :: o5 :: o6 :: o7 :: o8 :: some v :: ρ) H T = b (o0 :: o1 :: o2 :: o3 :: o4 :: o5 :: o6 :: o7 :: o8 :: some v :: ρ) H (kC2 op v T) := propext Iff.rfl
theorem tn10 {o0 o1 o2 o3 o4 o5 o6 o7 o8 o9 : Option V} : cmpTW op (nameW 10) b (o0 :: o1 :: o2 :: o3 :: o4 :: o5 :: o6 :: o7 :: o8 :: o9 :: some v :: ρ) H T = b (o0 :: o1 :: o2 :: o3 :: o4 :: o5 :: o6 :: o7 :: o8 :: o9 :: some v :: ρ) H (kC2 op v T) := propext Iff.rfl
end
theorem om1 (x : Nat) : -1000000 < (x : Int) := by lia
theorem om5 {x b c : Nat} (h : x ≤ b) (hb : Nat.ble b c = true) : x ≤ c := by have := Nat.le_of_ble_eq_true hb; lia
theorem om7 {x b c : Nat} (h : x ≤ b) (hb : Nat.ble (b + 1) c = true) : x < c := by have := Nat.le_of_ble_eq_true hb; lia
theorem om8 {x y b c : Nat} (h : x ≤ y) (k : y ≤ b) (hb : Nat.ble b c = true) : x ≤ c := by have := Nat.le_of_ble_eq_true hb; lia
theorem om9 {x y b c : Nat} (h : x = y) (k : y ≤ b) (hb : Nat.ble b c = true) : x ≤ c := by have := Nat.le_of_ble_eq_true hb; lia
theorem om10 {x y b c : Nat} (h : x < y) (k : y ≤ b) (hb : Nat.ble b c = true) : x < c := by have := Nat.le_of_ble_eq_true hb; lia
theorem om12 {x b c : Nat} (h : x = b) (hb : Nat.ble b c = true) : x ≤ c := by have := Nat.le_of_ble_eq_true hb; lia
theorem om13 {n a b : Nat} (h : Nat.beq a b = false) : n + a ≠ n + b := fun e => Nat.ne_of_beq_eq_false h (Nat.add_left_cancel e)
theorem om14 {n a : Nat} (h : Nat.beq a 0 = false) : n + a ≠ n := om13 (b := 0) h
theorem om15 {n a : Nat} (h : Nat.beq a 0 = false) : n ≠ n + a := fun e => om14 h e.symm
theorem om16 {x a k : Nat} (h : a ≤ x) (hk : Nat.ble (k + 1) a = true) : x ≠ k := by have := Nat.le_of_ble_eq_true hk; lia
theorem om17 {x a j k : Nat} (h : a ≤ x) (hk : Nat.ble (k + 1) a = true) : x + j ≠ k := by have := Nat.le_of_ble_eq_true hk; lia
theorem om18 {x a b r : Nat} (h : x + a ≤ r) (hk : Nat.ble (b + 1) a = true) : x + b ≠ r := by have := Nat.le_of_ble_eq_true hk; lia
theorem om19 {x a r : Nat} (h : x + a ≤ r) (hk : Nat.ble 1 a = true) : x ≠ r := by have := Nat.le_of_ble_eq_true hk; lia
theorem om20 {x a r : Nat} (h : x + a ≤ r) : x ≤ r := by lia
theorem om22 {x y b c : Nat} (h : x < y) (k : y ≤ b) (hb : Nat.ble b (c + 1) = true) : x ≤ c := by have := Nat.le_of_ble_eq_true hb; lia
theorem om26 {x y z b c : Nat} (h : x ≤ y) (k : y ≤ z) (l : z ≤ b) (hb : Nat.ble b c = true) : x ≤ c := by have := Nat.le_of_ble_eq_true hb; lia
theorem om31 {x y z b c : Nat} (h : x ≤ y) (k : y < z) (l : z ≤ b) (hb : Nat.ble b (c + 1) = true) : x ≤ c := by have := Nat.le_of_ble_eq_true hb; lia
theorem om32 {x y : Nat} (h : x < y + 1) (k : ¬x = y) : x < y := by lia
theorem om33 {x a : Nat} (hb : Nat.ble 1 a = true) : x < x + a := by have := Nat.le_of_ble_eq_true hb; lia
theorem om34 {x a b c d : Nat} (h : x = a ∨ x = b ∨ x = c) (hb : (Nat.beq a d || Nat.beq b d || Nat.beq c d) = false) : x ≠ d := by
 intro e; subst e
 rcases h with rfl | rfl | rfl <;> simp at hb
theorem om35 {x a b : Nat} (hb : Nat.ble (a + 1) b = true) : x + a < x + b := by have := Nat.le_of_ble_eq_true hb; lia
theorem om37 {x y z b c : Nat} (h : x < y) (k : y ≤ z) (l : z ≤ b) (hb : Nat.ble b c = true) : x < c := by have := Nat.le_of_ble_eq_true hb; lia
theorem om38 {x b : Nat} {c : Int} (h : x ≤ b) (hb : decide ((b : Int) < c) = true) : (x : Int) < c := by have := of_decide_eq_true hb; lia
theorem om39 {x b : Nat} {c : Int} (h : x ≤ b) (hb : decide ((b : Int) ≤ c) = true) : (x : Int) ≤ c := by have := of_decide_eq_true hb; lia
theorem om40 {x y b : Nat} {c : Int} (h : x < y) (k : y ≤ b) (hb : decide ((b : Int) ≤ c + 1) = true) : (x : Int) ≤ c := by have := of_decide_eq_true hb; lia
theorem om42 {x y b : Nat} {c : Int} (h : x ≤ y) (k : y ≤ b) (hb : decide ((b : Int) < c) = true) : (x : Int) < c := by have := of_decide_eq_true hb; lia
theorem om43 {x a : Nat} {c : Int} (h : x = a) (hb : decide ((a : Int) = c) = true) : (x : Int) = c := by have := of_decide_eq_true hb; lia
theorem om44 {x a b : Nat} (h : a ≤ x) (hb : Nat.ble (b + 1) a = true) : b < x := by have := Nat.le_of_ble_eq_true hb; lia
theorem om46 {x a b r : Nat} (h : x + a ≤ r) (hb : Nat.ble (b + 1) a = true) : x + b < r := by have := Nat.le_of_ble_eq_true hb; lia
theorem om47 {x a b r : Nat} (h : x + a < r) (hb : Nat.ble b a = true) : x + b < r := by have := Nat.le_of_ble_eq_true hb; lia
theorem om48 {x a : Nat} {c : Int} (h : ¬x = a) (hb : decide ((a : Int) = c) = true) : ¬(x : Int) = c := by have := of_decide_eq_true hb; lia
theorem oq0 {x0 : Int} (h0 : (0 : Int) < x0) : x0 ≠ (0 : Int) := by first | lia | lia
theorem oq1 {x0 : Nat} {x1 : Nat} (h0 : (↑x0 : Int) < (↑x1 : Int)) : x0 < x1 := by first | lia | lia
theorem oq2 {x0 : Nat}  : (0 : Int) ≤ (↑x0 : Int) + (1 : Int) := by first | lia | lia
theorem oq3 {x0 : Nat}  : -(↑x0 : Int) < (1 : Int) := by first | lia | lia
theorem oq4 {x0 : Nat} {x1 : Nat} {x2 : Nat} (h0 : x1 = x0 + (x2 + (1 : Nat))) : x0 < x1 := by first | lia | lia
theorem oq5 {x0 : Nat} (h0 : x0 < (1000000 : Nat)) : (↑x0 : Int) < (1000000 : Int) := by first | lia | lia
theorem oq6 {x0 : Nat} (h0 : x0 ≤ (3 : Nat)) : x0 = (0 : Nat) ∨ x0 = (1 : Nat) ∨ x0 = (2 : Nat) ∨ x0 = (3 : Nat) := by first | lia | lia
theorem oq7 {x0 : Nat} {x1 : Nat} (h0 : ¬x0 = x1) : x0 < x1 + (1 : Nat) ↔ x0 < x1 := by first | lia | lia
theorem oq8 {x0 : Nat} {x1 : Nat} (h0 : x1 < x0) : ¬x0 < x1 + (1 : Nat) := by first | lia | lia
theorem oq9 {x0 : Int} {x1 : Int} {x2 : Int} (h0 : x0 = x2) (h1 : ¬x1 = x2) : ¬x0 = x1 := by first | lia | lia
theorem oq10 {x0 : Int} (h0 : (-1 : Int) = x0) (h1 : (0 : Int) ≤ x0) : False := by first | lia | lia
theorem oq11 {x0 : Nat} {x1 : Int} (h0 : ¬x1 < (↑(x0 + (2 : Nat)) : Int)) : (↑(x0 + (2 : Nat)) : Int) ≤ x1 := by first | lia | lia
theorem oq12 {x0 : Int} (h0 : (0 : Int) ≤ x0) (h1 : ¬x0 = (0 : Int)) (h2 : ¬x0 = (1 : Int)) : (2 : Int) ≤ x0 := by first | lia | lia
theorem oq13 {x0 : Nat} {x1 : Nat} (h0 : x0 < x1) (h1 : x0 = x1) : False := by first | lia | lia
theorem oq14 {x0 : Int} {x1 : Int} (h0 : (2 : Int) ≤ x0) (h1 : x0 = x1) (h2 : x1 = (0 : Int) ∨ x1 = (1 : Int)) : False := by first | lia | lia
theorem oq15 {x0 : Nat} {x1 : Nat} {x2 : Nat} (h0 : x0 ≤ x2 + (1 : Nat)) (h1 : x2 ≤ x1) : x0 ≤ x1 + (1 : Nat) := by first | lia | lia
theorem oq16 {x0 : Nat} {x1 : Nat} {x2 : Nat} (h0 : x0 < x2) (h1 : x2 = x1) : x0 < x1 := by first | lia | lia
theorem oq17 {x0 : Nat}  : x0 ≤ x0 := by first | lia | lia
theorem oq18 {x0 : Nat} {x1 : Nat} (h0 : x0 + (2 : Nat) < x1) : x0 < x1 := by first | lia | lia
theorem oq19 {x0 : Nat} {x1 : Nat} (h0 : x0 + (2 : Nat) < x1) : x0 + (3 : Nat) ≤ x1 := by first | lia | lia
theorem oq20 {x0 : Int} {x1 : Int} {x2 : Nat} (h0 : x2 < x2) : x0 = x1 := by first | lia | lia
theorem oq21 {x0 : Nat} {x1 : Nat} (h0 : x0 ≤ (4 : Nat) * x1) : x0 ≤ (4 : Nat) * (x1 + (1 : Nat)) := by first | lia | lia
theorem oq22 {x0 : Nat} {x1 : Nat} (h0 : x0 ≤ (4 : Nat) * x1) : x0 ≤ (4 : Nat) * x1 + (0 : Nat) := by first | lia | lia
theorem oq23 {x0 : Nat} {x1 : Nat} {x2 : Nat} (h0 : x0 ≤ (4 : Nat) * x1 + x2) : x0 ≤ (4 : Nat) * x1 + (x2 + (1 : Nat)) := by first | lia | lia
theorem oq24 {x0 : Nat} {x1 : Nat} {x2 : Nat} (h0 : x0 ≤ (4 : Nat) * x1 + x2) (h1 : x2 ≤ (4 : Nat)) : x0 ≤ (4 : Nat) * (x1 + (1 : Nat)) := by first | lia | lia
theorem oq25 {x0 : Nat} {x1 : Nat} (h0 : ¬x0 = x1) : ¬(↑x0 : Int) = (↑x1 : Int) := by first | lia | lia
theorem oq26 {x0 : Nat} {x1 : Nat} {x2 : Nat} (h0 : x1 + x2 + x0 ≤ (100 : Nat)) : x0 ≤ (100 : Nat) := by first | lia | lia
theorem oq27 {x0 : Nat} {x1 : Nat} {x2 : Nat} (h0 : x0 = min x1 x2) (h1 : x2 ≤ (900 : Nat)) : x0 ≤ (1000 : Nat) := by first | lia | lia
theorem oq28 {x0 : Nat} {x1 : Nat} {x2 : Nat} (h0 : x0 = min x1 x2) (h1 : x2 ≤ (900 : Nat)) : x0 ≤ (900 : Nat) := by first | lia | lia
theorem oq29 {x0 : Nat} {x1 : Nat} (h0 : x0 < x1 + (1 : Nat)) (h1 : x0 ≥ x1) : x0 = x1 := by first | lia | lia
theorem oq30 {x0 : Nat} {x1 : Nat} {x2 : Nat} (h0 : x0 + (2 : Nat) < x2) (h1 : x1 = x2) : x0 + (2 : Nat) < x1 := by first | lia | lia
theorem oq31 {x0 : Nat}  : (1 : Int) + (↑x0 : Int) = (↑(x0 + (1 : Nat)) : Int) := by first | lia | lia
theorem oq32 {x0 : Nat}  : (1 : Nat) ≤ x0 + (1 : Nat) := by first | lia | lia
theorem oq33 {x0 : Nat} (h0 : (↑x0 : Int) < (3 : Int)) : x0 + (1 : Nat) ≤ (3 : Nat) := by first | lia | lia
theorem oq34 {x0 : Nat} {x1 : Nat} {x2 : Nat} (h0 : x0 - x2 = (0 : Nat)) (h1 : x0 ≥ x2) (h2 : x2 = x1) : x0 = x1 := by first | lia | lia
theorem oq35 {x0 : Int} (h0 : (2 : Int) ≤ x0) (h1 : x0 < (↑((2 : Nat) + (0 : Nat)) : Int)) : False := by first | lia | lia
theorem oq36 {x0 : Nat} (h0 : (20 : Nat) ≤ x0) : (4 : Nat) ≠ x0 := by first | lia | lia
theorem oq37 {x0 : Nat} {x1 : Nat} {x2 : Nat} (h0 : x0 ≤ (100 : Nat) ∧ x1 ≤ (5 : Nat) ∧ (2 : Nat) ≤ x1 ∧ x2 ≤ (5 : Nat)) : x0 ≤ (900 : Nat) := by first | lia | lia
theorem oq38 {x0 : Int} {x1 : Nat} (h0 : x0 < (↑(x1 + (2 : Nat)) : Int)) : x0 < (↑((2 : Nat) + x1) : Int) := by first | lia | lia
theorem oq39 {x0 : Int} {x1 : Nat} {x2 : Int} (h0 : (2 : Int) ≤ x0 ∧ x0 < (↑((2 : Nat) + x1) : Int) ∧ (x2 = (0 : Int) ∨ x2 = (1 : Int))) : x0 < (↑(x1 + (2 : Nat)) : Int) := by first | lia | lia
theorem oq40 {x0 : Nat} {x1 : Nat} {x2 : Nat} {x3 : Nat} (h0 : x0 ≤ (2 : Nat) * x1) (h1 : x2 ≤ (100 : Nat) ∧ x1 ≤ (5 : Nat) ∧ (2 : Nat) ≤ x1 ∧ x3 ≤ (5 : Nat)) : x0 ≤ (100 : Nat) := by first | lia | lia
theorem oq41 {x0 : Nat} {x1 : Nat} {x2 : Nat} {x3 : Nat} {x4 : Nat} (h0 : x0 < x1) (h1 : x1 ≤ x2) (h2 : x2 ≤ (100 : Nat) ∧ x3 ≤ (5 : Nat) ∧ (2 : Nat) ≤ x3 ∧ x4 ≤ (5 : Nat)) : x0 < (1000000 : Nat) := by first | lia | lia
theorem oq42 {x0 : Nat} {x1 : Nat} (h0 : x0 ≤ (3 : Nat)) (h1 : x1 ≤ (1 : Nat)) : x0 + (1 : Nat) + x1 ≤ (5 : Nat) := by first | lia | lia
theorem oq43 {x0 : Nat} {x1 : Nat} {x2 : Nat}  : (1 : Nat) ≤ x0 + (1 : Nat) + x1 + (2 : Nat) + x2 := by first | lia | lia
theorem oq44 {x0 : Nat} {x1 : Nat} {x2 : Nat} (h0 : x0 ≤ (3 : Nat)) (h1 : x1 ≤ (1 : Nat)) (h2 : x2 ≤ (5 : Nat)) : x0 + (1 : Nat) + x1 + (2 : Nat) + x2 ≤ (900 : Nat) := by first | lia | lia
theorem oq45 {x0 : Nat} {x1 : Nat} {x2 : Nat} {x3 : Nat} (h0 : x0 = x2) (h1 : x1 = x3) (h2 : x2 ≤ (5 : Nat)) (h3 : x3 ≤ (1 : Nat)) : x0 + x1 ≤ (900 : Nat) := by first | lia | lia
inductive Ex2 {A : Type} {B : Type} (p : A → B → Prop) : Prop
 | mk (a : A) (b : B) (h : p a b) : Ex2 p
inductive Ex3 {A : Type} {B : Type} {C : Type} (p : A → B → C → Prop) : Prop
 | mk (a : A) (b : B) (c : C) (h : p a b c) : Ex3 p
inductive Ex4 {A : Type} {B : Type} {C : Type} {D : Type} (p : A → B → C → D → Prop) : Prop
 | mk (a : A) (b : B) (c : C) (d : D) (h : p a b c d) : Ex4 p
inductive Ex6 {A : Type} {B : Type} {C : Type} {D : Type} {E : Type} {F : Type} (p : A → B → C → D → E → F → Prop) : Prop
 | mk (a : A) (b : B) (c : C) (d : D) (e : E) (f : F) (h : p a b c d e f) : Ex6 p
inductive An3 (a b c : Prop) : Prop
 | mk (ha : a) (hb : b) (hc : c) : An3 a b c
inductive An4 (a b c d : Prop) : Prop
 | mk (ha : a) (hb : b) (hc : c) (hd : d) : An4 a b c d
inductive An5 (a b c d e : Prop) : Prop
 | mk (ha : a) (hb : b) (hc : c) (hd : d) (he : e) : An5 a b c d e
inductive An6 (a b c d e f : Prop) : Prop
 | mk (ha : a) (hb : b) (hc : c) (hd : d) (he : e) (hf : f) : An6 a b c d e f
inductive An7 (a b c d e f g : Prop) : Prop
 | mk (ha : a) (hb : b) (hc : c) (hd : d) (he : e) (hf : f) (hg : g) : An7 a b c d e f g
inductive An9 (a b c d e f g h i : Prop) : Prop
 | mk (ha : a) (hb : b) (hc : c) (hd : d) (he : e) (hf : f) (hg : g) (hh : h) (hi : i) : An9 a b c d e f g h i
inductive An10 (a b c d e f g h i j : Prop) : Prop
 | mk (ha : a) (hb : b) (hc : c) (hd : d) (he : e) (hf : f) (hg : g) (hh : h) (hi : i) (hj : j) : An10 a b c d e f g h i j
inductive An12 (a b c d e f g h i j k l : Prop) : Prop
 | mk (ha : a) (hb : b) (hc : c) (hd : d) (he : e) (hf : f) (hg : g) (hh : h) (hi : i) (hj : j) (hk : k) (hl : l) : An12 a b c d e f g h i j k l
end Mine
end
section
open PySem
set_option maxRecDepth 100000
namespace Mine
noncomputable abbrev Form := String × List Int
noncomputable def formV (f : Form) : V := .tup [.str f.1, .tup (f.2.map V.int)]
noncomputable def andForm (a b : Int) (o : Bool) : Form :=
 if a = 0 ∨ b = 0 ∨ o = true then ("buf", [0]) else if a = 1 ∨ a = b then ("buf", [b]) else if b = 1 then ("buf", [a]) else ("and", [a, b])
noncomputable def orForm (a b : Int) (o : Bool) : Form :=
 if a = 1 ∨ b = 1 ∨ o = true then ("buf", [1]) else if a = 0 ∨ a = b then ("buf", [b]) else if b = 0 then ("buf", [a]) else ("or", [a, b])
noncomputable def xorForm (a b : Int) (o : Bool) : Form :=
 if a = b then ("buf", [0]) else if o = true then ("buf", [1]) else if a = 0 then ("buf", [b]) else if b = 0 then ("buf", [a]) else if a = 1 then ("not", [b]) else if b = 1 then ("not", [a]) else ("xor", [a, b])
noncomputable def turnedForm (f : Form) : Form :=
 if f.1 = "buf" then (if f.2.headD 0 = 0 ∨ f.2.headD 0 = 1 then ("buf", [1 - f.2.headD 0]) else ("not", f.2))
 else if f.1 = "not" then ("buf", f.2) else if f.1 = "and" then ("nand", f.2) else if f.1 = "or" then ("nor", f.2) else ("xnor", f.2)
noncomputable def gateForm (k : String) (a b : Int) (o : Bool) : Form :=
 if k = "and" then andForm a b o else if k = "nand" then turnedForm (andForm a b o) else if k = "or" then orForm a b o else if k = "nor" then turnedForm (orForm a b o)
 else if k = "xor" then xorForm a b o else turnedForm (xorForm a b o)
noncomputable def selectForm (s a b : Int) : Form :=
 if s = 0 ∨ a = b then ("buf", [a]) else if s = 1 then ("buf", [b]) else if a = 0 ∧ b = 1 then ("buf", [s]) else if a = 1 ∧ b = 0 then ("not", [s]) else ("mux", [s, a, b])
section
variable {H : List AO} {Q : V → List AO → Prop}
theorem c_is_state_kind {k : String} (q : Q (.bool (k == "flop" || k == "latch")) H) : f_is_state_kind [.str k] H Q := by
 unfold f_is_state_kind bw_is_state_kind
 simp only [df1, ↓vf9, Nat.reduceSub, rp0, zk40, zk37, nm0, zk38, constW_p, zk39, cmp_eqs, zk41, tru_bool, zk42, zk11, zk2]
 by_cases h : (k == "flop") = true
 ·simpa [h] using q
 ·simpa [h] using q
variable {x y : Form} {A B c1 c2 c3 : Prop} [Decidable c1] [Decidable c2] [Decidable c3]
theorem im [i : Decidable c1] (q : Q (formV (@ite _ c1 i x y)) H) (ha : Q (formV x) H → A) (hb : Q (formV y) H → B) : if c1 then A else B := by
 by_cases h : c1
 ·rw [if_pos h] at q ⊢; exact ha q
 ·rw [if_neg h] at q ⊢; exact hb q
theorem im2 [i : Decidable (c1 ∨ c2)] (q : Q (formV (@ite _ (c1 ∨ c2) i x y)) H) (ha : Q (formV x) H → A) (hb : Q (formV y) H → B) : if c1 then A else if c2 then A else B := by
 by_cases h : c1
 ·rw [if_pos (.inl h)] at q; rw [if_pos h]; exact ha q
 ·rw [if_neg h]
  by_cases h2 : c2
  ·rw [if_pos (.inr h2)] at q; rw [if_pos h2]; exact ha q
  ·rw [if_neg fun z => z.elim h h2] at q; rw [if_neg h2]; exact hb q
theorem im3 [i : Decidable (c1 ∨ c2 ∨ c3)] (q : Q (formV (@ite _ (c1 ∨ c2 ∨ c3) i x y)) H) (ha : Q (formV x) H → A) (hb : Q (formV y) H → B) : if c1 then A else if c2 then A else if c3 then A else B := by
 by_cases h : c1
 ·rw [if_pos (.inl h)] at q; rw [if_pos h]; exact ha q
 ·rw [if_neg h]
  have q2 : Q (formV (if c2 ∨ c3 then x else y)) H := by
   by_cases h2 : c2 ∨ c3
   ·rw [if_pos (.inr h2)] at q; rw [if_pos h2]; exact q
   ·rw [if_neg fun z => z.elim h h2] at q; rw [if_neg h2]; exact q
  exact im2 q2 ha hb
theorem ia2 [i : Decidable (c1 ∧ c2)] (q : Q (formV (@ite _ (c1 ∧ c2) i x y)) H) (ha : Q (formV x) H → A) (hb : Q (formV y) H → B) : if c1 then (if c2 then A else B) else B := by
 by_cases h : c1
 ·rw [if_pos h]
  by_cases h2 : c2
  ·rw [if_pos ⟨h, h2⟩] at q; rw [if_pos h2]; exact ha q
  ·rw [if_neg fun z => h2 z.2] at q; rw [if_neg h2]; exact hb q
 ·rw [if_neg fun z => h z.1] at q; rw [if_neg h]; exact hb q
theorem c_and_form {a b : Int} {o : Bool} (q : Q (formV (andForm a b o)) H) : f_and_form [.int a, .int b, .bool o] H Q := by
 unfold f_and_form bw_and_form
 simp only [df3, ↓vf8, Nat.reduceSub, rp0, zk21, ↓tn0, constW_p, ↓vf15, zk22, beq_iff_eq, zk9, ↓reduceIte, ↓vf9, zk48, ↓vf22, zk52, nilW_p, zk54, zk49, List.length_cons, List.length_nil, Nat.zero_add, Nat.reduceLeDiff, ↓vf5, Nat.reduceAdd, zk11, zk6, zk2, true_and, ↓tn1, zk36, nm2, ↓vf14, trueTW_p, Bool.false_eq_true, nextBW_p, zk5, ↓cn1, nm1, ↓cn0, ↓vf6]
 exact im3 q id fun q => im2 q id fun q => im q id id
theorem c_or_form {a b : Int} {o : Bool} (q : Q (formV (orForm a b o)) H) : f_or_form [.int a, .int b, .bool o] H Q := by
 unfold f_or_form bw_or_form
 simp only [df3, ↓vf8, Nat.reduceSub, rp0, zk21, ↓tn0, constW_p, ↓vf15, zk22, beq_iff_eq, zk9, ↓reduceIte, ↓vf9, zk48, ↓vf22, zk52, nilW_p, zk54, zk49, List.length_cons, List.length_nil, Nat.zero_add, Nat.reduceLeDiff, ↓vf5, Nat.reduceAdd, zk11, zk6, zk2, true_and, ↓tn1, zk36, nm2, ↓vf14, trueTW_p, Bool.false_eq_true, nextBW_p, zk5, ↓cn1, nm1, ↓cn0, ↓vf6]
 exact im3 q id fun q => im2 q id fun q => im q id id
theorem c_xor_form {a b : Int} {o : Bool} (q : Q (formV (xorForm a b o)) H) : f_xor_form [.int a, .int b, .bool o] H Q := by
 unfold f_xor_form bw_xor_form
 simp only [df3, ↓vf8, ↓tn0, Nat.reduceSub, rp0, nm1, ↓vf15, zk9, beq_iff_eq, ↓vf9, zk48, ↓vf22, zk52, nilW_p, zk54, zk49, List.length_cons, List.length_nil, Nat.zero_add, Nat.reduceLeDiff, ↓vf5, Nat.reduceAdd, zk11, zk6, zk2, true_and, nextBW_p, zk5, zk36, nm2, ↓vf14, constW_p, ↓cn1, ↓tn1, ↓cn0, ↓vf6]
 exact im q id fun q => im q id fun q => im q id fun q => im q id fun q => im q id fun q => im q id id
theorem c_select_form {s a b : Int} (q : Q (formV (selectForm s a b)) H) : f_select_form [.int s, .int a, .int b] H Q := by
 unfold f_select_form bw_select_form
 simp only [df3, ↓vf8, Nat.reduceSub, rp0, zk21, ↓tn0, constW_p, ↓vf15, zk22, beq_iff_eq, zk9, ↓reduceIte, ↓vf9, zk48, ↓vf22, zk52, ↓cn1, nilW_p, zk54, zk49, List.length_cons, List.length_nil, Nat.zero_add, Nat.reduceLeDiff, ↓vf5, Nat.reduceAdd, zk11, zk6, zk2, true_and, ↓tn1, nm2, trueTW_p, Bool.false_eq_true, nextBW_p, zk5, ↓cn2, zk23, zk24, ↓tn2, ↓cn0, ↓vf6]
 exact im2 q id fun q => im q id fun q => ia2 q id fun q => ia2 q id id
theorem turned_eq {k : String} {i : Int} {r : List Int} : turnedForm (k, i :: r) = if k = "buf" then (if i = 0 ∨ i = 1 then ("buf", [1 - i]) else ("not", i :: r))
 else if k = "not" then ("buf", i :: r) else if k = "and" then ("nand", i :: r) else if k = "or" then ("nor", i :: r) else ("xnor", i :: r) := rfl
theorem c_turned_form {k : String} {i : Int} {r : List Int} (q : Q (formV (turnedForm (k, i :: r))) H) : f_turned_form [formV (k, i :: r)] H Q := by
 unfold f_turned_form bw_turned_form formV
 simp only [List.map_cons, df1, ↓vf7, Nat.reduceSub, rp2, nm0, ktup, tupA_p, List.length_cons, List.length_nil, Nat.zero_add, Nat.reduceAdd, zk69, na1, zk70, na2, nilAs_p, ↓vf12, ↓vf8, ↓tn1, constW_p, ↓vf21, zk9, beq_iff_eq, zk21, zk27, ↓sn2, zk59, get_t0, ↓vf1, ↓vf15, zk22, ↓reduceIte, ↓vf9, zk48, ↓vf22, zk52, zk62, zk63, zk64, bin_sub, ↓vf5, zk49, Nat.reduceLeDiff, zk54, zk11, zk6, zk2, true_and, trueTW_p, Bool.false_eq_true, nextBW_p, zk5, ↓cn2, nilW_p, ↓vf6]
 rw [turned_eq] at q
 exact im q (fun q => im2 q id id) fun q => im q id fun q => im q id fun q => im q id id
theorem p_ite {α : Type} {P : α → Prop} {c : Prop} [Decidable c] {a b : α} (ha : P a) (hb : P b) : P (if c then a else b) := by
 by_cases h : c
 ·rw [if_pos h]; exact ha
 ·rw [if_neg h]; exact hb
noncomputable abbrev NEf (f : Form) : Prop := ∃ k i r, f = (k, i :: r)
theorem andForm_ne {a b : Int} {o : Bool} : NEf (andForm a b o) := p_ite (P := NEf) ⟨_, _, _, rfl⟩ (p_ite (P := NEf) ⟨_, _, _, rfl⟩ (p_ite (P := NEf) ⟨_, _, _, rfl⟩ ⟨_, _, _, rfl⟩))
theorem orForm_ne {a b : Int} {o : Bool} : NEf (orForm a b o) := p_ite (P := NEf) ⟨_, _, _, rfl⟩ (p_ite (P := NEf) ⟨_, _, _, rfl⟩ (p_ite (P := NEf) ⟨_, _, _, rfl⟩ ⟨_, _, _, rfl⟩))
theorem xorForm_ne {a b : Int} {o : Bool} : NEf (xorForm a b o) := p_ite (P := NEf) ⟨_, _, _, rfl⟩ (p_ite (P := NEf) ⟨_, _, _, rfl⟩ (p_ite (P := NEf) ⟨_, _, _, rfl⟩ (p_ite (P := NEf) ⟨_, _, _, rfl⟩ (p_ite (P := NEf) ⟨_, _, _, rfl⟩ (p_ite (P := NEf) ⟨_, _, _, rfl⟩ ⟨_, _, _, rfl⟩)))))
theorem turned_ne {f : Form} (h : NEf f) : NEf (turnedForm f) := by
 obtain ⟨k, i, r, rfl⟩ := h
 exact p_ite (P := NEf) (p_ite (P := NEf) ⟨_, _, _, rfl⟩ ⟨_, _, _, rfl⟩) (p_ite (P := NEf) ⟨_, _, _, rfl⟩ (p_ite (P := NEf) ⟨_, _, _, rfl⟩ (p_ite (P := NEf) ⟨_, _, _, rfl⟩ ⟨_, _, _, rfl⟩)))
theorem gate_ne {k : String} {a b : Int} {o : Bool} : NEf (gateForm k a b o) :=
 p_ite (P := NEf) andForm_ne (p_ite (P := NEf) (turned_ne andForm_ne) (p_ite (P := NEf) orForm_ne (p_ite (P := NEf) (turned_ne orForm_ne) (p_ite (P := NEf) xorForm_ne (turned_ne xorForm_ne)))))
theorem c_turned {f : Form} (h : ∃ k i r, f = (k, i :: r)) (q : Q (formV (turnedForm f)) H) : f_turned_form [formV f] H Q := by
 obtain ⟨k, i, r, rfl⟩ := h
 exact c_turned_form q
theorem c_gate_form {k : String} {a b : Int} {o : Bool} (q : Q (formV (gateForm k a b o)) H) : f_gate_form [.str k, .int a, .int b, .bool o] H Q := by
 unfold f_gate_form bw_gate_form
 simp only [df4, ↓vf8, ↓tn0, Nat.reduceSub, rp4, constW_p, ↓vf21, zk9, beq_iff_eq, ↓vf9, zk55, ↓cn1, ↓cn2, ↓cn3, nilW_p, ↓vf6, zk54, zk56, nextBW_p, zk5, zk52]
 exact im q c_and_form fun q => im q (fun q => c_and_form (c_turned andForm_ne q)) fun q => im q c_or_form fun q => im q (fun q => c_or_form (c_turned orForm_ne q)) fun q => im q c_xor_form fun q => c_xor_form (c_turned xorForm_ne q)
end
end Mine
end
section
open PySem
set_option maxRecDepth 100000
namespace Mine
theorem nat_and (a b : Nat) : Builtin.bitAnd (a : Int) (b : Int) = ((a &&& b : Nat) : Int) := by
 unfold Builtin.bitAnd
 have h1 : decide ((0 : Int) ≤ (a : Int)) = true := by simp
 have h2 : decide ((0 : Int) ≤ (b : Int)) = true := by simp
 rw [h1, h2]; rfl
theorem nat_or (a b : Nat) : Builtin.bitOr (a : Int) (b : Int) = ((a ||| b : Nat) : Int) := by
 unfold Builtin.bitOr Builtin.bitAnd Builtin.bitNot
 have h1 : decide ((0 : Int) ≤ -(a : Int) - 1) = false := by simp; exact oq3
 have h2 : decide ((0 : Int) ≤ -(b : Int) - 1) = false := by simp; exact oq3
 rw [h1, h2]
 have e1 : (-(-(a : Int) - 1) - 1).toNat = a := by lia
 have e2 : (-(-(b : Int) - 1) - 1).toNat = b := by lia
 simp only [e1, e2]
 lia
theorem or_xor_and (a b : Nat) : a ||| b = (a ^^^ b) + (a &&& b) := by
 induction a using Nat.strongRecOn generalizing b with
 | _ a ih =>
  by_cases h : a = 0
  ·subst h; simp
  have := ih (a / 2) (by lia) (b / 2)
  have e1 : (a ||| b) / 2 = a / 2 ||| b / 2 := Nat.or_div_two
  have e2 : (a ^^^ b) / 2 = a / 2 ^^^ b / 2 := Nat.xor_div_two
  have e3 : (a &&& b) / 2 = a / 2 &&& b / 2 := Nat.and_div_two
  have m1 : (a ||| b) % 2 = (a ^^^ b) % 2 + (a &&& b) % 2 := by
   have p1 := Nat.or_mod_two_pow (a := a) (b := b) (n := 1)
   have p2 := Nat.xor_mod_two_pow (a := a) (b := b) (n := 1)
   have p3 := Nat.and_mod_two_pow (a := a) (b := b) (n := 1)
   simp only [Nat.pow_one] at p1 p2 p3
   rw [p1, p2, p3]
   rcases Nat.mod_two_eq_zero_or_one a with x | x <;> rcases Nat.mod_two_eq_zero_or_one b with y | y <;> rw [x, y] <;> decide
  lia
theorem nat_xor (a b : Nat) : Builtin.bitXor (a : Int) (b : Int) = ((a ^^^ b : Nat) : Int) := by
 unfold Builtin.bitXor
 rw [nat_or, nat_and, or_xor_and]
 lia
theorem pow_cast (k : Nat) : (2 : Int) ^ k = ((2 ^ k : Nat) : Int) := by push_cast; rfl
theorem nat_shr (a k : Nat) : ((a : Int).fdiv ((2 : Int) ^ ((k : Int).toNat))) = ((a >>> k : Nat) : Int) := by
 rw [Int.toNat_natCast, Nat.shiftRight_eq_div_pow, pow_cast, Int.fdiv_eq_ediv_of_nonneg _ (Int.natCast_nonneg _), Int.natCast_ediv]
theorem nat_shl (a k : Nat) : ((a : Int) * ((2 : Int) ^ ((k : Int).toNat))) = ((a <<< k : Nat) : Int) := by
 rw [Int.toNat_natCast, Nat.shiftLeft_eq]
 push_cast; rfl
theorem loop_inv {ok : List AO → Prop} {step : V → BW} {B : Fl → Rho → List AO → Prop} (I : List V → Rho → List AO → Prop) :
  ∀ (todo done : List V) {ρ : Rho} {H : List AO}, I done ρ H →
  (∀ d v r ρ H (B' : Fl → Rho → List AO → Prop), done ++ todo = d ++ v :: r → I d ρ H → (∀ ρ' H', I (d ++ [v]) ρ' H' → B' .next ρ' H' ∧ B' .cont ρ' H') → ok H ∧ step v ρ H B') →
  (∀ ρ H, I (done ++ todo) ρ H → ok H ∧ B .next ρ H) → loopW ok step todo ρ H B
 | [], done, ρ, H, h, _, he => by
  have := he ρ H (by rw [List.append_nil]; exact h)
  exact this
 | v :: todo, done, ρ, H, h, hs, he => by
  unfold loopW
  have hh := hs done v todo ρ H (fun f ρ' H' => match f with
   | .next | .cont => loopW ok step todo ρ' H' B
   | .brk => B .next ρ' H'
   | .ret u => B (.ret u) ρ' H') rfl h (fun ρ' H' h' => by
    have := loop_inv I todo (done ++ [v]) (B := B) (step := step) (ok := ok) h' (fun d w r ρ H B' e => hs d w r ρ H B' (by rw [← e]; simp)) (fun ρ H h => he ρ H (by simpa using h))
    exact ⟨this, this⟩)
  exact hh
theorem range_inv {step : V → BW} {B : Fl → Rho → List AO → Prop} {z : Int} {n : Nat} (hz : z = n) (I : Nat → Rho → List AO → Prop) {ρ : Rho} {H : List AO} (h0 : I 0 ρ H)
  (hs : ∀ i, i < n → ∀ ρ H (B' : Fl → Rho → List AO → Prop), I i ρ H → (∀ ρ' H', I (i + 1) ρ' H' → B' .next ρ' H' ∧ B' .cont ρ' H') → step (.int i) ρ H B')
  (he : ∀ ρ H, I n ρ H → B .next ρ H) : loopW (Src.ok (.range z)) step (Src.items (.range z)) ρ H B := by
 subst hz
 have hit : Src.items (.range (n : Int)) = (List.range n).map fun (i : Nat) => V.int i := by simp [Src.items]
 rw [hit]
 refine loop_inv (fun d ρ H => I d.length ρ H) _ [] h0 (fun d v r ρ H B' e hI hB => ⟨trivial, ?_⟩) (fun ρ H h => ⟨trivial, he ρ H (by simpa using h)⟩)
 rw [List.nil_append] at e
 have hl : d.length < n := by
  have := congrArg List.length e
  simp at this; exact oq4 this
 have hv : v = .int (d.length : Nat) := by
  have h1 : (((List.range n).map fun (i : Nat) => V.int i))[d.length]? = some v := by rw [e]; simp
  rw [List.getElem?_map, List.getElem?_range hl] at h1
  simpa using h1.symm
 subst hv
 exact hs d.length hl ρ H B' hI fun ρ' H' h' => hB ρ' H' (by simpa using h')
theorem comp_inv {ok : List AO → Prop} {tA : V → Rho → List AO → (Rho → List AO → Prop) → Prop} {t : TW} {b : EW} {Q : List V → List AO → Prop} (I : List V → List V → Rho → List AO → Prop) :
  ∀ (todo done acc : List V) {ρ : Rho} {H : List AO}, I done acc ρ H →
  (∀ d v r acc ρ H (K : List V → Rho → List AO → Prop), done ++ todo = d ++ v :: r → I d acc ρ H → (∀ acc' ρ' H', I (d ++ [v]) acc' ρ' H' → K acc' ρ' H') →
   ok H ∧ acc.length ≤ 900 ∧ tA v ρ H fun ρ' H' => t ρ' H' fun c H'' => if c then b ρ' H'' fun u H₃ => K (acc ++ [u]) ρ' H₃ else K acc ρ' H'') →
  (∀ acc ρ H, I (done ++ todo) acc ρ H → ok H ∧ Q acc H) → compLoopW ok tA t b todo ρ H acc Q
 | [], done, acc, ρ, H, h, _, he => by
  have := he acc ρ H (by rw [List.append_nil]; exact h)
  exact this
 | v :: todo, done, acc, ρ, H, h, hs, he => by
  unfold compLoopW
  exact hs done v todo acc ρ H (fun acc' ρ' H' => compLoopW ok tA t b todo ρ' H' acc' Q) rfl h (fun acc' ρ' H' h' =>
   comp_inv I todo (done ++ [v]) acc' h' (fun d w r acc ρ H K e => hs d w r acc ρ H K (by rw [← e]; simp)) (fun acc ρ H h => he acc ρ H (by simpa using h)))
noncomputable def Keep (H H' : List AO) : Prop := ∀ (k : Nat) (o : AO), H[k]? = some o → H'[k]? = some o
theorem Keep.refl (H : List AO) : Keep H H := fun _ _ e => e
theorem Keep.trans {H H' H'' : List AO} (a : Keep H H') (b : Keep H' H'') : Keep H H'' := fun k o e => b k o (a k o e)
theorem Keep.app (H E : List AO) : Keep H (H ++ E) := fun k o e => by rw [List.getElem?_append_left (List.getElem?_eq_some_iff.mp e).1]; exact e
theorem Keep.set {H H' : List AO} (a : Keep H H') {k : Nat} (h : H[k]? = none) (o : AO) : Keep H (H'.set k o) := fun j o' e => by
 rw [List.getElem?_set_ne (by intro q; subst q; rw [h] at e; cases e)]
 exact a j o' e
theorem Keep.len {H H' : List AO} (a : Keep H H') : H.length ≤ H'.length := by
 by_cases h : H.length = 0
 ·lia
 ·have hx : H[H.length - 1]? = some (H[H.length - 1]'(by lia)) := List.getElem?_eq_getElem _
  have := (List.getElem?_eq_some_iff.mp (a _ _ hx)).1
  lia
end Mine
end
section
open PySem
set_option maxRecDepth 100000
namespace Mine
section
variable {H : List AO} {Q : V → List AO → Prop}
theorem get_ref {k i : Nat} {l : List V} {v : V} (h : H[k]? = some (.list l)) (hi : l[i]? = some v) (hl : i < 1000000) : getV (.ref k) (.int (i : Int)) H Q ↔ Q v H := by
 constructor
 ·rintro (⟨d, _, hd, _⟩ | ⟨l', v', hl', _, _, hv, q⟩)
  ·rw [h] at hd; cases hd
  ·rw [h] at hl'; cases hl'
   rw [Int.toNat_natCast, hi] at hv; cases hv; exact q
 ·intro q; exact .inr ⟨l, v, h, by exact Int.natCast_nonneg _, by exact oq5 hl, by rw [Int.toNat_natCast]; exact hi, q⟩
theorem get_tup {i : Nat} {l : List V} {v : V} (hi : l[i]? = some v) (hl : i < 1000000) : getV (.tup l) (.int (i : Int)) H Q ↔ Q v H := by
 constructor
 ·rintro ⟨v', _, _, hv, q⟩
  rw [Int.toNat_natCast, hi] at hv; cases hv; exact q
 ·intro q; exact ⟨v, by exact Int.natCast_nonneg _, by exact oq5 hl, by rw [Int.toNat_natCast]; exact hi, q⟩
theorem get_dict {k : Nat} {i : Int} {d : List (Int × V)} {v : V} (h : H[k]? = some (.dict d)) (hi : dget d i = some v) : getV (.ref k) (.int i) H Q ↔ Q v H := by
 constructor
 ·rintro (⟨d', v', hd, hv, q⟩ | ⟨l', v', hl', _⟩)
  ·rw [h] at hd; cases hd; rw [hi] at hv; cases hv; exact q
  ·rw [h] at hl'; cases hl'
 ·intro q; exact .inl ⟨d, v, h, hi, q⟩
theorem len_ref {k : Nat} {l : List V} (h : H[k]? = some (.list l)) : lenF [.ref k] H Q ↔ (l.length ≤ 1000 ∧ Q (.int l.length) H) := by
 constructor
 ·rintro ⟨l', hl, h1, q⟩
  rw [h] at hl; cases hl; exact ⟨h1, q⟩
 ·rintro ⟨h1, q⟩; exact ⟨l, h, h1, q⟩
noncomputable def rowNum : List Nat → Nat
 | [] => 0
 | b :: r => (if b = 0 then 0 else 1) + 2 * rowNum r
theorem rowNum_snoc (l : List Nat) (b : Nat) : rowNum (l ++ [b]) = rowNum l + (if b = 0 then 0 else 1) * 2 ^ l.length := by
 induction l with
 | nil => simp [rowNum]
 | cons a l ih => simp only [List.cons_append, rowNum, ih, List.length_cons, Nat.pow_succ]; split <;> split <;> lia
theorem rowNum_take {l : List Nat} {i b : Nat} (h : l[i]? = some b) : rowNum (l.take (i + 1)) = rowNum (l.take i) + (if b = 0 then 0 else 1) * 2 ^ i := by
 have hi := (List.getElem?_eq_some_iff.mp h).1
 rw [List.take_add_one, h, Option.toList_some, rowNum_snoc, List.length_take, Nat.min_eq_left (Nat.le_of_lt hi)]
theorem c_row_number {k : Nat} {bs : List Nat} (hk : H[k]? = some (.list (bs.map fun (b : Nat) => V.int (b : Int)))) (hl : bs.length ≤ 60) (q : Q (.int (rowNum bs : Nat)) H) : f_row_number [.ref k] H Q := by
 unfold f_row_number bw_row_number
 simp only [df1, ↓vf7, Nat.reduceSub, rp4, constW_p, ka1, ↓vf13, zk81, zk52, zk55, ↓cn0, nilW_p, zk54, zk56, len_ref hk, ↓vf5, zk82, zk18]
 refine ⟨by simp; exact om5 hl rfl, by simp; exact om1 _, by simp; exact om38 hl rfl, ?_⟩
 refine range_inv (n := bs.length) (by simp) (fun i ρ H' => H' = H ∧ Ex2 fun o3 o4 => ρ = [some (.ref k), some (.int (rowNum (bs.take i) : Nat)), o3, o4, none]) ?_ ?_ ?_
 ·exact ⟨rfl, _, _, rfl⟩
 ·rintro i hi ρ H' B' ⟨rfl, o3, o4, rfl⟩ hB
  have hb : bs[i]? = some bs[i] := List.getElem?_eq_getElem hi
  have hg : (bs.map fun (b : Nat) => V.int (b : Int))[i]? = some (.int (bs[i] : Nat)) := by rw [List.getElem?_map, hb]; rfl
  simp only [zk19, na2, zk20, ↓vf8, zk36, ↓sn0, nm2, zk59, get_ref hk hg (by exact om10 hi hl rfl), zk30, tru_int, zk9, zk4_, augN1, zk62, constW_p, zk63, zk64, bin_shl, zk72, inp_add, kn1, zk5, nextBW_p]
  have ht := rowNum_take hb
  by_cases h0 : bs[i] = 0
  ·rw [if_neg (by simp [h0])]
   exact (hB _ _ ⟨rfl, some (.int i), o4, by rw [ht, if_pos h0]; simp⟩).1
  ·rw [if_pos (by simp; exact h0)]
   exact ⟨by exact Int.natCast_nonneg _, by exact om40 hi hl rfl, by decide, (hB _ _ ⟨rfl, some (.int i), o4, by rw [ht, if_neg h0]; simp⟩).1⟩
 ·rintro ρ H' ⟨rfl, o3, o4, rfl⟩
  simp only [zk5, ↓vf9, nm1, zk11, zk2]
  rw [List.take_of_length_le (Nat.le_refl _)]
  exact q
noncomputable def fullT (k : Nat) : Nat := 2 ^ 2 ^ k - 1
noncomputable def varT (i k : Nat) : Nat := fullT k ^^^ fullT k / (2 ^ 2 ^ i + 1)
noncomputable def cofT (t i bit k : Nat) : Nat :=
 let high := t &&& varT i k
 if bit = 1 then high ||| high >>> (1 <<< i) else (t ^^^ high) ||| (t ^^^ high) <<< (1 <<< i)
noncomputable def depT (t i k : Nat) : Bool := cofT t i 0 k != cofT t i 1 k
noncomputable def supT (t k : Nat) : List Nat := (List.range k).filter fun i => depT t i k
noncomputable def sprT (m : Nat) (ps : List Nat) : Nat := (List.range ps.length).foldl (fun row j => row ||| ((m >>> j &&& 1) <<< ps.getD j 0)) 0
noncomputable def shrT (t k : Nat) : Nat := (List.range (1 <<< (supT t k).length)).foldl (fun r m => r ||| ((t >>> sprT m (supT t k) &&& 1) <<< m)) 0
theorem shl_one {i : Nat} : (1 : Int) * (2 : Int) ^ ((i : Int).toNat) = ((1 <<< i : Nat) : Int) := nat_shl 1 i
theorem c_full_table {k : Nat} (hk : k ≤ 3) (q : Q (.int (fullT k : Nat)) H) : f_full_table [.int (k : Nat)] H Q := by
 unfold f_full_table bw_full_table
 simp only [df1, ↓vf9, Nat.reduceSub, rp0, zk62, constW_p, zk63, nm0, zk64, bin_shl, shl_one, ↓vf4, bin_sub, zk11, zk2]
 have : k = 0 ∨ k = 1 ∨ k = 2 ∨ k = 3 := by exact oq6 hk
 rcases this with rfl | rfl | rfl | rfl <;> exact ⟨by decide, by decide, by decide, by decide, by decide, by decide, q⟩
theorem c_var_table {i k : Nat} (hi : i < k) (hk : k ≤ 3) (q : Q (.int (varT i k : Nat)) H) : f_var_table [.int (i : Nat), .int (k : Nat)] H Q := by
 unfold f_var_table bw_var_table
 simp only [df2, ↓vf7, Nat.reduceSub, rp2, zk55, ↓cn1, nilW_p, zk54, zk56]
 refine c_full_table hk ?_
 simp only [ka2, ↓vf9, zk62, nm2, zk63, constW_p, nm0, zk64, bin_shl, shl_one, ↓vf4, bin_add, bin_fdiv, bin_xor, zk11, zk2]
 have : (i = 0 ∧ k = 1) ∨ (i = 0 ∧ k = 2) ∨ (i = 1 ∧ k = 2) ∨ (i = 0 ∧ k = 3) ∨ (i = 1 ∧ k = 3) ∨ (i = 2 ∧ k = 3) := by lia
 rcases this with ⟨rfl, rfl⟩ | ⟨rfl, rfl⟩ | ⟨rfl, rfl⟩ | ⟨rfl, rfl⟩ | ⟨rfl, rfl⟩ | ⟨rfl, rfl⟩ <;> exact ⟨by decide, by decide, by decide, by decide, by decide, by decide, by decide, by decide, q⟩
theorem nat_and1 {a : Nat} : Builtin.bitAnd (a : Int) 1 = ((a &&& 1 : Nat) : Int) := nat_and a 1
theorem lt256 {a : Nat} (h : a < 2 ^ 8) : (a : Int).natAbs < 2 ^ 64 := by rw [Int.natAbs_natCast]; lia
theorem c_cofactor {t i bit k : Nat} (hi : i < k) (hk : k ≤ 3) (ht : t < 2 ^ 8) (hb : bit = 0 ∨ bit = 1) (q : Q (.int (cofT t i bit k : Nat)) H) : f_cofactor [.int (t : Nat), .int (i : Nat), .int (bit : Nat), .int (k : Nat)] H Q := by
 unfold f_cofactor bw_cofactor
 simp only [df4, ↓vf7, Nat.reduceSub, rp3, zk62, nm0, zk63, zk55, ↓cn1, ↓cn3, nilW_p, ↓vf6, zk56]
 refine c_var_table hi hk ?_
 unfold cofT at q
 simp only [zk64, bin_and, nat_and, ka4, ↓vf8, ↓tn2, constW_p, ↓vf15, zk9, ↓vf9, zk62, nm4, zk63, nm1, bin_shl, shl_one, bin_shr, nat_shr, bin_or, nat_or, zk11, zk6, zk2, nextBW_p, zk5, ↓vf7, nm0, bin_xor, nat_xor, ka5, nm5, nat_shl]
 have hx : (t ^^^ (t &&& varT i k)) < 2 ^ 8 := Nat.xor_lt_two_pow ht (Nat.lt_of_le_of_lt Nat.and_le_left ht)
 have h1 : i ≤ 2 := by exact om22 hi hk rfl
 have h2 : 1 <<< i ≤ 4 := by
  have : i = 0 ∨ i = 1 ∨ i = 2 := by lia
  rcases this with rfl | rfl | rfl <;> decide
 rcases hb with rfl | rfl
 ·exact ⟨by exact Int.natCast_nonneg _, by exact om39 h1 rfl, by decide, Int.natCast_nonneg _, by exact om39 h2 rfl, lt256 hx, q⟩
 ·exact ⟨by exact Int.natCast_nonneg _, by exact om39 h1 rfl, by decide, Int.natCast_nonneg _, q⟩
theorem c_depends {t i k : Nat} (hi : i < k) (hk : k ≤ 3) (ht : t < 2 ^ 8) (q : Q (.bool (depT t i k)) H) : f_depends [.int (t : Nat), .int (i : Nat), .int (k : Nat)] H Q := by
 unfold f_depends bw_depends
 simp only [df3, ↓vf9, Nat.reduceSub, rp1, zk37, zk55, ↓cn0, ↓cn1, ↓vf22, ↓cn2, nilW_p, ↓vf6, zk56]
 refine c_cofactor (bit := 0) hi hk ht (.inl rfl) ?_
 refine c_cofactor (bit := 1) hi hk ht (.inr rfl) ?_
 simp only [zk39, cmp_nei, zk11, zk2]
 unfold depT at q
 have e : ((cofT t i 0 k : Int) != (cofT t i 1 k : Int)) = (cofT t i 0 k != cofT t i 1 k) := by
  rw [Bool.eq_iff_iff, bne_iff_ne, bne_iff_ne]; lia
 rw [e]; exact q
theorem app_get {o : AO} : (H ++ [o])[H.length]? = some o := by simp
theorem app_set {o o' : AO} : (H ++ [o]).set H.length o' = H ++ [o'] := by simp
theorem filter_snoc (p : Nat → Bool) (i : Nat) : (List.range (i + 1)).filter p = (List.range i).filter p ++ (if p i then [i] else []) := by
 rw [List.range_succ, List.filter_append]; congr 1
 cases h : p i <;> simp [h]
theorem c_support {t k : Nat} (hk : k ≤ 3) (ht : t < 2 ^ 8) (q : Q (.ref H.length) (H ++ [.list ((supT t k).map fun (i : Nat) => V.int (i : Int))])) : f_support [.int (t : Nat), .int (k : Nat)] H Q := by
 unfold f_support bw_support
 simp only [df2, ↓vf7, Nat.reduceSub, rp4, zk50, nilW_p, zk51, List.length_nil, Nat.reduceLeDiff, ka2, ↓vf13, zk81, ↓cn1, zk54, zk82, zk18, true_and]
 refine ⟨by exact om1 _, by exact om38 hk rfl, ?_⟩
 refine range_inv rfl (fun i ρ H' => H' = H ++ [.list (((List.range i).filter fun i => depT t i k).map fun (i : Nat) => V.int (i : Int))] ∧ ∃ o3, ρ = [some (.int (t : Nat)), some (.int (k : Nat)), some (.ref H.length), o3, none, none]) ?_ ?_ ?_
 ·exact ⟨rfl, _, rfl⟩
 ·rintro i hi ρ H' B' ⟨rfl, o3, rfl⟩ hB
  simp only [zk19, na3, zk20, ↓vf8, zk36, zk55, ↓cn0, ↓cn3, ↓cn1, nilW_p, ↓vf6, zk54, zk56]
  refine c_depends hi hk ht ?_
  simp only [↓vf14, zk9, ↓vf10, zk86, nm2, zk87, nm3, zk88, ↓vf11, nextBW_p, zk5]
  cases h : depT t i k with
  | true =>
   rw [if_pos rfl]
   refine ⟨_, app_get, _, app_get, ?_, ?_⟩
   ·have : ((List.range i).filter fun i => depT t i k).length ≤ (List.range i).length := List.length_filter_le ..
    simp only [List.length_range] at this
    rw [List.length_map]; exact om31 this hi hk rfl
   ·rw [app_set]
    exact (hB _ _ ⟨by rw [filter_snoc, h]; simp, some (.int i), rfl⟩).1
  | false =>
   rw [if_neg (by decide)]
   exact (hB _ _ ⟨by rw [filter_snoc, h]; simp, some (.int i), rfl⟩).1
 ·rintro ρ H' ⟨rfl, o3, rfl⟩
  simp only [zk5, ↓vf9, nm2, zk11, zk2]
  exact q
theorem fold_snoc {α : Type} (f : α → Nat → α) (a : α) (i : Nat) : (List.range (i + 1)).foldl f a = f ((List.range i).foldl f a) i := by rw [List.range_succ, List.foldl_append]; rfl
theorem bit_le (a : Nat) : a &&& 1 ≤ 1 := Nat.and_le_right
theorem c_spread {m kp : Nat} {ps : List Nat} (hk : H[kp]? = some (.list (ps.map fun (i : Nat) => V.int (i : Int)))) (hl : ps.length ≤ 60) (hp : ∀ p ∈ ps, p ≤ 60) (q : Q (.int (sprT m ps : Nat)) H) : f_spread [.int (m : Nat), .ref kp] H Q := by
 unfold f_spread bw_spread
 simp only [df2, ↓vf7, Nat.reduceSub, rp4, constW_p, ka2, ↓vf13, zk81, zk52, zk55, ↓cn1, nilW_p, zk54, zk56, len_ref hk, ↓vf5, zk82, zk18]
 refine ⟨by simp; exact om5 hl rfl, by simp; exact om1 _, by simp; exact om38 hl rfl, ?_⟩
 refine range_inv (n := ps.length) (by simp) (fun i ρ H' => H' = H ∧ ∃ o3, ρ = [some (.int (m : Nat)), some (.ref kp), some (.int ((List.range i).foldl (fun row j => row ||| ((m >>> j &&& 1) <<< ps.getD j 0)) 0 : Nat)), o3, none, none]) ?_ ?_ ?_
 ·exact ⟨rfl, _, rfl⟩
 ·rintro i hi ρ H' B' ⟨rfl, o3, rfl⟩ hB
  have hb : ps[i]? = some ps[i] := List.getElem?_eq_getElem hi
  have hg : (ps.map fun (i : Nat) => V.int (i : Int))[i]? = some (.int (ps[i] : Nat)) := by rw [List.getElem?_map, hb]; rfl
  simp only [zk19, na3, zk20, zk4_, augN2, zk62, nm0, zk63, nm3, zk64, bin_shr, ↓vf4, nat_shr, bin_and, nat_and1, ↓sn1, zk59, get_ref hk hg (by exact om10 hi hl rfl), bin_shl, nat_shl, zk72, inp_or, nat_or, kn2, zk5, nextBW_p]
  have h1 := bit_le (m >>> i)
  have h2 := hp _ (List.getElem_mem hi)
  refine ⟨by exact Int.natCast_nonneg _, by exact Int.natCast_nonneg _, by exact om39 h2 rfl, by rw [Int.natAbs_natCast]; lia, (hB _ _ ⟨rfl, some (.int i), ?_⟩).1⟩
  rw [fold_snoc, List.getD_eq_getElem?_getD, hb]; rfl
 ·rintro ρ H' ⟨rfl, o3, rfl⟩
  simp only [zk5, ↓vf9, nm2, zk11, zk2]
  exact q
theorem supT_le {t k : Nat} : (supT t k).length ≤ k := by
 unfold supT
 have : ((List.range k).filter fun i => depT t i k).length ≤ (List.range k).length := List.length_filter_le ..
 simpa using this
theorem supT_lt {t k p : Nat} (h : p ∈ supT t k) : p < k := List.mem_range.mp (List.mem_filter.mp h).1
theorem c_shrink {t k : Nat} (hk : k ≤ 3) (ht : t < 2 ^ 8) (q : Q (.tup [.int (shrT t k : Nat), .ref H.length]) (H ++ [.list ((supT t k).map fun (i : Nat) => V.int (i : Int))])) : f_shrink [.int (t : Nat), .int (k : Nat)] H Q := by
 unfold f_shrink bw_shrink
 simp only [df2, ↓vf7, Nat.reduceSub, rp7, zk55, ↓cn0, ↓cn1, nilW_p, ↓vf6, zk56]
 refine c_support hk ht ?_
 have hle := supT_le (t := t) (k := k)
 have hg : (H ++ [AO.list ((supT t k).map fun (i : Nat) => V.int (i : Int))])[H.length]? = some (.list ((supT t k).map fun (i : Nat) => V.int (i : Int))) := app_get
 simp only [ka2, ↓vf7, constW_p, ka3, ↓vf13, zk81, zk52, zk62, zk63, zk55, ↓cn2, nilW_p, zk54, zk56, len_ref hg, List.length_map, zk64, bin_shl, ↓vf5, shl_one, zk82, zk18]
 have hb : 1 <<< (supT t k).length ≤ 8 := by
  have : (supT t k).length = 0 ∨ (supT t k).length = 1 ∨ (supT t k).length = 2 ∨ (supT t k).length = 3 := by lia
  rcases this with h | h | h | h <;> rw [h] <;> decide
 refine ⟨by exact om8 hle hk rfl, by exact Int.natCast_nonneg _, by lia, by decide, Int.lt_of_lt_of_le (by decide) (Int.natCast_nonneg _), by exact om38 hb rfl, ?_⟩
 refine range_inv rfl (fun i ρ H' => H' = H ++ [AO.list ((supT t k).map fun (i : Nat) => V.int (i : Int))] ∧ ∃ o4, ρ = [some (.int (t : Nat)), some (.int (k : Nat)), some (.ref H.length), some (.int ((List.range i).foldl (fun r m => r ||| ((t >>> sprT m (supT t k) &&& 1) <<< m)) 0 : Nat)), o4, none, none, none, none]) ?_ ?_ ?_
 ·exact ⟨rfl, _, rfl⟩
 ·rintro i hi ρ H' B' ⟨rfl, o4, rfl⟩ hB
  simp only [zk19, na4, zk20, zk4_, augN3, zk62, nm0, zk63, zk55, ↓cn4, ↓cn2, nilW_p, ↓vf6, zk56]
  refine c_spread hg (by exact om8 hle hk rfl) (fun p hp => by have := supT_lt hp; exact om22 this hk rfl) ?_
  simp only [zk64, bin_shr, ↓vf4, nat_shr, bin_and, nat_and1, zk63, nm4, bin_shl, nat_shl, zk72, inp_or, nat_or, kn3, zk5, nextBW_p]
  have h1 := bit_le (t >>> sprT i (supT t k))
  refine ⟨by exact Int.natCast_nonneg _, by exact Int.natCast_nonneg _, by exact om40 hi hb rfl, by rw [Int.natAbs_natCast]; lia, (hB _ _ ⟨rfl, some (.int i), ?_⟩).1⟩
  rw [fold_snoc]
 ·rintro ρ H' ⟨rfl, o4, rfl⟩
  simp only [zk5, ↓vf9, zk48, ↓cn3, ↓cn2, nilW_p, ↓vf6, zk49, List.length_cons, List.length_nil, Nat.zero_add, Nat.reduceAdd, Nat.reduceLeDiff, zk11, zk2, true_and]
  exact q
end
end Mine
end
section
open PySem
set_option maxRecDepth 100000
namespace Mine
noncomputable def projT (m : Nat) : List Nat → Nat
 | [] => 0
 | p :: r => (m >>> p &&& 1) + 2 * projT m r
noncomputable def shrOk (k t : Nat) : Bool :=
 (List.range (2 ^ k)).all (fun m => Nat.testBit t m == Nat.testBit (shrT t k) (projT m (supT t k))) &&
 ((supT t k).length != 1 || (shrT t k == 1 || shrT t k == 2))
theorem shr_all : (List.range 4).all (fun k => (List.range (2 ^ 2 ^ k)).all fun t => shrOk k t) = true := by decide +kernel
theorem shr_spec {k t : Nat} (hk : k ≤ 3) (ht : t < 2 ^ 2 ^ k) : (∀ m, m < 2 ^ k → t.testBit m = (shrT t k).testBit (projT m (supT t k))) ∧ ((supT t k).length = 1 → shrT t k = 1 ∨ shrT t k = 2) := by
 have h := List.all_eq_true.mp (List.all_eq_true.mp shr_all k (List.mem_range.mpr (by exact om7 hk rfl))) t (List.mem_range.mpr ht)
 unfold shrOk at h
 rw [Bool.and_eq_true] at h
 refine ⟨fun m hm => eq_of_beq (List.all_eq_true.mp h.1 m (List.mem_range.mpr hm)), fun hl => ?_⟩
 have h2 := h.2
 rw [hl] at h2
 simpa using h2
end Mine
end
section
open PySem
set_option maxRecDepth 100000
namespace Mine
section
variable {H : List AO} {Q : V → List AO → Prop}
noncomputable def tbit (ks : List Int) (row : Nat) (net : Int) : Nat := if net = 0 then 0 else if net = 1 then 1 else (row >>> ks.idxOf net) &&& 1
theorem c_table_bit {k row : Nat} {net : Int} {ks : List Int} (hk : H[k]? = some (.list (ks.map V.int))) (hl : ks.length ≤ 60) (hn : net ≠ 0 → net ≠ 1 → net ∈ ks) (q : Q (.int (tbit ks row net : Nat)) H) : f_table_bit [.int net, .ref k, .int (row : Nat)] H Q := by
 unfold f_table_bit bw_table_bit
 simp only [df3, ↓vf8, Nat.reduceSub, rp0, zk21, ↓tn0, constW_p, ↓vf15, zk22, beq_iff_eq, zk9, ↓reduceIte, ↓vf9, nm0, zk11, zk6, zk2, trueTW_p, Bool.false_eq_true, nextBW_p, zk5, zk62, nm2, zk63, zk91, nm1, zk92, zk93, zk64, bin_shr, ↓vf4, bin_and]
 unfold tbit at q
 by_cases h0 : net = 0
 ·rw [if_pos h0] at q ⊢; rw [h0]; exact q
 rw [if_neg h0] at q ⊢
 by_cases h1 : net = 1
 ·rw [if_pos h1] at q ⊢; rw [h1]; exact q
 rw [if_neg h1] at q ⊢
 have hm := hn h0 h1
 have hi := List.idxOf_lt_length_of_mem hm
 refine ⟨_, hk, ks, net, ks.idxOf net, rfl, hk, by exact om5 hl rfl, ?_, fun m hm' => ?_, ?_⟩
 ·rw [List.getElem?_eq_getElem hi, List.getElem_idxOf hi]
 ·intro e
  have hml : m < ks.length := by exact Nat.lt_trans hm' hi
  rw [List.getElem?_eq_getElem hml] at e
  have hm2 : m < ks.findIdx (· == net) := hm'
  have := List.not_of_lt_findIdx hm2
  simp at e
  simp [e] at this
 ·exact ⟨by exact Int.natCast_nonneg _, by rw [nat_shr, nat_and1]; exact q⟩
end
end Mine
end
section
open PySem
set_option maxRecDepth 100000
namespace Mine
section
variable {H : List AO} {Q : V → List AO → Prop}
theorem comp_fm {ok : List AO → Prop} {t : TW} {b : EW} {Q : List V → List AO → Prop} (R : Rho → Prop) (P : List AO → Prop) (p : V → Bool) (g : V → V)
  (hR : ∀ v ρ, R ρ → R (ρ.set 1 (some v))) (hok : ∀ H, P H → ok H) :
  ∀ (items acc : List V) {ρ : Rho} {H : List AO},
  (∀ v ∈ items, ∀ ρ H (T : Bool → List AO → Prop), R ρ → P H → (∀ H', P H' → T (p v) H') → t (ρ.set 1 (some v)) H T) →
  (∀ v ∈ items, p v = true → ∀ ρ H (K : V → List AO → Prop), R ρ → P H → (∀ H', P H' → K (g v) H') → b (ρ.set 1 (some v)) H K) →
  (∀ H, P H → Q (acc ++ (items.filter p).map g) H) → R ρ → P H → acc.length + items.length ≤ 900 → compLoopW ok (nameA 1) t b items ρ H acc Q
 | [], acc, ρ, H, _, _, he, r, h, hl => by
  have := he H h
  rw [List.filter_nil, List.map_nil, List.append_nil] at this
  exact ⟨hok H h, this⟩
 | v :: items, acc, ρ, H, ht, hb, he, r, h, hl => by
  unfold compLoopW
  rw [List.length_cons] at hl
  refine ⟨hok H h, by lia, ?_⟩
  show t (ρ.set 1 (some v)) H _
  refine ht v (.head _) ρ H _ r h fun H' h' => ?_
  have ih := fun (a : List V) (H : List AO) (hP : P H) (hl : a.length + items.length ≤ 900) (he : ∀ H, P H → Q (a ++ (items.filter p).map g) H) =>
   comp_fm R P p g hR hok items a (ρ := ρ.set 1 (some v)) (H := H) (fun w hw => ht w (.tail _ hw)) (fun w hw => hb w (.tail _ hw)) he (hR v ρ r) hP hl
  cases hp : p v with
  | true =>
   rw [if_pos rfl]
   refine hb v (.head _) hp ρ H' _ r h' fun H₃ h₃ => ?_
   exact ih (acc ++ [g v]) H₃ h₃ (by simp; lia) (fun H h => by have := he H h; rw [List.filter_cons, hp] at this; simpa using this)
  | false =>
   rw [if_neg (by decide)]
   exact ih acc H' h' (by lia) (fun H h => by have := he H h; rw [List.filter_cons, hp] at this; simpa using this)
theorem comp_m {ok : List AO → Prop} {b : EW} {Q : List V → List AO → Prop} (R : Rho → Prop) (P : List AO → Prop) (g : V → V)
  (hR : ∀ v ρ, R ρ → R (ρ.set 1 (some v))) (hok : ∀ H, P H → ok H) {items : List V} {ρ : Rho} {H : List AO}
  (hb : ∀ v ∈ items, ∀ ρ H (K : V → List AO → Prop), R ρ → P H → (∀ H', P H' → K (g v) H') → b (ρ.set 1 (some v)) H K)
  (he : ∀ H, P H → Q (items.map g) H) (r : R ρ) (h : P H) (hl : items.length ≤ 900) : compLoopW ok (nameA 1) (trueTW true) b items ρ H [] Q :=
 comp_fm R P (fun _ => true) g hR hok items [] (fun _ _ _ H T _ h k => k H h) (fun v hv _ => hb v hv) (fun H h => by have := he H h; rw [List.nil_append, show items.filter (fun _ => true) = items from List.filter_eq_self.mpr (fun _ _ => rfl)]; exact this) r h (by simpa using hl)
noncomputable def overT (t : Nat) (ins ks : List Int) : Nat := (List.range (1 <<< ks.length)).foldl (fun s row => s + if t.testBit (rowNum (ins.map (tbit ks row))) then 2 ^ row else 0) 0
theorem shl8 {n : Nat} (h : n ≤ 3) : 1 <<< n ≤ 8 := by
 have : n = 0 ∨ n = 1 ∨ n = 2 ∨ n = 3 := by exact oq6 h
 rcases this with h | h | h | h <;> rw [h] <;> decide
theorem and1_bit {a r : Nat} : (((a >>> r &&& 1 : Nat) : Int) != 0) = a.testBit r := by
 rw [Bool.eq_iff_iff, bne_iff_ne]
 unfold Nat.testBit
 rw [Nat.and_comm]
 rcases Nat.mod_two_eq_zero_or_one (a >>> r) with h | h <;> simp [Nat.and_one_is_mod, h]
theorem c_table_over {t k : Nat} {ins ks : List Int} (hk : H[k]? = some (.list (ks.map V.int))) (hi : ins.length ≤ 60) (hl : ks.length ≤ 3) (hn : ∀ n ∈ ins, n ≠ 0 → n ≠ 1 → n ∈ ks)
  (q : ∀ H', Keep H H' → Q (.int (overT t ins ks : Nat)) H') : f_table_over [.int (t : Nat), .tup (ins.map V.int), .ref k] H Q := by
 unfold f_table_over bw_table_over
 simp only [df3, ↓vf7, Nat.reduceSub, rp6, constW_p, ka3, ↓vf13, zk81, zk52, zk62, zk63, zk55, ↓cn2, nilW_p, zk54, zk56, len_ref hk, List.length_map, zk64, bin_shl, ↓vf5, shl_one, zk82, zk18]
 have h8 := shl8 hl
 refine ⟨by exact om5 hl rfl, by exact Int.natCast_nonneg _, by exact om39 hl rfl, by decide, Int.lt_of_lt_of_le (by decide) (Int.natCast_nonneg _), by exact om38 h8 rfl, ?_⟩
 refine range_inv rfl (fun i ρ H' => Keep H H' ∧ Ex2 fun o4 o5 => ρ = [some (.int (t : Nat)), some (.tup (ins.map V.int)), some (.ref k), some (.int ((List.range i).foldl (fun s row => s + if t.testBit (rowNum (ins.map (tbit ks row))) then 2 ^ row else 0) 0 : Nat)), o4, o5, none, none, none]) ?_ ?_ ?_
 ·exact ⟨.refl _, _, _, rfl⟩
 ·rintro i hi' ρ H' B' ⟨hK, o4, o5, rfl⟩ hB
  simp only [zk19, na4, zk20, ↓vf7, zk115, zk83, nm1, zk85, zk116]
  refine comp_m (fun ρ => ∃ o, ρ = [none, o, none, some (.ref k), some (.int (i : Nat))]) (Keep H) (fun v => match v with | .int n => .int (tbit ks i n : Nat) | v => v) ?_ (fun _ _ => trivial) ?_ ?_ ⟨_, rfl⟩ hK (by rw [Src.items, List.length_map]; exact om5 hi rfl)
  ·rintro v ρ ⟨o, rfl⟩; exact ⟨some v, rfl⟩
  ·rintro v hv ρ H₁ K ⟨o, rfl⟩ hK₁ hq
   obtain ⟨n, hn', rfl⟩ := List.mem_map.mp hv
   simp only [List.set_cons_succ, List.set_cons_zero, zk55, ↓cn1, ↓cn3, ↓cn4, nilW_p, ↓vf6, zk54, zk56]
   exact c_table_bit (hK₁ _ _ hk) (by exact om5 hl rfl) (hn n hn') (hq _ hK₁)
  ·intro H₁ hK₁
   simp only [Src.items, List.map_map]
   have e : ins.map ((fun v => match v with | V.int n => V.int (tbit ks i n : Nat) | v => v) ∘ V.int) = (ins.map (tbit ks i)).map fun (b : Nat) => V.int (b : Int) := by rw [List.map_map]; rfl
   rw [e]
   refine c_row_number (app_get) (by rw [List.length_map]; exact hi) ?_
   simp only [List.set_cons_succ, List.set_cons_zero, nextBW_p, zk4_, augN3, zk62, constW_p, zk63, nm4, zk64, bin_shl, shl_one, zk72, inp_add, kn3, zk5, bin_shr, nat_shr, bin_and, nat_and1, tru_int, and1_bit]
   refine ⟨by exact Int.natCast_nonneg _, ?_⟩
   have hK₂ : Keep H (H₁ ++ [AO.list ((ins.map (tbit ks i)).map fun (b : Nat) => V.int (b : Int))]) := hK₁.trans (.app _ _)
   by_cases hb : t.testBit (rowNum (ins.map (tbit ks i))) = true
   ·rw [if_pos hb]
    refine ⟨by exact Int.natCast_nonneg _, by exact om40 hi' h8 rfl, by decide, (hB _ _ ⟨hK₂, some (.int i), some (.ref H₁.length), ?_⟩).1⟩
    rw [fold_snoc, if_pos hb, Nat.shiftLeft_eq, Nat.one_mul]; push_cast; rfl
   ·rw [if_neg hb]
    refine (hB _ _ ⟨hK₂, some (.int i), some (.ref H₁.length), ?_⟩).1
    rw [fold_snoc, if_neg hb]; rfl
 ·rintro ρ H' ⟨hK, o4, o5, rfl⟩
  simp only [zk5, ↓vf9, nm3, zk11, zk2]
  exact q _ hK
end
end Mine
end
section
open PySem
set_option maxRecDepth 100000
namespace Mine
section
variable {H : List AO} {Q : V → List AO → Prop}
theorem loop_nth {ok : List AO → Prop} {step : V → BW} {B : Fl → Rho → List AO → Prop} (I : Nat → Rho → List AO → Prop) {items : List V} {ρ : Rho} {H : List AO} (h0 : I 0 ρ H)
  (hs : ∀ i v, items[i]? = some v → ∀ ρ H (B' : Fl → Rho → List AO → Prop), I i ρ H → (∀ ρ' H', I (i + 1) ρ' H' → B' .next ρ' H' ∧ B' .cont ρ' H') → ok H ∧ step v ρ H B')
  (he : ∀ ρ H, I items.length ρ H → ok H ∧ B .next ρ H) : loopW ok step items ρ H B := by
 refine loop_inv (fun d ρ H => I d.length ρ H) _ [] h0 (fun d v r ρ H B' e hI hB => ?_) (fun ρ H h => he ρ H (by simpa using h))
 rw [List.nil_append] at e
 exact hs d.length v (by rw [e]; simp) ρ H B' hI fun ρ' H' h' => hB ρ' H' (by simpa using h')
noncomputable def keptOf (ins : List Int) : List Int := ins.foldl (fun k n => if 1 < n ∧ n ∉ k then k ++ [n] else k) []
theorem keptOf_snoc (l : List Int) (n : Int) : keptOf (l ++ [n]) = if 1 < n ∧ n ∉ keptOf l then keptOf l ++ [n] else keptOf l := by
 unfold keptOf; rw [List.foldl_append]; rfl
theorem keptOf_take {l : List Int} {i : Nat} {n : Int} (h : l[i]? = some n) : keptOf (l.take (i + 1)) = if 1 < n ∧ n ∉ keptOf (l.take i) then keptOf (l.take i) ++ [n] else keptOf (l.take i) := by
 rw [List.take_add_one, h, Option.toList_some, keptOf_snoc]
theorem keptOf_facts : ∀ (i : Nat) (l : List Int), l.length = i → (keptOf l).length ≤ l.length ∧ (keptOf l).Nodup ∧ (∀ n ∈ keptOf l, 1 < n ∧ n ∈ l) ∧ (∀ n ∈ l, 1 < n → n ∈ keptOf l)
 | 0, l, h => by rw [List.length_eq_zero_iff.mp h]; exact ⟨Nat.zero_le _, .nil, fun _ h => (nomatch h), fun _ h => (nomatch h)⟩
 | i + 1, l, h => by
  have e := (List.take_append_drop i l).symm
  have hd : (l.drop i).length = 1 := by rw [List.length_drop]; lia
  obtain ⟨n, hn⟩ := List.length_eq_one_iff.mp hd
  rw [hn] at e
  generalize ht : l.take i = t at e
  have hl : t.length = i := by rw [← ht, List.length_take]; lia
  subst e
  obtain ⟨h1, h2, h3, h4⟩ := keptOf_facts i t hl
  rw [keptOf_snoc, List.length_append, List.length_singleton]
  by_cases c : 1 < n ∧ n ∉ keptOf t
  ·rw [if_pos c]
   refine ⟨by simp; exact h1, ?_, ?_, ?_⟩
   ·rw [List.nodup_append]
    exact ⟨h2, by simp, fun a ha b hb e => by rw [List.mem_singleton] at hb; subst hb; subst e; exact c.2 ha⟩
   ·intro m hm
    rcases List.mem_append.mp hm with hm | hm
    ·exact ⟨(h3 m hm).1, List.mem_append_left _ (h3 m hm).2⟩
    ·rw [List.mem_singleton] at hm; subst hm; exact ⟨c.1, by simp⟩
   ·intro m hm h
    rcases List.mem_append.mp hm with hm | hm
    ·exact List.mem_append_left _ (h4 m hm h)
    ·exact List.mem_append_right _ hm
  ·rw [if_neg c]
   refine ⟨by exact Nat.le_succ_of_le h1, h2, fun m hm => ⟨(h3 m hm).1, List.mem_append_left _ (h3 m hm).2⟩, fun m hm h => ?_⟩
   rcases List.mem_append.mp hm with hm | hm
   ·exact h4 m hm h
   ·rw [List.mem_singleton] at hm; subst hm
    exact Classical.byContradiction fun q => c ⟨by assumption, q⟩
noncomputable def sumB (p : Nat → Bool) (n : Nat) : Nat := (List.range n).foldl (fun s r => s + if p r then 2 ^ r else 0) 0
theorem sumB_succ (p : Nat → Bool) (n : Nat) : sumB p (n + 1) = sumB p n + if p n then 2 ^ n else 0 := by unfold sumB; rw [fold_snoc]
theorem sumB_spec (p : Nat → Bool) : ∀ n, sumB p n < 2 ^ n ∧ ∀ i, (sumB p n).testBit i = (decide (i < n) && p i)
 | 0 => ⟨by simp [sumB], fun i => by simp [sumB]⟩
 | n + 1 => by
  obtain ⟨h1, h2⟩ := sumB_spec p n
  rw [sumB_succ]
  have hp : 2 ^ (n + 1) = 2 ^ n + 2 ^ n := by rw [Nat.pow_succ]; lia
  cases hc : p n with
  | false =>
   simp only [Bool.false_eq_true, if_false, Nat.add_zero]
   refine ⟨by lia, fun i => ?_⟩
   rw [h2]
   by_cases h : i = n
   ·subst h; simp [hc]
   ·have : (i < n + 1) ↔ (i < n) := by exact oq7 h
    simp [this]
  | true =>
   simp only [if_true]
   refine ⟨by lia, fun i => ?_⟩
   rw [Nat.add_comm]
   rcases Nat.lt_trichotomy i n with h | h | h
   ·rw [Nat.testBit_two_pow_add_gt h, h2]
    have : i < n + 1 := by exact Nat.lt_succ_of_lt h
    simp [h, this]
   ·subst h
    rw [Nat.testBit_two_pow_add_eq, Nat.testBit_lt_two_pow h1]; simp [hc]
   ·rw [Nat.testBit_lt_two_pow]
    ·have : ¬ i < n + 1 := by exact oq8 h
     simp [this]
    ·exact Nat.lt_of_lt_of_le (by lia : 2 ^ n + sumB p n < 2 ^ (n + 1)) (Nat.pow_le_pow_right (by decide) (by exact h))
theorem overT_sum {t : Nat} {ins ks : List Int} : overT t ins ks = sumB (fun row => t.testBit (rowNum (ins.map (tbit ks row)))) (1 <<< ks.length) := rfl
theorem overT_lt {t : Nat} {ins ks : List Int} : overT t ins ks < 2 ^ 2 ^ ks.length := by
 rw [overT_sum]
 have := (sumB_spec (fun row => t.testBit (rowNum (ins.map (tbit ks row)))) (1 <<< ks.length)).1
 rwa [Nat.shiftLeft_eq, Nat.one_mul] at this ⊢
theorem pp8 {n : Nat} (h : n ≤ 3) : 2 ^ 2 ^ n ≤ 2 ^ 8 := by
 have : n = 0 ∨ n = 1 ∨ n = 2 ∨ n = 3 := by exact oq6 h
 rcases this with h | h | h | h <;> rw [h] <;> decide
noncomputable abbrev Form3 := String × List Int × V
noncomputable def tfV (f : Form3) : V := .tup [.str f.1, .tup (f.2.1.map V.int), f.2.2]
noncomputable def placeNets (ks : List Int) (ps : List Nat) : List Int := ps.map fun p => ks.getD p 0
noncomputable def tableForm (t : Nat) (ins : List Int) : Form3 :=
 let ks := keptOf ins
 let s := overT t ins ks
 let sm := shrT s ks.length
 let nets := placeNets ks (supT s ks.length)
 if nets.length = 0 then ("buf", [((sm &&& 1 : Nat) : Int)], .none) else if nets.length = 1 then ((if sm = 2 then "buf" else "not"), nets, .none) else ("lut", nets, .int (sm : Nat))
theorem c_table_form {t : Nat} {ins : List Int} (hi : ins.length ≤ 3) (hn : ∀ n ∈ ins, 0 ≤ n) (q : ∀ H', Keep H H' → Q (tfV (tableForm t ins)) H') : f_table_form [.int (t : Nat), .tup (ins.map V.int)] H Q := by
 unfold f_table_form bw_table_form
 simp only [df2, ↓vf7, Nat.reduceSub, rp9, zk50, nilW_p, zk51, List.length_nil, Nat.reduceLeDiff, ka2, ↓vf13, zk83, nm1, zk85, zk18, true_and]
 refine loop_nth (fun i ρ H' => H' = H ++ [AO.list ((keptOf (ins.take i)).map V.int)] ∧ ∃ o3, ρ = [some (.int (t : Nat)), some (.tup (ins.map V.int)), some (.ref H.length), o3, none, none, none, none, none, none, none]) ?_ ?_ ?_
 ·exact ⟨rfl, _, rfl⟩
 ·rintro i v hv ρ H' B' ⟨rfl, o3, rfl⟩ hB
  refine ⟨trivial, ?_⟩
  rw [Src.items, List.getElem?_map] at hv
  obtain ⟨n, hn', rfl⟩ := Option.map_eq_some_iff.mp hv
  have hk := keptOf_take hn'
  have hlen : (keptOf (ins.take i)).length ≤ 3 := by have := (keptOf_facts _ (ins.take i) rfl).1; rw [List.length_take] at this; lia
  simp only [zk19, na3, zk20, ↓vf8, zk23, ↓tn3, constW_p, ↓vf19, zk24, decide_eq_true_eq, nm2, zk29, zk9, Bool.false_eq_true, ↓reduceIte, nextBW_p, zk5]
  by_cases h1 : n > 1
  ·rw [if_pos h1]
   refine .inr ⟨_, app_get, ?_⟩
   simp only [↓vf14, zk24, trueTW_p, zk9, ↓reduceIte, ↓vf10, zk86, nm2, zk87, nm3, zk88, ↓vf11, nextBW_p, zk5, Bool.false_eq_true]
   by_cases h2 : n ∈ keptOf (ins.take i)
   ·have : (keptOf (ins.take i)).any (· == n) = true := by rw [List.any_eq_true]; exact ⟨n, h2, by simp⟩
    rw [this, if_neg (by decide)]
    rw [if_neg (fun h => h.2 h2)] at hk
    exact (hB _ _ ⟨by rw [hk], some (.int n), rfl⟩).1
   ·have : (keptOf (ins.take i)).any (· == n) = false := by
     rw [List.any_eq_false]; intro x hx e; rw [beq_iff_eq] at e; subst e; exact h2 hx
    rw [this, if_pos (by decide)]
    rw [if_pos ⟨h1, h2⟩] at hk
    refine ⟨_, app_get, _, app_get, by rw [List.length_map]; exact om5 hlen rfl, ?_⟩
    rw [app_set]
    exact (hB _ _ ⟨by rw [hk]; simp, some (.int n), rfl⟩).1
  ·rw [if_neg h1]
   rw [if_neg (fun h => h1 h.1)] at hk
   exact (hB _ _ ⟨by rw [hk], some (.int n), rfl⟩).1
 ·rintro ρ H' ⟨rfl, o3, rfl⟩
  refine ⟨trivial, ?_⟩
  rw [Src.items, List.length_map, List.take_of_length_le (Nat.le_refl _)]
  obtain ⟨f1, f2, f3, f4⟩ := keptOf_facts _ ins rfl
  have q0 := q
  unfold tableForm at q0
  generalize hks : keptOf ins = ks at *
  have hk : (H ++ [AO.list (ks.map V.int)])[H.length]? = some (.list (ks.map V.int)) := app_get
  simp only [zk5, ↓vf7, zk55, zk52, ↓cn0, ↓cn1, ↓cn2, nilW_p, ↓vf6, zk54, zk56]
  refine c_table_over hk (by exact om5 hi rfl) (by exact om8 f1 hi rfl) (fun n hm a b => f4 n hm (by have := hn n hm; lia)) fun H₁ hK₁ => ?_
  have hk₁ := hK₁ _ _ hk
  simp only [zk53, zk52, zk55, ↓cn2, nilW_p, zk54, zk56, len_ref hk₁, ↓vf5]
  have hov := overT_lt (t := t) (ins := ins) (ks := ks)
  refine ⟨by rw [List.length_map]; exact om8 f1 hi rfl, ?_⟩
  rw [List.length_map]
  refine c_shrink (by exact om8 f1 hi rfl) (Nat.lt_of_lt_of_le hov (pp8 (by exact om8 f1 hi rfl))) ?_
  simp only [ktup, tupA_p, List.length_cons, List.length_nil, Nat.zero_add, Nat.reduceAdd, zk69, na4, zk70, na5, nilAs_p, ↓vf12, ↓vf7, zk55, zk52, zk115, zk83, nm5, zk84, zk116, true_and]
  have hkp : (H₁ ++ [AO.list ((supT (overT t ins ks) ks.length).map fun (i : Nat) => V.int (i : Int))])[H₁.length]? = some (.list ((supT (overT t ins ks) ks.length).map fun (i : Nat) => V.int (i : Int))) := app_get
  refine ⟨_, hkp, ?_⟩
  have hle := supT_le (t := overT t ins ks) (k := ks.length)
  have hK₂ : Keep (H ++ [AO.list (ks.map V.int)]) (H₁ ++ [AO.list ((supT (overT t ins ks) ks.length).map fun (i : Nat) => V.int (i : Int))]) := hK₁.trans (.app _ _)
  have hk₂ := hK₂ _ _ hk
  refine comp_m (fun ρ => ∃ o, ρ = [none, o, some (.ref H.length)]) (fun H' => H' = H₁ ++ [AO.list ((supT (overT t ins ks) ks.length).map fun (i : Nat) => V.int (i : Int))]) (fun v => match v with | .int n => .int (ks.getD n.toNat 0) | v => v) ?_ ?_ ?_ ?_ ⟨_, rfl⟩ rfl (by rw [Src.items, List.length_map]; exact om26 hle f1 hi rfl)
  ·rintro v ρ ⟨o, rfl⟩; exact ⟨some v, rfl⟩
  ·rintro H' rfl; exact hkp
  ·rintro v hv ρ H₃ K ⟨o, rfl⟩ rfl hq
   obtain ⟨n, hn', rfl⟩ := List.mem_map.mp hv
   have := supT_lt hn'
   simp only [List.set_cons_succ, List.set_cons_zero, zk57, nm2, zk58, nm1, zk59]
   refine (get_ref hk₂ (v := .int (ks.getD n 0)) ?_ (by exact om37 this f1 hi rfl)).mpr ?_
   ·rw [List.getElem?_map, List.getElem?_eq_getElem this, List.getD_eq_getElem?_getD, List.getElem?_eq_getElem this]; rfl
   ·have := hq _ rfl
    simpa using this
  ·rintro H₃ rfl
   have e : (Src.items (Src.list H₁.length ((supT (overT t ins ks) ks.length).map fun (i : Nat) => V.int (i : Int)))).map (fun v => match v with | .int n => .int (ks.getD n.toNat 0) | v => v) = (placeNets ks (supT (overT t ins ks) ks.length)).map V.int := by
    rw [Src.items, List.map_map, placeNets, List.map_map]; rfl
   rw [e]
   generalize hnets : placeNets ks (supT (overT t ins ks) ks.length) = nets at *
   have hnl : nets.length ≤ 3 := by rw [← hnets, placeNets, List.length_map]; exact om26 hle f1 hi rfl
   generalize hH₃ : H₁ ++ [AO.list ((supT (overT t ins ks) ks.length).map fun (i : Nat) => V.int (i : Int))] = H₃ at *
   have hK₃ : Keep H (H₃ ++ [AO.list (nets.map V.int)]) := (Keep.app _ _).trans (hK₂.trans (.app _ _))
   have q1 := q0 _ hK₃
   simp only [hnets] at q1
   have hl3 : (H₃ ++ [AO.list (nets.map V.int)])[H₃.length]? = some (.list (nets.map V.int)) := app_get
   refine ⟨_, hl3, by rw [List.length_map]; exact om5 hnl rfl, ?_⟩
   simp only [ka6, ↓vf8, zk27, zk55, ↓cn6, nilW_p, zk54, zk56, lenF_tup, List.length_map, ↓vf1, ↓vf15, zk9, beq_iff_eq, ↓vf9, zk48, ↓vf22, zk52, zk62, nm4, ↓vf4, bin_and, ↓vf5, zk49, List.length_cons, List.length_nil, Nat.zero_add, Nat.reduceLeDiff, zk53, ↓vf6, Nat.reduceAdd, zk11, zk6, zk2, true_and, nextBW_p, zk5, zk46, ↓tn4, constW_p, zk47, ↓cn4]
   refine ⟨by exact om5 hnl rfl, ?_⟩
   by_cases c0 : nets.length = 0
   ·rw [if_pos c0] at q1
    rw [if_pos (by exact om43 c0 rfl)]
    simp only [nat_and1]
    exact q1
   rw [if_neg c0] at q1
   rw [if_neg (by exact om48 c0 rfl)]
   refine ⟨by exact om5 hnl rfl, ?_⟩
   by_cases c1 : nets.length = 1
   ·rw [if_pos c1] at q1
    rw [if_pos (by exact om43 c1 rfl)]
    by_cases c2 : shrT (overT t ins ks) ks.length = 2
    ·rw [if_pos c2] at q1; rw [if_pos (by exact om43 c2 rfl)]; exact q1
    ·rw [if_neg c2] at q1; rw [if_neg (by exact om48 c2 rfl)]; exact q1
   rw [if_neg c1] at q1
   rw [if_neg (by exact om48 c1 rfl)]
   exact q1
end
end Mine
end
section
open PySem
set_option maxRecDepth 100000
namespace Mine
section
variable {H : List AO} {Q : V → List AO → Prop}
noncomputable abbrev ID := List (Int × Int)
noncomputable def DI (d : ID) : AO := .dict (d.map fun p => (p.1, V.int p.2))
noncomputable def lk (d : ID) (k : Int) : Option Int := (d.find? fun p => p.1 = k).map (·.2)
noncomputable def lput (d : ID) (k v : Int) : ID := if d.any (fun p => p.1 = k) then d.map (fun p => if p.1 = k then (p.1, v) else p) else d ++ [(k, v)]
noncomputable def fin (d : ID) (n : Int) : Int := (lk d n).getD n
theorem dget_DI (d : ID) (k : Int) : dget (d.map fun p => (p.1, V.int p.2)) k = (lk d k).map V.int := by
 unfold dget lk
 induction d with
 | nil => rfl
 | cons p r ih =>
  rw [List.map_cons, List.find?_cons, List.find?_cons]
  by_cases h : p.1 = k
  ·simp [h]
  ·simp only [h, decide_false]; exact ih
theorem dput_DI (d : ID) (k v : Int) : dput (d.map fun p => (p.1, V.int p.2)) k (.int v) = (lput d k v).map fun p => (p.1, V.int p.2) := by
 unfold dput lput
 have : (d.map fun p => (p.1, V.int p.2)).any (fun p => p.1 = k) = d.any (fun p => p.1 = k) := by rw [List.any_map]; rfl
 rw [this]
 split
 ·rw [List.map_map, List.map_map]
  apply List.map_congr_left
  intro p _
  simp only [Function.comp]
  split <;> rfl
 ·simp
theorem dget_put {d : List (Int × V)} {k j : Int} {v : V} : dget (dput d k v) j = if j = k then some v else dget d j := by
 unfold dput
 split
 next h =>
  unfold dget
  induction d with
  | nil => cases h
  | cons p r ih =>
   rw [List.map_cons, List.find?_cons, List.find?_cons]
   by_cases hp : p.1 = k
   ·rw [if_pos hp]
    by_cases hj : j = k
    ·simp [hp, hj]
    ·have : ¬ p.1 = j := by exact oq9 hp hj
     simp only [this, decide_false, if_neg hj]
     clear ih h
     induction r with
     | nil => rfl
     | cons p' r' ih' =>
      rw [List.map_cons, List.find?_cons, List.find?_cons]
      by_cases h2 : p'.1 = k
      ·rw [if_pos h2]
       have h3 : ¬ p'.1 = j := by exact oq9 h2 hj
       simp only [h3, decide_false]; exact ih'
      ·rw [if_neg h2]
       by_cases h3 : p'.1 = j
       ·simp [h3]
       ·simp only [h3, decide_false]; exact ih'
   ·rw [if_neg hp]
    have hr : r.any (fun p => p.1 = k) = true := by simpa [hp] using h
    have ih := ih hr
    by_cases hj : p.1 = j
    ·have : ¬ j = k := by lia
     simp [hj, this]
    ·simp only [hj, decide_false]; exact ih
 next h =>
  unfold dget
  rw [List.find?_append]
  by_cases hj : j = k
  ·subst hj
   have : d.find? (fun p => p.1 = j) = none := by
    rw [List.find?_eq_none]; intro p hp
    have h2 := h
    rw [Bool.not_eq_true, List.any_eq_false] at h2
    exact h2 p hp
   rw [this]; simp
  ·have : ¬ k = j := by lia
   simp [this, hj]
theorem lk_put {d : ID} {k j v : Int} : lk (lput d k v) j = if j = k then some v else lk d j := by
 have h := dget_DI (lput d k v) j
 rw [← dput_DI, dget_put] at h
 by_cases hj : j = k
 ·rw [if_pos hj] at h ⊢
  cases e : lk (lput d k v) j with
  | none => rw [e] at h; cases h
  | some x => rw [e] at h; cases h; rfl
 ·rw [if_neg hj, dget_DI] at h
  rw [if_neg hj]
  cases e : lk (lput d k v) j with
  | none => rw [e] at h; cases e' : lk d j with
   | none => rfl
   | some y => rw [e'] at h; cases h
  | some x => rw [e] at h; cases e' : lk d j with
   | none => rw [e'] at h; cases h
   | some y => rw [e'] at h; cases h; rfl
theorem dput_len {d : List (Int × V)} {k : Int} {v : V} : (dput d k v).length ≤ d.length + 1 := by
 unfold dput; split <;> simp
theorem lput_len {d : ID} {k v : Int} : (lput d k v).length ≤ d.length + 1 := by
 unfold lput; split <;> simp
theorem get_DI {k : Nat} {i v : Int} {d : ID} (h : H[k]? = some (DI d)) (hi : lk d i = some v) : getV (.ref k) (.int i) H Q ↔ Q (.int v) H :=
 get_dict h (by rw [dget_DI, hi]; rfl)
theorem set_DI {k : Nat} {i v : Int} {d : ID} {Q : List AO → Prop} (h : H[k]? = some (DI d)) (hl : d.length ≤ 1000) (q : Q (H.set k (DI (lput d i v)))) : setV (.ref k) (.int i) (.int v) H Q :=
 .inl ⟨_, h, by simpa using hl, by rw [dput_DI]; exact q⟩
theorem in_DI {k : Nat} {i : Int} {d : ID} (h : H[k]? = some (DI d)) (q : Q (.bool (lk d i).isSome) H) : cmpV .In (.int i) (.ref k) H Q :=
 .inl ⟨_, h, by rw [dget_DI, Option.isSome_map]; exact q⟩
theorem nin_DI {k : Nat} {i : Int} {d : ID} (h : H[k]? = some (DI d)) (q : Q (.bool (!(lk d i).isSome)) H) : cmpV .NotIn (.int i) (.ref k) H Q :=
 .inl ⟨_, h, by rw [dget_DI, Option.isSome_map]; exact q⟩
theorem c_final_net {k : Nat} {n : Int} {d : ID} (h : H[k]? = some (DI d)) (hf : ∀ a b, lk d a = some b → lk d b = none) (q : Q (.int (fin d n)) H) : f_final_net [.ref k, .int n] H Q := by
 unfold f_final_net bw_final_net
 simp only [df2, Nat.reduceSub, rp0, zk4_]
 unfold fin at q
 cases e : lk d n with
 | none =>
  rw [e] at q
  refine ⟨1, ?_⟩
  unfold whileW
  simp only [↓tn1, ↓vf7, ↓sn0, zk5, ↓vf9, zk6, zk2, nm1, zk59, zk11, nm0, zk29]
  refine in_DI h ?_
  simp only [↓vf14, e, Option.isSome_none, Bool.false_eq_true, ↓reduceIte]
  exact q
 | some m =>
  rw [e] at q
  refine ⟨2, ?_⟩
  unfold whileW
  simp only [↓tn1, ↓vf7, ↓sn0, zk5, ↓vf9, zk6, zk2, nm1, zk59, zk11, nm0, zk29]
  refine in_DI h ?_
  simp only [↓vf14, e, Option.isSome_some, ↓reduceIte]
  rw [get_DI h e]
  unfold whileW
  simp only [↓vf7, zk5, ↓vf9, zk6, zk2, zk57, zk27, ka1, nextBW_p, nm0, zk58, nm1, zk59, zk11, zk28, zk29]
  refine in_DI h ?_
  simp only [↓vf14, hf n m e, Option.isSome_none, Bool.false_eq_true, ↓reduceIte]
  exact q
noncomputable def oppI (inv : ID) (a b : Int) : Bool := (lk inv a).getD (-1) == b || (lk inv b).getD (-1) == a
theorem dg {d : ID} {a : Int} : (dget (d.map fun p => (p.1, V.int p.2)) a).getD (.int (-1)) = .int ((lk d a).getD (-1)) := by
 rw [dget_DI]; cases lk d a <;> rfl
theorem c_are_opposite {k : Nat} {a b : Int} {d : ID} (h : H[k]? = some (DI d)) (q : Q (.bool (oppI d a b)) H) : f_are_opposite [.ref k, .int a, .int b] H Q := by
 unfold f_are_opposite bw_are_opposite
 simp only [df3, ↓vf9, Nat.reduceSub, rp0, zk40, zk37, zk94, nm0, zk95, nm1, zk96, neg_const_p, zk97, zk38, nm2, zk39]
 refine ⟨_, h, _, _, rfl, h, ?_⟩
 rw [dg]
 simp only [cmp_eqi, zk41, tru_bool, zk42, zk11, zk2, zk37, zk94, nm0, zk95, nm2, zk96, neg_const_p, zk97, zk38, nm1, zk39]
 unfold oppI at q
 by_cases h1 : ((lk d a).getD (-1) == b) = true
 ·rw [h1] at q ⊢; rw [if_pos rfl]; exact q
 ·rw [Bool.not_eq_true] at h1
  rw [h1] at q ⊢; rw [if_neg (by decide)]
  refine ⟨_, h, _, _, rfl, h, ?_⟩
  rw [dg]
  simp only [cmp_eqi, zk11, zk2]
  exact q
noncomputable def tabOf : V → Nat
 | .int t => t.toNat
 | .tup [_, .int t] => t.toNat
 | _ => 0
theorem tab_i {t : Nat} : tabOf (.int (t : Nat)) = t := rfl
theorem tab_c {t : Nat} : tabOf (.tup [.str "C", .int (t : Nat)]) = t := rfl
inductive Good : String → List Int → V → Prop
 | g2 {k : String} {a b : Int} : k ∈ ["and", "or", "xor", "nand", "nor", "xnor"] → Good k [a, b] .none
 | mux {s a b : Int} : Good "mux" [s, a, b] .none
 | buf {a : Int} : Good "buf" [a] .none
 | not {a : Int} : Good "not" [a] .none
 | lut {ins : List Int} {t : Nat} : ins.length ≤ 3 → Good "lut" ins (.int (t : Nat))
 | cell {ins : List Int} {t : Nat} : ins.length ≤ 3 → Good "cell" ins (.tup [.str "C", .int (t : Nat)])
noncomputable def libForm (ins : List Int) (param : V) : Form3 := let f := tableForm (tabOf param) ins; if f.1 = "lut" then ("cell", ins, param) else (f.1, f.2.1, .none)
noncomputable def stage1 (kind : String) (ins : List Int) (param : V) (inv : ID) : Form3 :=
 if kind = "lut" then tableForm (tabOf param) ins else if kind = "cell" then libForm ins param
 else if kind = "mux" then (let f := selectForm (ins.getD 0 0) (ins.getD 1 0) (ins.getD 2 0); (f.1, f.2, .none))
 else if ins.length = 2 then (let f := gateForm kind (ins.getD 0 0) (ins.getD 1 0) (oppI inv (ins.getD 0 0) (ins.getD 1 0)); (f.1, f.2, .none))
 else (kind, ins, .none)
noncomputable def stage2 (f : Form3) (inv : ID) : Form3 :=
 if f.1 = "not" then (if f.2.1.headD 0 = 0 ∨ f.2.1.headD 0 = 1 then ("buf", [1 - f.2.1.headD 0], .none) else match lk inv (f.2.1.headD 0) with | some b => ("buf", [b], .none) | none => f) else f
noncomputable def simpleForm (kind : String) (ins : List Int) (param : V) (inv : ID) : Form3 := stage2 (stage1 kind ins param inv) inv
theorem c_library_form {t : Nat} {ins : List Int} (hi : ins.length ≤ 3) (hn : ∀ n ∈ ins, 0 ≤ n) (q : ∀ H', Keep H H' → Q (tfV (libForm ins (.tup [.str "C", .int (t : Nat)]))) H') :
  f_library_form [.tup (ins.map V.int), .tup [.str "C", .int (t : Nat)]] H Q := by
 unfold f_library_form bw_library_form
 simp only [df2, ↓vf7, Nat.reduceSub, rp4, zk55, zk52, ↓sn1, constW_p, zk59, get_t1, zk53, ↓cn0, nilW_p, ↓vf6, zk56]
 refine c_table_form hi hn fun H' hK => ?_
 have q' := q H' hK
 unfold libForm at q'
 have e : tabOf (.tup [.str "C", .int (t : Nat)]) = t := rfl
 rw [e] at q'
 generalize tableForm t ins = f at *
 obtain ⟨k, i, p⟩ := f
 unfold tfV
 simp only [ktup, tupA_p, List.length_cons, List.length_nil, Nat.zero_add, Nat.reduceAdd, zk69, na2, zk70, na3, na4, nilAs_p, ↓vf12, ↓vf8, ↓tn2, constW_p, ↓vf21, zk9, beq_iff_eq, ↓vf9, zk48, ↓vf22, ↓cn0, ↓cn1, nilW_p, ↓vf6, zk54, zk49, Nat.reduceLeDiff, zk11, zk6, zk2, true_and, nextBW_p, zk5, ↓cn2, ↓cn3]
 by_cases h : k = "lut"
 ·rw [if_pos h]; simp only [h, if_true] at q'; exact q'
 ·rw [if_neg h]; simp only [h, if_false] at q'; exact q'
noncomputable def simpTail : BW := (seqBW (ifBW (cmpTW .Eq (nameW 3) (constW (.str "not"))) (seqBW (ifBW (orTW (cmpTW .Eq (subW (nameW 1) (constW (.int 0))) (constW (.int 0))) (orTW (cmpTW .Eq (subW (nameW 1) (constW (.int 0))) (constW (.int 1))) (trueTW false))) (seqBW (retBW (tupW (consW (constW (.str "buf")) (consW (tupW (consW (binW .Sub (constW (.int 1)) (subW (nameW 1) (constW (.int 0)))) (nilW))) (consW (constW .none) (nilW)))))) (nextBW)) (nextBW)) (seqBW (ifBW (cmpTW .In (subW (nameW 1) (constW (.int 0))) (nameW 2)) (seqBW (retBW (tupW (consW (constW (.str "buf")) (consW (tupW (consW (subW (nameW 2) (subW (nameW 1) (constW (.int 0)))) (nilW))) (consW (constW .none) (nilW)))))) (nextBW)) (nextBW)) (nextBW))) (nextBW)) (seqBW (retBW (tupW (consW (nameW 3) (consW (nameW 1) (consW (nameW 4) (nilW)))))) (nextBW)))
theorem stage2_eq {k : String} {a : Int} {t : List Int} {p : V} {inv : ID} : stage2 (k, a :: t, p) inv = if k = "not" then (if a = 0 ∨ a = 1 then ("buf", [1 - a], .none) else match lk inv a with | some b => ("buf", [b], .none) | none => (k, a :: t, p)) else (k, a :: t, p) := rfl
theorem c_tail {B : Fl → Rho → List AO → Prop} {f : Form3} {ki : Nat} {inv : ID} {c : Option V} {r : Rho} (h : H[ki]? = some (DI inv)) (hf : f.1 = "not" → ∃ a r, f.2.1 = a :: r)
  (q : ∀ ρ, B (.ret (tfV (stage2 f inv))) ρ H) :
  simpTail (c :: some (.tup (f.2.1.map V.int)) :: some (.ref ki) :: some (.str f.1) :: some f.2.2 :: r) H B := by
 obtain ⟨k, i, p⟩ := f
 unfold simpTail
 simp only [↓vf8, ↓tn3, constW_p, ↓vf21, zk9, beq_iff_eq, zk21, zk27, ↓sn1, zk59, nextBW_p, zk5, ↓vf9, zk48, ↓cn3, ↓cn1, ↓cn4, nilW_p, ↓vf6, zk54, zk49, List.length_cons, List.length_nil, Nat.zero_add, Nat.reduceAdd, Nat.reduceLeDiff, zk11, true_and]
 by_cases h1 : k = "not"
 ·obtain ⟨a, t, e⟩ := hf h1
  simp only at e
  subst e
  rw [stage2_eq, if_pos h1] at q
  rw [if_pos h1]
  simp only [List.map_cons, get_t0, ↓vf1, ↓vf15, zk22, beq_iff_eq, zk9, ↓reduceIte, ↓vf9, zk48, ↓vf22, zk52, zk62, constW_p, zk63, ↓sn1, zk59, zk64, bin_sub, ↓vf5, zk49, List.length_cons, List.length_nil, Nat.zero_add, Nat.reduceLeDiff, zk53, nilW_p, ↓vf6, zk54, Nat.reduceAdd, zk11, zk6, true_and, zk21, zk27, trueTW_p, Bool.false_eq_true, nextBW_p, zk5, ↓vf8, zk28, nm2, zk29]
  by_cases h2 : a = 0
  ·rw [if_pos (Or.inl h2)] at q; rw [if_pos h2]; exact q _
  rw [if_neg h2]
  by_cases h3 : a = 1
  ·rw [if_pos (Or.inr h3)] at q; rw [if_pos h3]; exact q _
  rw [if_neg h3]
  rw [if_neg (fun h => h.elim h2 h3)] at q
  refine in_DI h ?_
  simp only [↓vf14, zk9, ↓vf9, zk48, ↓vf22, zk52, ↓sn2, ↓sn1, constW_p, zk59, get_t0, nextBW_p, zk5, ↓cn3, ↓cn1, ↓cn4, nilW_p, ↓vf6, zk54, zk49, List.length_cons, List.length_nil, Nat.zero_add, Nat.reduceAdd, Nat.reduceLeDiff, zk11, true_and]
  cases hl : lk inv a with
  | none =>
   rw [hl] at q
   simp only [Option.isSome_none, Bool.false_eq_true, if_false]
   exact q _
  | some b =>
   rw [hl] at q
   simp only [Option.isSome_some, if_true]
   rw [get_DI h hl]
   simp only [↓vf5, zk49, List.length_cons, List.length_nil, Nat.zero_add, Nat.reduceLeDiff, zk53, ↓vf22, nilW_p, ↓vf6, zk54, Nat.reduceAdd, zk11, zk6, true_and]
   exact q _
 ·unfold stage2 at q
  rw [if_neg h1] at q ⊢
  exact q _
noncomputable def chainBW : BW := (ifBW (cmpTW .Eq (nameW 3) (constW (.str "lut"))) (seqBW (asgBW (callW (consW (subW (nameW 0) (constW (.int 3))) (consW (nameW 1) (nilW))) f_table_form) (tupA 3 (consAs (nameA 3) (consAs (nameA 1) (consAs (nameA 4) (nilAs)))))) (nextBW)) (seqBW (ifBW (cmpTW .Eq (nameW 3) (constW (.str "cell"))) (seqBW (asgBW (callW (consW (nameW 1) (consW (subW (nameW 0) (constW (.int 3))) (nilW))) f_library_form) (tupA 3 (consAs (nameA 3) (consAs (nameA 1) (consAs (nameA 4) (nilAs)))))) (nextBW)) (seqBW (ifBW (cmpTW .Eq (nameW 3) (constW (.str "mux"))) (seqBW (asgBW (callW (consW (subW (nameW 1) (constW (.int 0))) (consW (subW (nameW 1) (constW (.int 1))) (consW (subW (nameW 1) (constW (.int 2))) (nilW)))) f_select_form) (tupA 2 (consAs (nameA 3) (consAs (nameA 1) (nilAs))))) (nextBW)) (seqBW (ifBW (cmpTW .Eq (callW (consW (nameW 1) (nilW)) lenF) (constW (.int 2))) (seqBW (asgBW (callW (consW (nameW 3) (consW (subW (nameW 1) (constW (.int 0))) (consW (subW (nameW 1) (constW (.int 1))) (consW (callW (consW (nameW 2) (consW (subW (nameW 1) (constW (.int 0))) (consW (subW (nameW 1) (constW (.int 1))) (nilW)))) f_are_opposite) (nilW))))) f_gate_form) (tupA 2 (consAs (nameA 3) (consAs (nameA 1) (nilAs))))) (nextBW)) (nextBW)) (nextBW))) (nextBW))) (nextBW)))
theorem simple_eq : bw_simple_form = seqBW (asgBW (subW (nameW 0) (constW (.int 0))) (nameA 3)) (seqBW (asgBW (constW .none) (nameA 4)) (seqBW chainBW simpTail)) := rfl
theorem sq {p q : BW} {ρ : Rho} {B : Fl → Rho → List AO → Prop} (h : p ρ H (kSeq q B)) : seqBW p q ρ H B := by simp only [zk4_]; exact h
theorem if3y {kind s : String} {p q : BW} {o0 o1 o2 : Option V} {ρ : Rho} {B : Fl → Rho → List AO → Prop} (h1 : (kind == s) = true) (h : p (o0 :: o1 :: o2 :: some (.str kind) :: ρ) H B) : ifBW (cmpTW .Eq (nameW 3) (constW (.str s))) p q (o0 :: o1 :: o2 :: some (.str kind) :: ρ) H B := by
 simp only [zk8, ↓tn3, constW_p, ↓vf21, h1, zk9, ↓reduceIte]; exact h
theorem if3n {kind s : String} {p q : BW} {o0 o1 o2 : Option V} {ρ : Rho} {B : Fl → Rho → List AO → Prop} (h1 : (kind == s) = false) (h : q (o0 :: o1 :: o2 :: some (.str kind) :: ρ) H B) : ifBW (cmpTW .Eq (nameW 3) (constW (.str s))) p q (o0 :: o1 :: o2 :: some (.str kind) :: ρ) H B := by
 simp only [zk8, ↓tn3, constW_p, ↓vf21, h1, zk9, Bool.false_eq_true, ↓reduceIte]; exact h
theorem notForm {t : List Int} {s : Nat} {f : Form3} (h : f = tableForm s t) (hk : f.1 = "not") : ∃ a r, f.2.1 = a :: r := by
 subst h
 unfold tableForm at hk ⊢
 simp only at hk ⊢
 split at hk
 ·next h0 => rw [if_pos h0]; exact ⟨_, _, rfl⟩
 ·next h0 =>
  rw [if_neg h0]
  split at hk
  ·next h1 =>
   rw [if_pos h1]
   obtain ⟨a, e⟩ := List.length_eq_one_iff.mp h1
   exact ⟨a, [], e⟩
  ·next h1 => simp at hk
theorem c_simple_form {kind : String} {out : V} {ins : List Int} {param : V} {ki : Nat} {inv : ID} {iv : V} (hg : Good kind ins param) (hn : ∀ n ∈ ins, 0 ≤ n) (h : H[ki]? = some (DI inv))
  (q : ∀ H', Keep H H' → Q (tfV (simpleForm kind ins param inv)) H') : f_simple_form [.tup [.str kind, out, iv, param], .tup (ins.map V.int), .ref ki] H Q := by
 unfold f_simple_form
 rw [simple_eq]
 unfold simpleForm at q
 simp only [df3, ↓vf7, ↓sn0, Nat.reduceSub, rp8, constW_p, zk59, get_t0, ka3, ka4, zk4_]
 unfold chainBW
 cases hg with
 | @g2 k a b hk =>
  have e : stage1 kind [a, b] .none inv = ((gateForm kind a b (oppI inv a b)).1, (gateForm kind a b (oppI inv a b)).2, V.none) := by
   have h1 : kind ≠ "lut" := by rintro rfl; simp at hk
   have h2 : kind ≠ "cell" := by rintro rfl; simp at hk
   have h3 : kind ≠ "mux" := by rintro rfl; simp at hk
   unfold stage1; rw [if_neg h1, if_neg h2, if_neg h3]; rfl
  have h1 : (kind == "lut") = false := by rw [beq_eq_false_iff_ne]; rintro rfl; simp at hk
  have h2 : (kind == "cell") = false := by rw [beq_eq_false_iff_ne]; rintro rfl; simp at hk
  have h3 : (kind == "mux") = false := by rw [beq_eq_false_iff_ne]; rintro rfl; simp at hk
  refine if3n h1 (sq (if3n h2 (sq (if3n h3 (sq ?_)))))
  simp only [List.map_cons, List.map_nil, zk8, zk27, zk55, ↓cn1, nilW_p, zk54, zk56, lenF_tup, List.length_cons, List.length_nil, Nat.zero_add, Nat.reduceAdd, Nat.reduceLeDiff, ↓vf1, ↓vf15, zk9, ↓vf7, ↓cn3, zk52, ↓sn1, constW_p, zk59, get_t0, zk53, get_t1, ↓cn2, ↓vf5, ↓vf6, nextBW_p, zk5, true_and]
  rw [if_pos (by rfl)]
  refine c_are_opposite h ?_
  refine c_gate_form ?_
  unfold formV
  simp only [ktup, tupA_p, List.length_cons, List.length_nil, Nat.zero_add, Nat.reduceAdd, zk69, na3, zk70, na1, nilAs_p, ↓vf12, nextBW_p, zk5, true_and]
  rw [e] at q
  refine c_tail (f := ((gateForm kind a b (oppI inv a b)).1, (gateForm kind a b (oppI inv a b)).2, V.none)) h ?_ fun ρ => q H (.refl H)
  intro hf
  have : ∃ k i r, gateForm kind a b (oppI inv a b) = (k, i :: r) := gate_ne
  obtain ⟨k, i, r, e⟩ := this
  exact ⟨i, r, by rw [e]⟩
 | @mux s a b =>
  have e : stage1 "mux" [s, a, b] .none inv = ((selectForm s a b).1, (selectForm s a b).2, V.none) := rfl
  refine if3n rfl (sq (if3n rfl (sq (if3y rfl ?_))))
  simp only [↓vf7, List.map_cons, List.map_nil, zk55, zk52, ↓sn1, constW_p, zk59, get_t0, zk53, get_t1, get_t2, ↓vf5, ↓vf6, zk56]
  refine c_select_form ?_
  unfold formV
  simp only [ktup, tupA_p, List.length_cons, List.length_nil, Nat.zero_add, Nat.reduceAdd, zk69, na3, zk70, na1, nilAs_p, ↓vf12, nextBW_p, zk5, true_and]
  rw [e] at q
  refine c_tail (f := ((selectForm s a b).1, (selectForm s a b).2, V.none)) h ?_ fun ρ => q H (.refl H)
  intro _
  exact p_ite (P := fun f : Form => ∃ a r, f.2 = a :: r) ⟨_, _, rfl⟩ (p_ite (P := fun f : Form => ∃ a r, f.2 = a :: r) ⟨_, _, rfl⟩ (p_ite (P := fun f : Form => ∃ a r, f.2 = a :: r) ⟨_, _, rfl⟩ (p_ite (P := fun f : Form => ∃ a r, f.2 = a :: r) ⟨_, _, rfl⟩ ⟨_, _, rfl⟩)))
 | @buf a =>
  refine if3n rfl (sq (if3n rfl (sq (if3n rfl (sq ?_)))))
  simp only [List.map_cons, List.map_nil, zk8, zk27, zk55, ↓cn1, nilW_p, zk54, zk56, lenF_tup, List.length_cons, List.length_nil, Nat.zero_add, Nat.reduceLeDiff, ↓vf1, ↓vf15, zk9, ↓vf7, ↓cn3, zk52, ↓sn1, constW_p, zk59, get_t0, zk53, nextBW_p, zk5, true_and]
  rw [if_neg (by decide)]
  exact c_tail (f := ("buf", [a], V.none)) h (fun _ => ⟨_, _, rfl⟩) fun ρ => q H (.refl H)
 | @not a =>
  refine if3n rfl (sq (if3n rfl (sq (if3n rfl (sq ?_)))))
  simp only [List.map_cons, List.map_nil, zk8, zk27, zk55, ↓cn1, nilW_p, zk54, zk56, lenF_tup, List.length_cons, List.length_nil, Nat.zero_add, Nat.reduceLeDiff, ↓vf1, ↓vf15, zk9, ↓vf7, ↓cn3, zk52, ↓sn1, constW_p, zk59, get_t0, zk53, nextBW_p, zk5, true_and]
  rw [if_neg (by decide)]
  exact c_tail (f := ("not", [a], V.none)) h (fun _ => ⟨_, _, rfl⟩) fun ρ => q H (.refl H)
 | @lut ins t hl =>
  have e : stage1 "lut" ins (.int (t : Nat)) inv = tableForm t ins := by unfold stage1; rw [if_pos rfl]; rfl
  rw [e] at q
  refine if3y rfl ?_
  simp only [↓vf7, zk55, zk52, ↓sn0, constW_p, zk59, get_t3, zk53, ↓cn1, nilW_p, ↓vf6, zk56]
  refine c_table_form hl hn fun H' hK => ?_
  generalize hf : tableForm t ins = f at *
  unfold tfV
  simp only [ktup, tupA_p, List.length_cons, List.length_nil, Nat.zero_add, Nat.reduceAdd, zk69, na3, zk70, na1, na4, nilAs_p, ↓vf12, nextBW_p, zk5, true_and]
  exact c_tail (f := f) (hK _ _ h) (notForm hf.symm) fun ρ => q H' hK
 | @cell ins t hl =>
  have e : stage1 "cell" ins (.tup [.str "C", .int (t : Nat)]) inv = libForm ins (.tup [.str "C", .int (t : Nat)]) := by unfold stage1; rw [if_neg (by decide), if_pos rfl]
  rw [e] at q
  refine if3n rfl (sq (if3y rfl ?_))
  simp only [↓vf7, zk55, ↓cn1, zk52, ↓sn0, constW_p, zk59, get_t3, ↓vf5, zk54, zk56]
  refine c_library_form hl hn fun H' hK => ?_
  generalize hf : libForm ins (.tup [.str "C", .int (t : Nat)]) = f at *
  unfold tfV
  simp only [ktup, tupA_p, List.length_cons, List.length_nil, Nat.zero_add, Nat.reduceAdd, zk69, na3, zk70, na1, na4, nilAs_p, ↓vf12, nextBW_p, zk5, true_and]
  refine c_tail (f := f) (hK _ _ h) ?_ fun ρ => q H' hK
  intro h1
  unfold libForm at hf
  have et : tabOf (.tup [.str "C", .int (t : Nat)]) = t := rfl
  rw [et] at hf
  have hn := notForm (f := tableForm t ins) rfl
  simp only at hf
  split at hf
  ·subst hf; simp at h1
  ·subst hf; exact hn h1
end
end Mine
end
section
open PySem
set_option maxRecDepth 100000
namespace Mine
noncomputable def rowB (bs : List Bool) : Nat := rowNum (bs.map Bool.toNat)
noncomputable def evT (t : Nat) (bs : List Bool) : Bool := t.testBit (rowB bs)
noncomputable def evK (kind : String) (param : V) (bs : List Bool) : Bool :=
 if kind = "lut" ∨ kind = "cell" then evT (tabOf param) bs
 else if kind = "buf" then bs.getD 0 false
 else if kind = "not" then !bs.getD 0 false
 else if kind = "mux" then (bs.getD 0 false && bs.getD 2 false) || (!bs.getD 0 false && bs.getD 1 false)
 else if kind = "and" then bs.getD 0 false && bs.getD 1 false
 else if kind = "nand" then !(bs.getD 0 false && bs.getD 1 false)
 else if kind = "or" then bs.getD 0 false || bs.getD 1 false
 else if kind = "nor" then !(bs.getD 0 false || bs.getD 1 false)
 else if kind = "xor" then bs.getD 0 false ^^ bs.getD 1 false
 else !(bs.getD 0 false ^^ bs.getD 1 false)
noncomputable def ev3 (β : Int → Bool) (f : Form3) : Bool := evK f.1 f.2.2 (f.2.1.map β)
noncomputable def evF (β : Int → Bool) (f : Form) : Bool := evK f.1 .none (f.2.map β)
inductive Base : Form → Prop
 | buf (x : Int) : Base ("buf", [x])
 | not (x : Int) : Base ("not", [x])
 | and (x y : Int) : Base ("and", [x, y])
 | or (x y : Int) : Base ("or", [x, y])
 | xor (x y : Int) : Base ("xor", [x, y])
section
variable {β : Int → Bool} {a b s : Int} {o : Bool} {f : Form}
theorem Base.good (h : Base f) : Good f.1 f.2 .none := by
 cases h
 ·exact .buf
 ·exact .not
 ·exact Good.g2 (k := "and") (by decide)
 ·exact Good.g2 (k := "or") (by decide)
 ·exact Good.g2 (k := "xor") (by decide)
theorem and_base : Base (andForm a b o) := by unfold andForm; (repeat' split) <;> constructor
theorem or_base : Base (orForm a b o) := by unfold orForm; (repeat' split) <;> constructor
theorem xor_base : Base (xorForm a b o) := by unfold xorForm; (repeat' split) <;> constructor
theorem and_sub : ∀ n ∈ (andForm a b o).2, n = 0 ∨ n = 1 ∨ n = a ∨ n = b := by unfold andForm; (repeat' split) <;> simp
theorem or_sub : ∀ n ∈ (orForm a b o).2, n = 0 ∨ n = 1 ∨ n = a ∨ n = b := by unfold orForm; (repeat' split) <;> simp
theorem xor_sub : ∀ n ∈ (xorForm a b o).2, n = 0 ∨ n = 1 ∨ n = a ∨ n = b := by unfold xorForm; (repeat' split) <;> simp
noncomputable def IsC (f : Form) : Prop := ∃ x : Int, (x = 0 ∨ x = 1) ∧ f = ("buf", [x])
theorem and_const (ha : a = 0 ∨ a = 1) (hb : b = 0 ∨ b = 1) : IsC (andForm a b o) := by
 unfold IsC andForm; rcases ha with rfl | rfl <;> rcases hb with rfl | rfl <;> cases o <;> simp
theorem or_const (ha : a = 0 ∨ a = 1) (hb : b = 0 ∨ b = 1) : IsC (orForm a b o) := by
 unfold IsC orForm; rcases ha with rfl | rfl <;> rcases hb with rfl | rfl <;> cases o <;> simp
theorem xor_const (ha : a = 0 ∨ a = 1) (hb : b = 0 ∨ b = 1) : IsC (xorForm a b o) := by
 unfold IsC xorForm; rcases ha with rfl | rfl <;> rcases hb with rfl | rfl <;> cases o <;> simp
section
variable (h0 : β 0 = false) (h1 : β 1 = true)
include h0 h1
theorem and_ev (ho : o = true → β a = !β b) : evF β (andForm a b o) = (β a && β b) := by
 unfold andForm evF
 split
 ·next h =>
  rcases h with rfl | rfl | h
  ·simp [evK, h0]
  ·simp [evK, h0]
  ·simp [evK, h0, ho h]
 split
 ·next h =>
  rcases h with rfl | rfl
  ·simp [evK, h1]
  ·simp [evK]
 split
 ·next h => subst h; simp [evK, h1]
 ·simp [evK]
theorem or_ev (ho : o = true → β a = !β b) : evF β (orForm a b o) = (β a || β b) := by
 unfold orForm evF
 split
 ·next h =>
  rcases h with rfl | rfl | h
  ·simp [evK, h1]
  ·simp [evK, h1]
  ·simp [evK, h1, ho h]
 split
 ·next h =>
  rcases h with rfl | rfl
  ·simp [evK, h0]
  ·simp [evK]
 split
 ·next h => subst h; simp [evK, h0]
 ·simp [evK]
theorem xor_ev (ho : o = true → β a = !β b) : evF β (xorForm a b o) = (β a ^^ β b) := by
 unfold xorForm evF
 split
 ·next h => subst h; simp [evK, h0]
 split
 ·next h => simp [evK, h1, ho h]
 split
 ·next h => subst h; simp [evK, h0]
 split
 ·next h => subst h; simp [evK, h0]
 split
 ·next h => subst h; simp [evK, h1]
 split
 ·next h => subst h; simp [evK, h1]
 ·simp [evK]
theorem select_ev : evF β (selectForm s a b) = ((β s && β b) || (!β s && β a)) := by
 unfold selectForm evF
 split
 ·next h =>
  rcases h with rfl | rfl
  ·simp [evK, h0]
  ·simp [evK]; cases β s <;> simp
 split
 ·next h => subst h; simp [evK, h1]
 split
 ·next h => obtain ⟨rfl, rfl⟩ := h; simp [evK, h0, h1]
 split
 ·next h => obtain ⟨rfl, rfl⟩ := h; simp [evK, h0, h1]
 ·simp [evK]
theorem turned_ev (h : Base f) : evF β (turnedForm f) = !evF β f := by
 cases h with
 | buf x =>
  rw [turned_eq]
  rw [if_pos rfl]
  split
  ·next h => rcases h with rfl | rfl <;> simp [evF, evK, h0, h1]
  ·simp [evF, evK]
 | not x => simp [turnedForm, evF, evK]
 | and x y => simp [turnedForm, evF, evK]
 | or x y => simp [turnedForm, evF, evK]
 | xor x y => simp [turnedForm, evF, evK]
end
theorem turned_good (h : Base f) : Good (turnedForm f).1 (turnedForm f).2 .none := by
 cases h with
 | buf x =>
  rw [turned_eq, if_pos rfl]
  split
  ·exact .buf
  ·exact .not
 | not x => exact .buf
 | and x y => exact Good.g2 (k := "nand") (by decide)
 | or x y => exact Good.g2 (k := "nor") (by decide)
 | xor x y => exact Good.g2 (k := "xnor") (by decide)
theorem turned_sub (h : Base f) : ∀ n ∈ (turnedForm f).2, n = 0 ∨ n = 1 ∨ n ∈ f.2 := by
 cases h with
 | buf x =>
  rw [turned_eq, if_pos rfl]
  split
  ·next h => rcases h with rfl | rfl <;> simp
  ·simp
 | not x => simp [turnedForm]
 | and x y => simp only [turnedForm]; intro n hn; exact .inr (.inr hn)
 | or x y => simp only [turnedForm]; intro n hn; exact .inr (.inr hn)
 | xor x y => simp only [turnedForm]; intro n hn; exact .inr (.inr hn)
theorem turned_const (h : IsC f) : IsC (turnedForm f) := by
 obtain ⟨x, hx, rfl⟩ := h
 rcases hx with rfl | rfl <;> simp [turnedForm, IsC]
theorem select_good : Good (selectForm s a b).1 (selectForm s a b).2 .none := by
 unfold selectForm; repeat' split
 ·exact .buf
 ·exact .buf
 ·exact .buf
 ·exact .not
 ·exact .mux
theorem select_sub : ∀ n ∈ (selectForm s a b).2, n = s ∨ n = a ∨ n = b := by unfold selectForm; (repeat' split) <;> simp
theorem select_const (hs : s = 0 ∨ s = 1) (ha : a = 0 ∨ a = 1) (hb : b = 0 ∨ b = 1) : IsC (selectForm s a b) := by
 unfold IsC selectForm; rcases hs with rfl | rfl <;> rcases ha with rfl | rfl <;> rcases hb with rfl | rfl <;> simp
theorem gate_good {k : String} : Good (gateForm k a b o).1 (gateForm k a b o).2 .none := by
 unfold gateForm
 split; exact and_base.good
 split; exact turned_good and_base
 split; exact or_base.good
 split; exact turned_good or_base
 split; exact xor_base.good
 exact turned_good xor_base
theorem gate_sub {k : String} : ∀ n ∈ (gateForm k a b o).2, n = 0 ∨ n = 1 ∨ n = a ∨ n = b := by
 have ht : ∀ {f : Form}, Base f → (∀ n ∈ f.2, n = 0 ∨ n = 1 ∨ n = a ∨ n = b) → ∀ n ∈ (turnedForm f).2, n = 0 ∨ n = 1 ∨ n = a ∨ n = b := fun hb h n hn => by
  rcases turned_sub hb n hn with h' | h' | h'
  ·exact .inl h'
  ·exact .inr (.inl h')
  ·exact h n h'
 unfold gateForm
 split; exact and_sub
 split; exact ht and_base and_sub
 split; exact or_sub
 split; exact ht or_base or_sub
 split; exact xor_sub
 exact ht xor_base xor_sub
theorem gate_const {k : String} (ha : a = 0 ∨ a = 1) (hb : b = 0 ∨ b = 1) : IsC (gateForm k a b o) := by
 unfold gateForm
 split; exact and_const ha hb
 split; exact turned_const (and_const ha hb)
 split; exact or_const ha hb
 split; exact turned_const (or_const ha hb)
 split; exact xor_const ha hb
 exact turned_const (xor_const ha hb)
theorem gate_ev {k : String} (h0 : β 0 = false) (h1 : β 1 = true) (ho : o = true → β a = !β b) (hk : k ∈ ["and", "or", "xor", "nand", "nor", "xnor"]) : evF β (gateForm k a b o) = evK k .none [β a, β b] := by
 unfold gateForm
 simp only [List.mem_cons, List.not_mem_nil, or_false] at hk
 rcases hk with rfl | rfl | rfl | rfl | rfl | rfl
 ·rw [if_pos rfl, and_ev h0 h1 ho]; simp [evK]
 ·rw [if_neg (by decide), if_neg (by decide), if_pos rfl, or_ev h0 h1 ho]; simp [evK]
 ·rw [if_neg (by decide), if_neg (by decide), if_neg (by decide), if_neg (by decide), if_pos rfl, xor_ev h0 h1 ho]; simp [evK]
 ·rw [if_neg (by decide), if_pos rfl, turned_ev h0 h1 and_base, and_ev h0 h1 ho]; simp [evK]
 ·rw [if_neg (by decide), if_neg (by decide), if_neg (by decide), if_pos rfl, turned_ev h0 h1 or_base, or_ev h0 h1 ho]; simp [evK]
 ·rw [if_neg (by decide), if_neg (by decide), if_neg (by decide), if_neg (by decide), if_neg (by decide), turned_ev h0 h1 xor_base, xor_ev h0 h1 ho]; simp [evK]
end
theorem rowNum_lt (l : List Nat) : rowNum l < 2 ^ l.length := by
 induction l with
 | nil => decide
 | cons a r ih => rw [rowNum, List.length_cons, Nat.pow_succ]; split <;> lia
theorem rowNum_bit (l : List Nat) (i : Nat) : (rowNum l).testBit i = (l.getD i 0 != 0) := by
 induction l generalizing i with
 | nil => simp [rowNum]
 | cons a r ih =>
  cases i with
  | zero =>
   rw [Nat.testBit_zero, rowNum, List.getD_cons_zero]
   by_cases h : a = 0
   ·simp [h]
   ·rw [if_neg h]; simp [h]
  | succ i =>
   rw [Nat.testBit_succ, List.getD_cons_succ, ← ih, rowNum]
   congr 1
   split <;> lia
theorem bitNat (x i : Nat) : x >>> i &&& 1 = (x.testBit i).toNat := by
 rw [Nat.toNat_testBit, Nat.and_one_is_mod, Nat.shiftRight_eq_div_pow]
section
variable {β : Int → Bool}
theorem row_bit (ks : List Int) {i : Nat} (h : i < ks.length) : (rowB (ks.map β)) >>> i &&& 1 = (β ks[i]).toNat := by
 rw [bitNat]; unfold rowB
 rw [rowNum_bit, List.getD_eq_getElem?_getD, List.getElem?_map, List.getElem?_map, List.getElem?_eq_getElem h]
 cases hb : β ks[i] <;> simp [hb]
theorem proj_row (ks : List Int) : ∀ ps : List Nat, (∀ p ∈ ps, p < ks.length) → projT (rowB (ks.map β)) ps = rowB ((placeNets ks ps).map β)
 | [], _ => rfl
 | p :: r, h => by
  have hp := h p (.head _)
  unfold projT
  rw [row_bit ks hp, proj_row ks r (fun q hq => h q (.tail _ hq))]
  have : (placeNets ks (p :: r)) = ks[p] :: placeNets ks r := by
   unfold placeNets
   rw [List.map_cons, List.getD_eq_getElem?_getD, List.getElem?_eq_getElem hp]; rfl
  rw [this, List.map_cons]
  show _ = rowNum ((β ks[p]).toNat :: (((placeNets ks r).map β).map Bool.toNat))
  rw [rowNum]
  cases β ks[p] <;> rfl
theorem over_bit (h0 : β 0 = false) (h1 : β 1 = true) {t : Nat} {ins : List Int} (hn : ∀ n ∈ ins, 0 ≤ n) :
  (overT t ins (keptOf ins)).testBit (rowB ((keptOf ins).map β)) = evT t (ins.map β) := by
 have hlt : rowB ((keptOf ins).map β) < 1 <<< (keptOf ins).length := by
  have := rowNum_lt (((keptOf ins).map β).map Bool.toNat)
  rw [Nat.shiftLeft_eq, Nat.one_mul]; simpa [rowB] using this
 rw [overT_sum, (sumB_spec _ _).2, decide_eq_true hlt, Bool.true_and]
 unfold evT
 congr 1
 show _ = rowNum _
 congr 1
 rw [List.map_map]
 apply List.map_congr_left
 intro n hm
 show tbit _ _ n = (β n).toNat
 unfold tbit
 by_cases c0 : n = 0
 ·rw [if_pos c0, c0, h0]; rfl
 rw [if_neg c0]
 by_cases c1 : n = 1
 ·rw [if_pos c1, c1, h1]; rfl
 rw [if_neg c1]
 have hk := (keptOf_facts _ ins rfl).2.2.2 n hm (by have := hn n hm; lia)
 have hi := List.idxOf_lt_length_of_mem hk
 rw [row_bit _ hi, List.getElem_idxOf hi]
theorem place_len (ks : List Int) (ps : List Nat) : (placeNets ks ps).length = ps.length := by unfold placeNets; rw [List.length_map]
theorem place_sub {ks : List Int} {ps : List Nat} (h : ∀ p ∈ ps, p < ks.length) : ∀ n ∈ placeNets ks ps, n ∈ ks := by
 intro n hn
 unfold placeNets at hn
 obtain ⟨p, hp, rfl⟩ := List.mem_map.mp hn
 rw [List.getD_eq_getElem?_getD, List.getElem?_eq_getElem (h p hp)]
 exact List.getElem_mem _
theorem and1 (x : Nat) : ((x &&& 1 : Nat) : Int) = 0 ∨ ((x &&& 1 : Nat) : Int) = 1 := by
 have := bit_le x; lia
theorem table_spec {t : Nat} {ins : List Int} (hl : ins.length ≤ 3) (hn : ∀ n ∈ ins, 0 ≤ n) :
  Good (tableForm t ins).1 (tableForm t ins).2.1 (tableForm t ins).2.2 ∧ (∀ n ∈ (tableForm t ins).2.1, n = 0 ∨ n = 1 ∨ n ∈ ins) ∧
  (β 0 = false → β 1 = true → ev3 β (tableForm t ins) = evT t (ins.map β)) ∧
  ((∀ n ∈ ins, n = 0 ∨ n = 1) → ∃ x : Int, (x = 0 ∨ x = 1) ∧ tableForm t ins = ("buf", [x], .none)) := by
 obtain ⟨f1, f2, f3, f4⟩ := keptOf_facts _ ins rfl
 have hov := overT_lt (t := t) (ins := ins) (ks := keptOf ins)
 have hsh := shr_spec (k := (keptOf ins).length) (by exact om8 f1 hl rfl) hov
 have hps : ∀ p ∈ supT (overT t ins (keptOf ins)) (keptOf ins).length, p < (keptOf ins).length := fun p hp => supT_lt hp
 have hpl := place_len (keptOf ins) (supT (overT t ins (keptOf ins)) (keptOf ins).length)
 have hsub := place_sub hps
 have hle := supT_le (t := overT t ins (keptOf ins)) (k := (keptOf ins).length)
 have hev : β 0 = false → β 1 = true → (shrT (overT t ins (keptOf ins)) (keptOf ins).length).testBit (rowB ((placeNets (keptOf ins) (supT (overT t ins (keptOf ins)) (keptOf ins).length)).map β)) = evT t (ins.map β) := by
  intro h0 h1
  rw [← over_bit h0 h1 hn, ← proj_row _ _ hps]
  exact (hsh.1 _ (by
   have := rowNum_lt (((keptOf ins).map β).map Bool.toNat)
   simpa [rowB] using this)).symm
 have hone := hsh.2
 have hnil : (∀ n ∈ ins, n = 0 ∨ n = 1) → placeNets (keptOf ins) (supT (overT t ins (keptOf ins)) (keptOf ins).length) = [] := by
  intro h
  have : keptOf ins = [] := by
   rw [List.eq_nil_iff_forall_not_mem]; intro n hm
   have := f3 n hm
   have := h n this.2
   lia
  rw [this]; rfl
 unfold tableForm
 simp only
 generalize placeNets (keptOf ins) (supT (overT t ins (keptOf ins)) (keptOf ins).length) = nets at *
 generalize shrT (overT t ins (keptOf ins)) (keptOf ins).length = sm at *
 by_cases c0 : nets.length = 0
 ·rw [if_pos c0]
  have : nets = [] := List.length_eq_zero_iff.mp c0
  subst this
  refine ⟨.buf, ?_, ?_, fun _ => ⟨_, and1 sm, rfl⟩⟩
  ·intro n hn
   rw [List.mem_singleton] at hn; subst hn
   rcases and1 sm with h | h
   ·exact .inl h
   ·exact .inr (.inl h)
  ·intro h0 h1
   rw [← hev h0 h1]
   show evK "buf" .none [β _] = sm.testBit 0
   have e : evK "buf" .none [β ((sm &&& 1 : Nat) : Int)] = β ((sm &&& 1 : Nat) : Int) := by simp [evK]
   rw [e]
   have hb := bitNat sm 0
   rw [Nat.shiftRight_zero] at hb
   rw [hb]
   cases sm.testBit 0
   ·exact h0
   ·exact h1
 rw [if_neg c0]
 have hsub' : ∀ n ∈ nets, n = 0 ∨ n = 1 ∨ n ∈ ins := fun n h => .inr (.inr (f3 n (hsub n h)).2)
 have hc : (∀ n ∈ ins, n = 0 ∨ n = 1) → False := fun h => c0 (by rw [hnil h]; rfl)
 by_cases c1 : nets.length = 1
 ·rw [if_pos c1]
  have ho := hone (by lia)
  obtain ⟨n, rfl⟩ := List.length_eq_one_iff.mp c1
  refine ⟨?_, hsub', ?_, fun h => (hc h).elim⟩
  ·split
   ·exact .buf
   ·exact .not
  ·intro h0 h1
   rw [← hev h0 h1]
   have er : rowB ([n].map β) = (β n).toNat := by
    show rowNum [(β n).toNat] = _
    cases β n <;> rfl
   rw [er]
   rcases ho with rfl | rfl
   ·rw [if_neg (by decide)]
    show evK "not" .none [β n] = _
    cases β n <;> simp [evK] <;> decide
   ·rw [if_pos rfl]
    show evK "buf" .none [β n] = _
    cases β n <;> simp [evK] <;> decide
 rw [if_neg c1]
 refine ⟨.lut (show nets.length ≤ 3 by lia), hsub', ?_, fun h => (hc h).elim⟩
 intro h0 h1
 rw [← hev h0 h1]
 show evK "lut" (.int (sm : Nat)) _ = _
 simp [evK, evT, tab_i]
theorem table_none {t : Nat} {ins : List Int} : (tableForm t ins).1 ≠ "lut" → (tableForm t ins).2.2 = .none := by
 unfold tableForm; simp only
 split
 ·intro _; rfl
 split
 ·intro _; rfl
 ·intro h; exact (h rfl).elim
theorem opp_ok {inv : ID} {a b : Int} (ha : 0 ≤ a) (hb : 0 ≤ b) (hi : ∀ a b, lk inv a = some b → β a = !β b) (h : oppI inv a b = true) : β a = !β b := by
 unfold oppI at h
 rw [Bool.or_eq_true, beq_iff_eq, beq_iff_eq] at h
 rcases h with h | h
 ·cases e : lk inv a with
  | none => rw [e] at h; simp at h; exact False.elim (oq10 h hb)
  | some x => rw [e] at h; simp at h; subst h; exact hi _ _ e
 ·cases e : lk inv b with
  | none => rw [e] at h; simp at h; exact False.elim (oq10 h ha)
  | some x => rw [e] at h; simp at h; subst h; rw [hi _ _ e]; simp
theorem stage1_spec {kind : String} {ins : List Int} {param : V} {inv : ID} (hg : Good kind ins param) (hn : ∀ n ∈ ins, 0 ≤ n) :
  Good (stage1 kind ins param inv).1 (stage1 kind ins param inv).2.1 (stage1 kind ins param inv).2.2 ∧ (∀ n ∈ (stage1 kind ins param inv).2.1, n = 0 ∨ n = 1 ∨ n ∈ ins) ∧
  (β 0 = false → β 1 = true → (∀ a b, lk inv a = some b → β a = !β b) → ev3 β (stage1 kind ins param inv) = evK kind param (ins.map β)) ∧
  ((∀ n ∈ ins, n = 0 ∨ n = 1) → ∃ x : Int, (x = 0 ∨ x = 1) ∧ (stage1 kind ins param inv = ("buf", [x], .none) ∨ stage1 kind ins param inv = ("not", [x], .none))) := by
 cases hg with
 | @g2 k a b hk =>
  have e : stage1 kind [a, b] .none inv = ((gateForm kind a b (oppI inv a b)).1, (gateForm kind a b (oppI inv a b)).2, V.none) := by
   have h1 : kind ≠ "lut" := by rintro rfl; simp at hk
   have h2 : kind ≠ "cell" := by rintro rfl; simp at hk
   have h3 : kind ≠ "mux" := by rintro rfl; simp at hk
   unfold stage1; rw [if_neg h1, if_neg h2, if_neg h3]; rfl
  rw [e]
  refine ⟨gate_good, ?_, fun h0 h1 hi => ?_, fun h => ?_⟩
  ·intro n hm
   rcases gate_sub n hm with h | h | h | h
   ·exact .inl h
   ·exact .inr (.inl h)
   ·subst h; simp
   ·subst h; simp
  ·exact gate_ev h0 h1 (opp_ok (hn a (by simp)) (hn b (by simp)) hi) hk
  ·obtain ⟨x, hx, e⟩ := gate_const (k := kind) (o := oppI inv a b) (h a (by simp)) (h b (by simp))
   exact ⟨x, hx, .inl (by rw [e])⟩
 | @mux s a b =>
  have e : stage1 "mux" [s, a, b] .none inv = ((selectForm s a b).1, (selectForm s a b).2, V.none) := rfl
  rw [e]
  refine ⟨select_good, ?_, fun h0 h1 hi => ?_, fun h => ?_⟩
  ·intro n hm
   rcases select_sub n hm with h | h | h <;> subst h <;> simp
  ·refine (select_ev h0 h1).trans ?_
   simp [evK]
  ·obtain ⟨x, hx, e⟩ := select_const (h s (by simp)) (h a (by simp)) (h b (by simp))
   exact ⟨x, hx, .inl (by rw [e])⟩
 | @buf a =>
  have e : stage1 "buf" [a] .none inv = ("buf", [a], V.none) := by
   unfold stage1; rw [if_neg (by decide), if_neg (by decide), if_neg (by decide)]; rfl
  rw [e]
  exact ⟨.buf, by simp, fun _ _ _ => rfl, fun h => ⟨a, h a (by simp), .inl rfl⟩⟩
 | @not a =>
  have e : stage1 "not" [a] .none inv = ("not", [a], V.none) := by
   unfold stage1; rw [if_neg (by decide), if_neg (by decide), if_neg (by decide)]; rfl
  rw [e]
  exact ⟨.not, by simp, fun _ _ _ => rfl, fun h => ⟨a, h a (by simp), .inr rfl⟩⟩
 | @lut ins t hl =>
  have e : stage1 "lut" ins (.int (t : Nat)) inv = tableForm t ins := by unfold stage1; rw [if_pos rfl]; rfl
  rw [e]
  obtain ⟨s1, s2, s3, s4⟩ := table_spec (β := β) (t := t) hl hn
  exact ⟨s1, s2, fun h0 h1 _ => by rw [s3 h0 h1]; simp [evK, tab_i, tab_c], fun h => by obtain ⟨x, hx, e⟩ := s4 h; exact ⟨x, hx, .inl e⟩⟩
 | @cell ins t hl =>
  have e : stage1 "cell" ins (.tup [.str "C", .int (t : Nat)]) inv = libForm ins (.tup [.str "C", .int (t : Nat)]) := by unfold stage1; rw [if_neg (by decide), if_pos rfl]
  rw [e]
  obtain ⟨s1, s2, s3, s4⟩ := table_spec (β := β) (t := t) hl hn
  have et : tabOf (.tup [.str "C", .int (t : Nat)]) = t := rfl
  have e2 : libForm ins (.tup [.str "C", .int (t : Nat)]) = if (tableForm t ins).1 = "lut" then ("cell", ins, .tup [.str "C", .int (t : Nat)]) else ((tableForm t ins).1, (tableForm t ins).2.1, .none) := by
   unfold libForm; rw [et]
  rw [e2]
  by_cases c : (tableForm t ins).1 = "lut"
  ·rw [if_pos c]
   refine ⟨.cell hl, fun n h => .inr (.inr h), fun _ _ _ => rfl, fun h => ?_⟩
   obtain ⟨x, hx, e⟩ := s4 h
   rw [e] at c; simp at c
  ·rw [if_neg c]
   have hp := table_none c
   rw [show ((tableForm t ins).1, (tableForm t ins).2.1, V.none) = tableForm t ins from by rw [← hp]]
   exact ⟨s1, s2, fun h0 h1 _ => by rw [s3 h0 h1]; simp [evK, tab_i, tab_c], fun h => by obtain ⟨x, hx, e⟩ := s4 h; exact ⟨x, hx, .inl e⟩⟩
theorem Good.inv_not {k : String} {i : List Int} {p : V} (h : Good k i p) (e : k = "not") : ∃ a, i = [a] ∧ p = .none := by
 cases h <;> simp_all
theorem simple_spec {kind : String} {ins : List Int} {param : V} {inv : ID} (hg : Good kind ins param) (hn : ∀ n ∈ ins, 0 ≤ n) :
  Good (simpleForm kind ins param inv).1 (simpleForm kind ins param inv).2.1 (simpleForm kind ins param inv).2.2 ∧ (∀ n ∈ (simpleForm kind ins param inv).2.1, n = 0 ∨ n = 1 ∨ n ∈ ins ∨ ∃ a, lk inv a = some n) ∧
  (β 0 = false → β 1 = true → (∀ a b, lk inv a = some b → β a = !β b) → ev3 β (simpleForm kind ins param inv) = evK kind param (ins.map β)) ∧
  ((∀ n ∈ ins, n = 0 ∨ n = 1) → ∃ x : Int, (x = 0 ∨ x = 1) ∧ simpleForm kind ins param inv = ("buf", [x], .none)) := by
 obtain ⟨s1, s2, s3, s4⟩ := stage1_spec (β := β) (inv := inv) hg hn
 unfold simpleForm
 generalize stage1 kind ins param inv = f at *
 have s2' : ∀ n ∈ f.2.1, n = 0 ∨ n = 1 ∨ n ∈ ins ∨ ∃ a, lk inv a = some n := fun n h => by
  rcases s2 n h with h | h | h
  ·exact .inl h
  ·exact .inr (.inl h)
  ·exact .inr (.inr (.inl h))
 by_cases c : f.1 = "not"
 ·obtain ⟨k, i, p⟩ := f
  simp only at c; subst c
  obtain ⟨a, e1, e2⟩ := s1.inv_not rfl
  simp only at e1 e2; subst e1; subst e2
  rw [stage2_eq, if_pos rfl]
  by_cases h : a = 0 ∨ a = 1
  ·rw [if_pos h]
   refine ⟨.buf, ?_, fun h0 h1 hi => ?_, fun _ => ⟨1 - a, by lia, rfl⟩⟩
   ·intro n hn; rw [List.mem_singleton] at hn; subst hn; lia
   ·rw [← s3 h0 h1 hi]
    rcases h with rfl | rfl <;> simp [ev3, evK, h0, h1]
  ·rw [if_neg h]
   have hc : (∀ n ∈ ins, n = 0 ∨ n = 1) → False := fun hh => by
    obtain ⟨x, hx, e | e⟩ := s4 hh
    ·simp at e
    ·simp at e; subst e; exact h hx
   cases e : lk inv a with
   | none => exact ⟨.not, s2', s3, fun h => (hc h).elim⟩
   | some b =>
    refine ⟨.buf, ?_, fun h0 h1 hi => ?_, fun h => (hc h).elim⟩
    ·intro n hn
     simp only [List.mem_singleton] at hn; subst hn
     exact .inr (.inr (.inr ⟨a, e⟩))
    ·rw [← s3 h0 h1 hi]
     simp [ev3, evK, hi _ _ e]
 ·have : stage2 f inv = f := by unfold stage2; rw [if_neg c]
  rw [this]
  refine ⟨s1, s2', s3, fun h => ?_⟩
  obtain ⟨x, hx, e | e⟩ := s4 h
  ·exact ⟨x, hx, e⟩
  ·rw [e] at c; exact (c rfl).elim
end
end Mine
end
section
open PySem
set_option maxRecDepth 100000
namespace Mine
structure Cell where
 kind : String
 out : Int
 ins : List Int
 par : V
noncomputable def cellV (c : Cell) : V := .tup [.str c.kind, .int c.out, .tup (c.ins.map V.int), c.par]
noncomputable def Cell.st (c : Cell) : Bool := c.kind == "flop" || c.kind == "latch"
noncomputable abbrev Ports := List (String × List Int)
inductive PortsR (P : Nat → Prop) (H : List AO) : List V → Ports → Prop
 | nil : PortsR P H [] []
 | cons {x : String} {r : Nat} {ns : List Int} {vs ps} : P r → H[r]? = some (.list (ns.map V.int)) → PortsR P H vs ps → PortsR P H (.tup [.str x, .ref r] :: vs) ((x, ns) :: ps)
noncomputable def nsOf (cnt : Int) (ji jo jc : Nat) : List (String × V) := [("name", .str "f"), ("count", .int cnt), ("inputs", .ref ji), ("outputs", .ref jo), ("cells", .ref jc)]
structure NetR (H : List AO) (n : Nat) (cnt : Int) (is os : Ports) (cs : List Cell) (j ji jo jc : Nat) (vi vo : List V) : Prop where
 inst : H[n]? = some (.inst j)
 ns : H[j]? = some (.ns (nsOf cnt ji jo jc))
 inp : H[ji]? = some (.list vi)
 inpR : PortsR (fun _ => True) H vi is
 out : H[jo]? = some (.list vo)
 outR : PortsR (fun _ => True) H vo os
 cel : H[jc]? = some (.list (cs.map cellV))
section
variable {H H' : List AO} {P : Nat → Prop} {vs : List V} {ps : Ports}
theorem PortsR.keep (h : PortsR P H vs ps) (k : Keep H H') : PortsR P H' vs ps := by
 induction h with
 | nil => exact .nil
 | cons a b _ ih => exact .cons a (k _ _ b) ih
theorem PortsR.low {P' : Nat → Prop} (h : PortsR P H vs ps) (k : ∀ r, P r → P' r) : PortsR P' H vs ps := by
 induction h with
 | nil => exact .nil
 | cons a b _ ih => exact .cons (k _ a) b ih
theorem PortsR.set (h : PortsR P H vs ps) {k : Nat} (hk : ¬ P k) (o : AO) : PortsR P (H.set k o) vs ps := by
 induction h with
 | nil => exact .nil
 | cons a b _ ih => exact .cons a (by rw [List.getElem?_set_ne (by intro e; subst e; exact hk a)]; exact b) ih
theorem PortsR.snoc (h : PortsR P H vs ps) {x : String} {r : Nat} {ns : List Int} (a : P r) (b : H[r]? = some (.list (ns.map V.int))) : PortsR P H (vs ++ [.tup [.str x, .ref r]]) (ps ++ [(x, ns)]) := by
 induction h with
 | nil => exact .cons a b .nil
 | cons a b _ ih => exact .cons a b ih
theorem PortsR.len (h : PortsR P H vs ps) : vs.length = ps.length := by
 induction h with
 | nil => rfl
 | cons a b _ ih => rw [List.length_cons, List.length_cons, ih]
theorem PortsR.get (h : PortsR P H vs ps) {i : Nat} {v : V} (e : vs[i]? = some v) : Ex3 fun x r ns => An4 (v = .tup [.str x, .ref r]) (P r) (H[r]? = some (.list (ns.map V.int))) (ps[i]? = some (x, ns)) := by
 induction h generalizing i with
 | nil => cases e
 | cons a b _ ih =>
  cases i with
  | zero => cases e; exact ⟨_, _, _, rfl, a, b, rfl⟩
  | succ i => exact ih e
theorem NetR.keep {n cnt is os cs j ji jo jc vi vo} (h : NetR H n cnt is os cs j ji jo jc vi vo) (k : Keep H H') : NetR H' n cnt is os cs j ji jo jc vi vo :=
 ⟨k _ _ h.inst, k _ _ h.ns, k _ _ h.inp, h.inpR.keep k, k _ _ h.out, h.outR.keep k, k _ _ h.cel⟩
end
section
variable {H : List AO} {Q : V → List AO → Prop} {n : Nat} {cnt : Int} {is os : Ports} {cs : List Cell} {j ji jo jc : Nat} {vi vo : List V}
theorem attr_ref {x : String} {k j : Nat} {fs : List (String × V)} {u : V} (h1 : H[k]? = some (.inst j)) (h2 : H[j]? = some (.ns fs)) (h3 : flk fs x = some u) : attrV x (.ref k) H Q ↔ Q u H := by
 constructor
 ·rintro ⟨j', fs', u', a, b, c, q⟩
  rw [h1] at a; cases a; rw [h2] at b; cases b; rw [h3] at c; cases c; exact q
 ·intro q; exact ⟨_, _, _, h1, h2, h3, q⟩
theorem NetR.a_cells (h : NetR H n cnt is os cs j ji jo jc vi vo) : attrV "cells" (.ref n) H Q ↔ Q (.ref jc) H := attr_ref h.inst h.ns rfl
theorem NetR.a_inputs (h : NetR H n cnt is os cs j ji jo jc vi vo) : attrV "inputs" (.ref n) H Q ↔ Q (.ref ji) H := attr_ref h.inst h.ns rfl
theorem NetR.a_outputs (h : NetR H n cnt is os cs j ji jo jc vi vo) : attrV "outputs" (.ref n) H Q ↔ Q (.ref jo) H := attr_ref h.inst h.ns rfl
theorem NetR.a_name (h : NetR H n cnt is os cs j ji jo jc vi vo) : attrV "name" (.ref n) H Q ↔ Q (.str "f") H := attr_ref h.inst h.ns rfl
theorem NetR.a_count (h : NetR H n cnt is os cs j ji jo jc vi vo) : attrV "count" (.ref n) H Q ↔ Q (.int cnt) H := attr_ref h.inst h.ns rfl
theorem get_cell {k i : Nat} {c : Cell} (h : H[k]? = some (.list (cs.map cellV))) (e : cs[i]? = some c) (hi : i < 1000000) : getV (.ref k) (.int (i : Int)) H Q ↔ Q (cellV c) H :=
 get_ref h (by rw [List.getElem?_map, e]; rfl) hi
theorem cell0 {c : Cell} : getV (cellV c) (.int 0) H Q ↔ Q (.str c.kind) H := by unfold cellV; rw [get_t0]
theorem cell1 {c : Cell} : getV (cellV c) (.int 1) H Q ↔ Q (.int c.out) H := by unfold cellV; rw [get_t1]
theorem cell2 {c : Cell} : getV (cellV c) (.int 2) H Q ↔ Q (.tup (c.ins.map V.int)) H := by unfold cellV; rw [get_t2]
theorem cell3 {c : Cell} : getV (cellV c) (.int 3) H Q ↔ Q c.par H := by unfold cellV; rw [get_t3]
noncomputable def stN (cs : List Cell) : List Nat := (List.range cs.length).filter fun i => (cs[i]?.map Cell.st).getD false
theorem c_state_cells (h : NetR H n cnt is os cs j ji jo jc vi vo) (hl : cs.length ≤ 900) (q : Q (.ref H.length) (H ++ [.list ((stN cs).map fun (i : Nat) => V.int (i : Int))])) : f_state_cells [.ref n] H Q := by
 unfold f_state_cells bw_state_cells
 simp only [df1, ↓vf7, Nat.reduceSub, rp5, zk50, nilW_p, zk51, List.length_nil, Nat.reduceLeDiff, ka1, ↓vf13, zk81, zk52, zk55, zk60, nm0, zk61, true_and]
 have hK := Keep.app H [AO.list []]
 rw [(h.keep hK).a_cells]
 simp only [↓vf5, zk56]
 rw [len_ref (h.keep hK).cel]
 simp only [List.length_map, ↓vf5, zk82, zk18]
 refine ⟨by exact om5 hl rfl, by exact om1 _, by exact om38 hl rfl, ?_⟩
 refine range_inv rfl (fun i ρ H' => H' = H ++ [.list (((List.range i).filter fun i => (cs[i]?.map Cell.st).getD false).map fun (i : Nat) => V.int (i : Int))] ∧ ∃ o2, ρ = [some (.ref n), some (.ref H.length), o2, none, none, none]) ?_ ?_ ?_
 ·exact ⟨rfl, _, rfl⟩
 ·rintro i hi ρ H' B' ⟨rfl, o2, rfl⟩ hB
  have hN := h.keep (Keep.app H [.list (((List.range i).filter fun i => (cs[i]?.map Cell.st).getD false).map fun (i : Nat) => V.int (i : Int))])
  have e : cs[i]? = some cs[i] := List.getElem?_eq_getElem hi
  simp only [zk19, na2, zk20, ↓vf8, zk36, zk55, zk52, zk57, zk60, nm0, zk61]
  rw [hN.a_cells]
  simp only [zk58, nm2, zk59]
  rw [get_cell hN.cel e (by exact om10 hi hl rfl)]
  simp only [↓vf3]
  rw [cell0]
  refine c_is_state_kind ?_
  simp only [↓vf14, zk9, ↓vf10, zk86, nm1, zk87, nm2, zk88, ↓vf11, nextBW_p, zk5]
  have hs : ((cs[i]?.map Cell.st).getD false) = (cs[i].kind == "flop" || cs[i].kind == "latch") := by rw [e]; rfl
  cases hc : (cs[i].kind == "flop" || cs[i].kind == "latch") with
  | true =>
   rw [if_pos rfl]
   refine ⟨_, app_get, _, app_get, ?_, ?_⟩
   ·have : ((List.range i).filter fun i => (cs[i]?.map Cell.st).getD false).length ≤ (List.range i).length := List.length_filter_le ..
    simp only [List.length_range] at this
    rw [List.length_map]; exact om31 this hi hl rfl
   ·rw [app_set]
    exact (hB _ _ ⟨by rw [filter_snoc, hs, hc]; simp, some (.int i), rfl⟩).1
  | false =>
   rw [if_neg (by decide)]
   exact (hB _ _ ⟨by rw [filter_snoc, hs, hc]; simp, some (.int i), rfl⟩).1
 ·rintro ρ H' ⟨rfl, o2, rfl⟩
  simp only [zk5, ↓vf9, nm1, zk11, zk2]
  exact q
noncomputable def netsOf (ps : Ports) : List Int := ps.flatMap (·.2)
theorem nodup_app {l r : List Int} {x : Int} (h : (l ++ x :: r).Nodup) : x ∉ l := by
 intro hx
 rw [List.nodup_append] at h
 exact h.2.2 x hx x (.head _) rfl
noncomputable def Tk (t : List (Int × V)) (l : List Int) : Prop := (∀ x, (dget t x).isSome = true ↔ x ∈ l) ∧ t.length ≤ l.length
theorem Tk.no {t : List (Int × V)} {l : List Int} {x : Int} (h : Tk t l) (hx : x ∉ l) : (dget t x).isSome = false := by
 cases e : (dget t x).isSome with
 | false => rfl
 | true => exact (hx ((h.1 x).mp e)).elim
theorem Tk.put {t : List (Int × V)} {l : List Int} {x : Int} {v : V} (h : Tk t l) : Tk (dput t x v) (l ++ [x]) := by
 refine ⟨fun y => ?_, ?_⟩
 ·rw [dget_put]
  by_cases e : y = x
  ·subst e; simp
  ·rw [if_neg e, h.1]; simp [e]
 ·have := dput_len (d := t) (k := x) (v := v)
  have := h.2
  rw [List.length_append, List.length_singleton]; lia
noncomputable def Drv (cs : List Cell) (d : ID) : Prop := (∀ (i : Nat) (c : Cell), cs[i]? = some c → lk d c.out = some (i : Int)) ∧ ∀ x i, lk d x = some i → ∃ (k : Nat) (c : Cell), cs[k]? = some c ∧ c.out = x ∧ i = k
theorem c_drivers (h : NetR H n cnt is os cs j ji jo jc vi vo) (hnd : ([0, 1] ++ netsOf is ++ cs.map Cell.out).Nodup) (hl : ([0, 1] ++ netsOf is ++ cs.map Cell.out).length ≤ 900)
  (q : ∀ d kd H', Keep H H' → H'[kd]? = some (DI d) → Drv cs d → Q (.ref kd) H') : f_drivers [.ref n] H Q := by
 unfold f_drivers bw_drivers
 simp only [df1, ↓vf7, Nat.reduceSub, rp12, dict2W_p, ka1, ↓vf13, zk83, zk60, nm0, zk61]
 refine ⟨by decide, ?_⟩
 have hN0 := h.keep (Keep.app H [AO.dict [(0, .bool true), (1, .bool true)]])
 rw [hN0.a_inputs]
 refine ⟨_, hN0.inp, ?_⟩
 have hpl := h.inpR.len
 refine loop_nth (fun i ρ H' => ∃ t, An3 (H' = H ++ [.dict t]) (Tk t ([0, 1] ++ netsOf (is.take i))) (Ex3 fun o2 o3 o4 => ρ = [some (.ref n), some (.ref H.length), o2, o3, o4, none, none, none, none, none, none, none, none])) ?_ ?_ ?_
 ·refine ⟨_, rfl, ⟨fun x => ?_, ?_⟩, _, _, _, rfl⟩
  ·unfold dget netsOf
   simp only [List.take_zero, List.flatMap_nil, List.append_nil, List.mem_cons, List.not_mem_nil, or_false]
   by_cases h0 : x = 0
   ·subst h0; simp
   by_cases h1 : x = 1
   ·subst h1; simp
   have a0 : ¬ (0 = x) := fun e => h0 e.symm
   have a1 : ¬ (1 = x) := fun e => h1 e.symm
   simp [h0, h1, a0, a1]
  ·simp [netsOf]
 ·rintro i v hv ρ H' B' ⟨t, rfl, ht, o2, o3, o4, rfl⟩ hB
  have hN := h.keep (Keep.app H [AO.dict t])
  refine ⟨hN.inp, ?_⟩
  obtain ⟨x, r, ns, rfl, _, hr, hp⟩ := hN.inpR.get hv
  have hr0 : H[r]? = some (.list (ns.map V.int)) := by
   obtain ⟨x', r', ns', e, _, hr', hp'⟩ := h.inpR.get hv
   rw [hp] at hp'; cases hp'; cases e; exact hr'
  have hsplit : netsOf (is.take (i + 1)) = netsOf (is.take i) ++ ns := by
   unfold netsOf; rw [List.take_add_one, hp]; simp
  have hall : netsOf is = netsOf (is.take i) ++ ns ++ netsOf (is.drop (i + 1)) := by
   rw [← hsplit]; unfold netsOf; rw [← List.flatMap_append, List.take_append_drop]
  simp only [zk19, tupA_p, List.length_cons, List.length_nil, Nat.zero_add, Nat.reduceAdd, zk69, na2, zk70, na3, nilAs_p, zk20, ↓vf13, zk83, nm3, zk84, zk18, true_and]
  refine ⟨_, hr, ?_⟩
  refine loop_nth (fun m ρ H' => ∃ t, An3 (H' = H ++ [.dict t]) (Tk t ([0, 1] ++ netsOf (is.take i) ++ ns.take m)) (∃ o4, ρ = [some (.ref n), some (.ref H.length), some (.str x), some (.ref r), o4, none, none, none, none, none, none, none, none])) ?_ ?_ ?_
  ·exact ⟨t, rfl, by simpa using ht, o4, rfl⟩
  ·rintro m v hv ρ H' B'' ⟨t', rfl, ht', o4', rfl⟩ hB''
   refine ⟨(Keep.app _ _) _ _ hr0, ?_⟩
   rw [Src.items, List.getElem?_map] at hv
   obtain ⟨net, hn', rfl⟩ := Option.map_eq_some_iff.mp hv
   have hml := (List.getElem?_eq_some_iff.mp hn').1
   have hdrop : ns = ns.take m ++ net :: ns.drop (m + 1) := by
    have h1 := List.take_append_drop m ns
    rw [List.drop_eq_getElem_cons hml] at h1
    rw [(List.getElem?_eq_some_iff.mp hn').2] at h1
    exact h1.symm
   have hnot : net ∉ [0, 1] ++ netsOf (is.take i) ++ ns.take m := by
    rw [hall] at hnd
    refine nodup_app (r := ns.drop (m + 1) ++ netsOf (is.drop (i + 1)) ++ cs.map Cell.out) ?_
    have e2 : [0, 1] ++ netsOf (is.take i) ++ ns.take m ++ net :: (ns.drop (m + 1) ++ netsOf (is.drop (i + 1)) ++ cs.map Cell.out) = [0, 1] ++ (netsOf (is.take i) ++ (ns.take m ++ net :: ns.drop (m + 1)) ++ netsOf (is.drop (i + 1))) ++ cs.map Cell.out := by simp
    rw [e2, ← hdrop]; exact hnd
   simp only [zk19, na4, zk20, ↓vf8, ↓tn4, nm1, zk29]
   refine .inl ⟨_, app_get, ?_⟩
   simp only [↓vf14, ht'.no hnot, zk9, Bool.false_eq_true, ↓reduceIte, nextBW_p, zk5, ↓vf7, constW_p, ksub, nm1, zk67, nm4, zk68]
   refine .inl ⟨_, app_get, ?_, ?_⟩
   ·have := ht'.2
    rw [hall] at hl
    simp only [List.length_append, List.length_take] at this hl; lia
   rw [app_set]
   exact (hB'' _ _ ⟨_, rfl, by rw [List.take_add_one, hn', Option.toList_some, ← List.append_assoc]; exact ht'.put, some (.int net), rfl⟩).1
  ·rintro ρ H' ⟨t', rfl, ht', o4', rfl⟩
   refine ⟨(Keep.app _ _) _ _ hr0, ?_⟩
   rw [Src.items, List.length_map, List.take_of_length_le (Nat.le_refl _)] at ht'
   exact (hB _ _ ⟨t', rfl, by rw [hsplit, ← List.append_assoc]; exact ht', _, _, _, rfl⟩).1
 ·rintro ρ H' ⟨t, rfl, ht, o2, o3, o4, rfl⟩
  have hN := h.keep (Keep.app H [AO.dict t])
  refine ⟨hN.inp, ?_⟩
  rw [Src.items, hpl, List.take_of_length_le (Nat.le_refl _)] at ht
  simp only [zk5, ↓vf7, dict0W_p, ka5, ↓vf13, zk81, zk52, zk55, zk60, nm0, zk61]
  have hN2 := h.keep ((Keep.app H [AO.dict t]).trans (Keep.app _ [AO.dict []]))
  rw [hN2.a_cells]
  simp only [↓vf5, zk56]
  rw [len_ref hN2.cel]
  have hcl : cs.length ≤ 900 := by simp only [List.length_append, List.length_map] at hl; lia
  simp only [List.length_map, ↓vf5, zk82, zk18]
  refine ⟨by exact om5 hcl rfl, by exact om1 _, by exact om38 hcl rfl, ?_⟩
  refine range_inv rfl (fun i ρ H' => Ex2 fun t d => An5 (H' = H ++ [.dict t] ++ [DI d]) (Tk t ([0, 1] ++ netsOf is ++ (cs.take i).map Cell.out)) (d.length ≤ i) (Drv (cs.take i) d) (Ex4 fun o2 o3 o4 o6 => ρ = [some (.ref n), some (.ref H.length), o2, o3, o4, some (.ref (H.length + 1)), o6, none, none, none, none, none, none])) ?_ ?_ ?_
  ·exact ⟨t, [], rfl, by simpa using ht, by simp, ⟨fun i c e => by simp at e, fun x i e => by cases e⟩, o2, o3, o4, none, by simp⟩
  ·rintro i hi ρ H' B' ⟨t, d, rfl, ht, hdl, hd, o2, o3, o4, o6, rfl⟩ hB
   have hN := h.keep ((Keep.app H [AO.dict t]).trans (Keep.app _ [DI d]))
   have e : cs[i]? = some cs[i] := List.getElem?_eq_getElem hi
   have hcs : cs = cs.take i ++ cs[i] :: cs.drop (i + 1) := by
    have h1 := List.take_append_drop i cs
    rw [List.drop_eq_getElem_cons hi] at h1
    exact h1.symm
   have hnot : cs[i].out ∉ [0, 1] ++ netsOf is ++ (cs.take i).map Cell.out := by
    refine nodup_app (r := (cs.drop (i + 1)).map Cell.out) ?_
    have e2 : [0, 1] ++ netsOf is ++ (cs.take i).map Cell.out ++ cs[i].out :: (cs.drop (i + 1)).map Cell.out = [0, 1] ++ netsOf is ++ (cs.take i ++ cs[i] :: cs.drop (i + 1)).map Cell.out := by rw [List.map_append, List.map_cons]; simp only [List.append_assoc]
    rw [e2, ← hcs]; exact hnd
   simp only [zk19, na6, zk20, ↓vf7, zk57, zk60, nm0, zk61]
   rw [hN.a_cells]
   simp only [zk58, nm6, zk59]
   rw [get_cell hN.cel e (by exact om10 hi hcl rfl)]
   simp only [↓vf3]
   rw [cell1]
   have hg1 : (H ++ [AO.dict t] ++ [DI d])[H.length]? = some (.dict t) := by simp
   refine .inl ⟨_, hg1, ?_⟩
   simp only [ht.no hnot, List.set_cons_succ, List.set_cons_zero, ↓vf7, constW_p, ksub, zk4_, falseBW_p, nextBW_p, nm1, zk67, nm4, zk68, tru_bool, Bool.false_eq_true, ↓reduceIte]
   refine .inl ⟨_, hg1, ?_, ?_⟩
   ·have := ht.2
    simp only [List.length_append, List.length_map, List.length_take] at this hl; lia
   have es : (H ++ [AO.dict t] ++ [DI d]).set H.length (.dict (dput t cs[i].out (.bool true))) = H ++ [AO.dict (dput t cs[i].out (.bool true))] ++ [DI d] := by simp
   rw [es]
   have hg2 : (H ++ [AO.dict (dput t cs[i].out (.bool true))] ++ [DI d])[H.length + 1]? = some (DI d) := by simp
   refine set_DI hg2 (by exact om31 hdl hi hcl rfl) ?_
   have es2 : (H ++ [AO.dict (dput t cs[i].out (.bool true))] ++ [DI d]).set (H.length + 1) (DI (lput d cs[i].out i)) = H ++ [AO.dict (dput t cs[i].out (.bool true))] ++ [DI (lput d cs[i].out i)] := by simp
   rw [es2]
   have ht1 : cs.take (i + 1) = cs.take i ++ [cs[i]] := by rw [List.take_add_one, e]; rfl
   refine (hB _ _ ⟨_, _, rfl, ?_, ?_, ⟨?_, ?_⟩, o2, o3, some (.int cs[i].out), some (.int i), rfl⟩).1
   ·rw [ht1, List.map_append, ← List.append_assoc]; exact ht.put
   ·have := lput_len (d := d) (k := cs[i].out) (v := i); exact oq15 this hdl
   ·intro m c hc
    rw [lk_put]
    rw [ht1] at hc
    rcases Nat.lt_or_ge m (cs.take i).length with hm | hm
    ·rw [List.getElem?_append_left hm] at hc
     rw [if_neg, hd.1 m c hc]
     intro e; exact hnot (by rw [← e]; exact List.mem_append_right _ (List.mem_map_of_mem (List.mem_of_getElem? hc)))
    ·rw [List.getElem?_append_right hm] at hc
     have : m - (cs.take i).length = 0 := by
      have := (List.getElem?_eq_some_iff.mp hc).1
      simp at this ⊢; exact this
     rw [this] at hc; simp at hc; subst hc
     rw [if_pos rfl]
     rw [List.length_take] at *
     congr 1; lia
   ·intro x m hm
    rw [lk_put] at hm
    by_cases hx : x = cs[i].out
    ·rw [if_pos hx] at hm; cases hm
     exact ⟨i, cs[i], by rw [ht1, List.getElem?_append_right (by rw [List.length_take]; lia), List.length_take]; simp [Nat.min_eq_left (Nat.le_of_lt hi)], hx.symm, rfl⟩
    ·rw [if_neg hx] at hm
     obtain ⟨k, c, e1, e2, e3⟩ := hd.2 x m hm
     refine ⟨k, c, ?_, e2, e3⟩
     rw [ht1, List.getElem?_append_left (List.getElem?_eq_some_iff.mp e1).1]; exact e1
  ·rintro ρ H' ⟨t, d, rfl, ht, hdl, hd, o2, o3, o4, o6, rfl⟩
   simp only [zk5, ↓vf9, nm5, zk11, zk2]
   rw [List.take_of_length_le (Nat.le_refl _)] at hd
   exact q d _ _ ((Keep.app _ _).trans (Keep.app _ _)) (by simp) hd
end
end Mine
end
section
open PySem
set_option maxRecDepth 100000
namespace Mine
section
variable (dp : Nat → List Nat) (ic : Nat → Bool)
noncomputable def pend (D : List Nat) (k : Nat) : Nat := (dp k).countP fun b => decide (b ∉ D)
structure K2 (Vf : Nat → Nat) (R : List Nat) : Prop where
 nd : R.Nodup
 dom : ∀ k ∈ R, ic k = true
 rd : ∀ k, ic k = true → (k ∈ R ↔ Vf k = 0)
 topo : ∀ (p k : Nat), R[p]? = some k → ∀ b ∈ dp k, b ∈ R.take p
theorem notin_take {R : List Nat} {t x : Nat} (nd : R.Nodup) (hx : R[t]? = some x) : x ∉ R.take t := by
 have htl := (List.getElem?_eq_some_iff.mp hx).1
 have e : R = R.take t ++ x :: R.drop (t + 1) := by
  have h1 := List.take_append_drop t R
  rw [List.drop_eq_getElem_cons htl, (List.getElem?_eq_some_iff.mp hx).2] at h1
  exact h1.symm
 rw [e, List.nodup_append] at nd
 intro hm
 exact nd.2.2 x hm x (.head _) rfl
theorem pend_snoc {D : List Nat} {x k : Nat} (h : x ∉ D) : pend dp (D ++ [x]) k + (dp k).count x = pend dp D k := by
 unfold pend
 induction dp k with
 | nil => rfl
 | cons b r ih =>
  rw [List.countP_cons, List.countP_cons, List.count_cons, ← ih]
  by_cases e : b = x
  ·subst e
   have h1 : decide (b ∉ D ++ [b]) = false := by simp
   have h2 : decide (b ∉ D) = true := by simpa using h
   rw [h1, h2]; simp; lia
  ·have h1 : decide (b ∉ D ++ [x]) = decide (b ∉ D) := by simp [e]
   have h2 : (b == x) = false := by simpa using e
   rw [h1, h2]; simp; lia
theorem pend_zero {D : List Nat} {k : Nat} (h : pend dp D k = 0) : ∀ b ∈ dp k, b ∈ D := by
 intro b hb
 unfold pend at h
 rw [List.countP_eq_zero] at h
 have := h b hb
 simpa using this
theorem pend_nil {k : Nat} : pend dp [] k = (dp k).length := by
 unfold pend; rw [List.countP_eq_length]; simp
variable {dp ic}
theorem K2.step (hdp : ∀ k, ic k = false → dp k = []) {L R : List Nat} {t x m i : Nat} (h : K2 dp ic (fun k => pend dp (R.take t) k - (L.take m).count k) R) (hx : R[t]? = some x) (hL : ∀ k, L.count k = (dp k).count x) (hi : L[m]? = some i) :
  An6 (ic i = true) (1 ≤ pend dp (R.take t) i - (L.take m).count i) (pend dp (R.take t) i - (L.take (m + 1)).count i = pend dp (R.take t) i - (L.take m).count i - 1)
  (∀ k, k ≠ i → pend dp (R.take t) k - (L.take (m + 1)).count k = pend dp (R.take t) k - (L.take m).count k)
  (pend dp (R.take t) i - (L.take m).count i - 1 = 0 → An3 (K2 dp ic (fun k => pend dp ((R ++ [i]).take t) k - (L.take (m + 1)).count k) (R ++ [i])) ((R ++ [i]).take t = R.take t) ((R ++ [i])[t]? = some x))
  (pend dp (R.take t) i - (L.take m).count i - 1 ≠ 0 → K2 dp ic (fun k => pend dp (R.take t) k - (L.take (m + 1)).count k) R) := by
 have htl := (List.getElem?_eq_some_iff.mp hx).1
 have hxn := notin_take h.nd hx
 have hs := pend_snoc (dp := dp) (k := i) hxn
 have ht1 : L.take (m + 1) = L.take m ++ [i] := by rw [List.take_add_one, hi]; rfl
 have hc1 : (L.take (m + 1)).count i = (L.take m).count i + 1 := by rw [ht1, List.count_append]; simp
 have hcle : (L.take (m + 1)).count i ≤ L.count i := (List.take_sublist _ _).count_le _
 have hLi := hL i
 have hic : ic i = true := by
  cases e : ic i with
  | true => rfl
  | false => have := hdp i e; rw [this] at hLi; exact (List.count_eq_zero.mp hLi (List.mem_of_getElem? hi)).elim
 have ho : ∀ k, k ≠ i → (L.take (m + 1)).count k = (L.take m).count k := fun k hk => by
  rw [ht1, List.count_append]
  have : [i].count k = 0 := by rw [List.count_eq_zero]; simp; exact hk
  lia
 have hVi : 1 ≤ pend dp (R.take t) i - (L.take m).count i := by lia
 refine ⟨hic, hVi, by lia, fun k hk => by rw [ho k hk], fun hz => ?_, fun hz => ?_⟩
 ·have htk : (R ++ [i]).take t = R.take t := by rw [List.take_append_of_le_length (by exact Nat.le_of_lt htl)]
  have hni : i ∉ R := by
   intro hm
   have := (h.rd i hic).mp hm
   lia
  refine ⟨⟨?_, ?_, ?_, ?_⟩, htk, by rw [List.getElem?_append_left htl]; exact hx⟩
  ·rw [List.nodup_append]
   refine ⟨h.nd, by simp, fun a ha b hb e => ?_⟩
   rw [List.mem_singleton] at hb; subst hb; subst e; exact hni ha
  ·intro k hk
   rcases List.mem_append.mp hk with hk | hk
   ·exact h.dom k hk
   ·rw [List.mem_singleton] at hk; subst hk; exact hic
  ·intro k hk
   rw [htk]
   by_cases e : k = i
   ·subst e
    simp only [List.mem_append, List.mem_singleton, or_true, true_iff]; lia
   ·have := h.rd k hk
    simp only [List.mem_append, List.mem_singleton, e, or_false]
    rw [this, ho k e]
  ·intro p k hp b hb
   rcases Nat.lt_or_ge p R.length with hl | hl
   ·rw [List.getElem?_append_left hl] at hp
    rw [List.take_append_of_le_length (by exact Nat.le_of_lt hl)]
    exact h.topo p k hp b hb
   ·rw [List.getElem?_append_right hl] at hp
    have hp0 : p - R.length = 0 := by have := (List.getElem?_eq_some_iff.mp hp).1; simp at this ⊢; exact this
    rw [hp0] at hp; simp at hp; subst hp
    have hpR : p = R.length := by lia
    have hz0 : pend dp (R.take t ++ [x]) i = 0 := by lia
    have hb' := pend_zero (dp := dp) hz0 b hb
    have hsub : R.take t ++ [x] = R.take (t + 1) := by rw [List.take_add_one, hx]; rfl
    rw [hsub] at hb'
    rw [hpR, List.take_append_of_le_length (Nat.le_refl _), List.take_of_length_le (Nat.le_refl _)]
    exact List.mem_of_mem_take hb'
 ·refine ⟨h.nd, h.dom, fun k hk => ?_, h.topo⟩
  by_cases e : k = i
  ·subst e
   have := h.rd k hk
   rw [this]; constructor <;> intro <;> lia
  ·rw [h.rd k hk, ho k e]
theorem K2.turn {L R : List Nat} {t x : Nat} (h : K2 dp ic (fun k => pend dp (R.take t) k - L.count k) R) (hx : R[t]? = some x) (hL : ∀ k, L.count k = (dp k).count x) :
  K2 dp ic (pend dp (R.take (t + 1))) R ∧ ∀ k, pend dp (R.take t) k - L.count k = pend dp (R.take (t + 1)) k := by
 have hxn := notin_take h.nd hx
 have hsub : R.take t ++ [x] = R.take (t + 1) := by rw [List.take_add_one, hx]; rfl
 have he : ∀ k, pend dp (R.take t) k - L.count k = pend dp (R.take (t + 1)) k := fun k => by
  have hs := pend_snoc (dp := dp) (k := k) hxn
  rw [← hsub, hL k]; lia
 refine ⟨⟨h.nd, h.dom, fun k hk => ?_, h.topo⟩, he⟩
 rw [h.rd k hk, he]
theorem K2.all {R : List Nat} (h : K2 dp ic (pend dp R) R) (rank : Nat → Nat) (hr : ∀ k b, b ∈ dp k → rank b < rank k ∧ ic b = true) : ∀ (m k : Nat), rank k = m → ic k = true → k ∈ R := by
 intro m
 induction m using Nat.strongRecOn with
 | _ m ih =>
  intro k hk hc
  rw [h.rd k hc]
  unfold pend
  rw [List.countP_eq_zero]
  intro b hb
  obtain ⟨h1, h2⟩ := hr k b hb
  have := ih (rank b) (by exact oq16 h1 hk) b rfl h2
  simpa using this
end
noncomputable def isC (cs : List Cell) (i : Nat) : Bool := match cs[i]? with | some c => !c.st | none => false
noncomputable def drvOf (cs : List Cell) (d : ID) (x : Int) : Option Nat := match lk d x with | some i => if isC cs i.toNat then some i.toNat else none | none => none
noncomputable def deps (cs : List Cell) (d : ID) (i : Nat) : List Nat := match cs[i]? with | some c => if c.st then [] else c.ins.filterMap (drvOf cs d) | none => []
theorem deps_off {cs : List Cell} {d : ID} {k : Nat} (h : isC cs k = false) : deps cs d k = [] := by
 unfold isC at h; unfold deps
 cases e : cs[k]? with
 | none => rfl
 | some c =>
  rw [e] at h
  simp at h
  simp [h]
noncomputable abbrev nats (l : List Nat) : List V := l.map fun (i : Nat) => V.int (i : Int)
structure KS (H H' : List AO) (W : ID) (U : Nat → List Nat) (R : List Nat) (u : List (Int × V)) : Prop where
 keep : Keep H H'
 w : H'[H.length]? = some (DI W)
 us : H'[H.length + 1]? = some (.dict u)
 rd : H'[H.length + 2]? = some (.list (nats R))
 ul : ∀ b : Nat, (dget u b = none ∧ U b = []) ∨ ∃ r, dget u b = some (.ref r) ∧ H.length + 3 ≤ r ∧ H'[r]? = some (.list (nats (U b)))
 inj : ∀ (b b' : Int) (r : Nat), dget u b = some (.ref r) → dget u b' = some (.ref r) → b = b'
 hi : ∀ (b : Int) (r : Nat), dget u b = some (.ref r) → r < H'.length
section
variable {H H' : List AO} {W : ID} {U : Nat → List Nat} {R : List Nat} {u : List (Int × V)}
theorem KS.lt (h : KS H H' W U R u) : H.length + 2 < H'.length := (List.getElem?_eq_some_iff.mp h.rd).1
theorem Keep.set' {H H' : List AO} (a : Keep H H') {k : Nat} (h : H.length ≤ k) (o : AO) : Keep H (H'.set k o) := a.set (List.getElem?_eq_none h) o
theorem KS.setW (h : KS H H' W U R u) (W' : ID) : KS H (H'.set H.length (DI W')) W' U R u := by
 have := h.lt
 refine ⟨h.keep.set' (by exact oq17) _, by rw [List.getElem?_set_self (by exact oq18 this)], by rw [List.getElem?_set_ne (by exact om15 rfl)]; exact h.us, by rw [List.getElem?_set_ne (by exact om15 rfl)]; exact h.rd, fun b => ?_, h.inj, fun b r e => by rw [List.length_set]; exact h.hi b r e⟩
 rcases h.ul b with q | ⟨r, a, b, c⟩
 ·exact .inl q
 ·exact .inr ⟨r, a, b, by rw [List.getElem?_set_ne (by exact om19 b rfl)]; exact c⟩
theorem KS.setR (h : KS H H' W U R u) (R' : List Nat) : KS H (H'.set (H.length + 2) (.list (nats R'))) W U R' u := by
 have := h.lt
 refine ⟨h.keep.set' (by exact Nat.le_add_right _ _) _, by rw [List.getElem?_set_ne (by exact om14 rfl)]; exact h.w, by rw [List.getElem?_set_ne (by exact om13 rfl)]; exact h.us, by rw [List.getElem?_set_self (by exact this)], fun b => ?_, h.inj, fun b r e => by rw [List.length_set]; exact h.hi b r e⟩
 rcases h.ul b with q | ⟨r, a, b, c⟩
 ·exact .inl q
 ·exact .inr ⟨r, a, b, by rw [List.getElem?_set_ne (by exact om18 b rfl)]; exact c⟩
theorem KS.app (h : KS H H' W U R u) (E : List AO) : KS H (H' ++ E) W U R u := by
 have k := Keep.app H' E
 refine ⟨h.keep.trans k, k _ _ h.w, k _ _ h.us, k _ _ h.rd, fun b => ?_, h.inj, fun b r e => by have := h.hi b r e; rw [List.length_append]; lia⟩
 rcases h.ul b with q | ⟨r, a, b, c⟩
 ·exact .inl q
 ·exact .inr ⟨r, a, b, k _ _ c⟩
theorem KS.newU (h : KS H H' W U R u) {b : Nat} (hb : dget u b = none) : KS H ((H' ++ [AO.list []]).set (H.length + 1) (.dict (dput u b (.ref H'.length)))) W U R (dput u b (.ref H'.length)) := by
 have hlt := h.lt
 have k := Keep.app H' [AO.list []]
 refine ⟨(h.keep.trans k).set' (by exact Nat.le_add_right _ _) _, by rw [List.getElem?_set_ne (by exact om14 rfl)]; exact k _ _ h.w, by rw [List.getElem?_set_self (by simp; exact oq18 hlt)], by rw [List.getElem?_set_ne (by exact om13 rfl)]; exact k _ _ h.rd, fun b' => ?_, ?_, ?_⟩
 ·rw [dget_put]
  by_cases e : (b' : Int) = b
  ·rw [if_pos e]
   have e' : b' = b := by lia
   subst e'
   refine .inr ⟨H'.length, rfl, by exact oq19 hlt, ?_⟩
   rw [List.getElem?_set_ne (by lia)]
   rcases h.ul b' with ⟨_, q⟩ | ⟨r, a, _⟩
   ·rw [q]; simp
   ·rw [hb] at a; cases a
  ·rw [if_neg e]
   rcases h.ul b' with q | ⟨r, a, b, c⟩
   ·exact .inl q
   ·exact .inr ⟨r, a, b, by rw [List.getElem?_set_ne (by exact om18 b rfl)]; exact k _ _ c⟩
 ·intro x y r hx hy
  rw [dget_put] at hx hy
  split at hx
  ·next ex =>
   cases hx
   split at hy
   ·next ey => rw [ex, ey]
   ·have := h.hi _ _ hy; exact oq20 this
  ·split at hy
   ·cases hy
    have := h.hi _ _ hx; exact oq20 this
   ·exact h.inj _ _ _ hx hy
 ·intro x r hx
  rw [dget_put] at hx
  rw [List.length_set, List.length_append, List.length_singleton]
  split at hx
  ·cases hx; exact om33 rfl
  ·have := h.hi _ _ hx; exact Nat.lt_succ_of_lt this
theorem KS.put (h : KS H H' W U R u) {b r : Nat} (hb : dget u b = some (.ref r)) (i : Nat) : H.length + 3 ≤ r ∧ H'[r]? = some (.list (nats (U b))) ∧
  KS H (H'.set r (.list (nats (U b ++ [i])))) W (fun b' => if b' = b then U b ++ [i] else U b') R u := by
 have hlt := h.lt
 rcases h.ul b with ⟨q, _⟩ | ⟨r', a, hlo, c⟩
 ·rw [hb] at q; cases q
 rw [hb] at a; cases a
 refine ⟨hlo, c, h.keep.set' (by exact om20 hlo) _, by rw [List.getElem?_set_ne (by lia)]; exact h.w, by rw [List.getElem?_set_ne (by lia)]; exact h.us, by rw [List.getElem?_set_ne (by lia)]; exact h.rd, fun b' => ?_, h.inj, fun b r e => by rw [List.length_set]; exact h.hi b r e⟩
 by_cases e : b' = b
 ·subst e
  rw [if_pos rfl]
  refine .inr ⟨r, hb, hlo, ?_⟩
  rw [List.getElem?_set_self (List.getElem?_eq_some_iff.mp c).1]
 ·rw [if_neg e]
  rcases h.ul b' with q | ⟨r', a', hlo', c'⟩
  ·exact .inl q
  ·refine .inr ⟨r', a', hlo', ?_⟩
   rw [List.getElem?_set_ne]
   ·exact c'
   ·intro er; subst er
    have := h.inj _ _ _ a' hb; lia
end
end Mine
end
section
open PySem
set_option maxRecDepth 100000
namespace Mine
theorem while_inv {t : TW} {b : BW} {B : Fl → Rho → List AO → Prop} (I X : Nat → Rho → List AO → Prop) (N : Nat) (hN : ∀ i ρ H, I i ρ H → i ≤ N)
  (hs : ∀ i ρ H (B' : Fl → Rho → List AO → Prop) (E : List AO → Prop), I i ρ H → (∀ ρ' H', I (i + 1) ρ' H' → B' .next ρ' H') → (X i ρ H → E H) → t ρ H fun c H' => if c = true then b ρ H' B' else E H')
  (he : ∀ i ρ H, I i ρ H → X i ρ H → B .next ρ H) {ρ : Rho} {H : List AO} (h0 : I 0 ρ H) : whileBW t b ρ H B := by
 refine ⟨N + 1, ?_⟩
 have key : ∀ m i ρ H, I i ρ H → N < i + m → whileW t b m ρ H B := by
  intro m
  induction m with
  | zero => intro i ρ H h hl; have := hN i ρ H h; lia
  | succ m ih =>
   intro i ρ H h hl
   unfold whileW
   exact hs i ρ H _ _ h (fun ρ' H' h' => ih (i + 1) ρ' H' h' (by lia)) (fun x => he i ρ H h x)
 exact key (N + 1) 0 ρ H h0 (by lia)
theorem lput_same {d : ID} {k v : Int} (h : (lk d k).isSome = true) : (lput d k v).length = d.length := by
 unfold lput
 have : d.any (fun p => p.1 = k) = true := by
  unfold lk at h
  rw [Option.isSome_map] at h
  rw [List.find?_isSome] at h
  rw [List.any_eq_true]; exact h
 rw [if_pos this, List.length_map]
theorem nodup_len : ∀ (n : Nat) (R : List Nat), R.Nodup → (∀ k ∈ R, k < n) → R.length ≤ n
 | 0, R, _, h => by
  cases R with
  | nil => exact Nat.le_refl _
  | cons a r => have := h a (.head _); lia
 | n + 1, R, hn, h => by
  by_cases hm : n ∈ R
  ·have := nodup_len n (R.erase n) (hn.erase n) (fun k hk => by
    have := (hn.mem_erase_iff).mp hk
    have := h k this.2; lia)
   rw [List.length_erase_of_mem hm] at this; lia
  ·have := nodup_len n R hn (fun k hk => by
    have := h k hk
    have : k ≠ n := fun e => hm (e ▸ hk)
    lia)
   exact Nat.le_succ_of_le this
section
variable {H : List AO} {Q : V → List AO → Prop} {n : Nat} {cnt : Int} {is os : Ports} {cs : List Cell} {j ji jo jc : Nat} {vi vo : List V}
theorem c_ordered_cells {kd : Nat} {d : ID} (h : NetR H n cnt is os cs j ji jo jc vi vo) (hkd : H[kd]? = some (DI d)) (hd : Drv cs d) (hl : cs.length ≤ 100) (hp : ∀ c ∈ cs, c.ins.length ≤ 4)
  (rank : Nat → Nat) (hr : ∀ k b, b ∈ deps cs d k → rank b < rank k)
  (q : ∀ R k H', Keep H H' → H.length ≤ k → R.Nodup → (∀ i, i ∈ R ↔ isC cs i = true) → (∀ (p i : Nat), R[p]? = some i → ∀ b ∈ deps cs d i, b ∈ R.take p) → H'[k]? = some (.list (nats R)) → Q (.ref k) H') :
  f_ordered_cells [.ref n, .ref kd] H Q := by
 unfold f_ordered_cells bw_ordered_cells
 simp only [df2, ↓vf7, Nat.reduceSub, rp12, zk60, nm0, zk61]
 rw [h.a_cells]
 simp only [ka2, ↓vf7, dict0W_p, ka3, List.length_append, List.length_cons, List.length_nil, Nat.zero_add, ka4, zk50, nilW_p, zk51, Nat.reduceLeDiff, ka5, ↓vf13, zk81, zk52, zk55, ↓cn2, zk54, zk56, true_and]
 have hK3 := ((Keep.app H [AO.dict []]).trans (Keep.app _ [AO.dict []])).trans (Keep.app _ [AO.list []])
 rw [len_ref (h.keep hK3).cel]
 simp only [List.length_map, ↓vf5, zk82, zk18]
 refine ⟨by exact om5 hl rfl, by exact om1 _, by exact om38 hl rfl, ?_⟩
 refine range_inv rfl (fun i ρ H' => Ex4 fun W U R u => An9 (KS H H' W U R u) ((∀ b k, (U b).count k = if k < i then (deps cs d k).count b else 0)) ((∀ k, k < i → isC cs k = true → lk W k = some ((deps cs d k).length : Int))) (W.length ≤ i) (R.Nodup) ((∀ k, k ∈ R ↔ k < i ∧ isC cs k = true ∧ deps cs d k = [])) ((∀ b, (U b).length ≤ 4 * i)) (u.length ≤ 4 * i) (Ex4 fun o6 o7 o8 o9 => ρ = [some (.ref n), some (.ref kd), some (.ref jc), some (.ref H.length), some (.ref (H.length + 1)), some (.ref (H.length + 2)), o6, o7, o8, o9, none, none, none, none])) ?_ ?_ ?_
 ·refine ⟨[], fun _ => [], [], [], ⟨hK3, by simp [DI], by simp, by simp [nats], fun b => .inl ⟨rfl, rfl⟩, fun _ _ _ e _ => by simp [dget] at e, fun _ _ e => by simp [dget] at e⟩, fun b k => by simp, fun k hk => by exact False.elim (Nat.not_lt_zero _ hk), by simp, .nil, fun k => by simp, fun b => by simp, by simp, none, none, none, none, rfl⟩
 ·rintro i hi ρ H' B' ⟨W, U, R, u, hS, hU, hW, hWl, hRn, hR, hUl, hul, o6, o7, o8, o9, rfl⟩ hB
  have e : cs[i]? = some cs[i] := List.getElem?_eq_getElem hi
  have hpi := hp _ (List.getElem_mem hi)
  simp only [zk19, na6, zk20, ↓vf8, zk36, zk55, zk52, zk57, ↓sn2, nm6, zk59]
  rw [get_cell (h.keep hS.keep).cel e (by exact om10 hi hl rfl)]
  simp only [↓vf3]
  rw [cell0]
  refine c_is_state_kind ?_
  simp only [↓vf14, zk9, zk4_, contBW_p, zk7, nextBW_p, zk5, ↓vf7, constW_p, ka7, ↓vf13, zk83, zk57, ↓sn2, nm6, zk59]
  by_cases hst : (cs[i].kind == "flop" || cs[i].kind == "latch") = true
  ·rw [if_pos hst]
   have hic : isC cs i = false := by unfold isC; rw [e]; simp [Cell.st, hst]
   have hdi := deps_off (d := d) hic
   refine (hB _ _ ⟨W, U, R, u, hS, fun b k => ?_, fun k hk hc => ?_, by exact Nat.le_succ_of_le hWl, hRn, fun k => ?_, fun b => by have := hUl b; exact oq21 this, by exact oq21 hul, some (.int i), o7, o8, o9, rfl⟩).2
   ·rw [hU]
    by_cases hk : k = i
    ·subst hk; rw [hdi]; simp
    ·have : k < i + 1 ↔ k < i := by exact oq7 hk
     simp only [this]
   ·by_cases hk' : k = i
    ·subst hk'; rw [hic] at hc; cases hc
    ·exact hW k (by exact om32 hk hk') hc
   ·rw [hR]
    constructor
    ·rintro ⟨a, b, c⟩; exact ⟨by exact Nat.lt_succ_of_lt a, b, c⟩
    ·rintro ⟨a, b, c⟩
     by_cases hk' : k = i
     ·subst hk'; rw [hic] at b; cases b
     ·exact ⟨by exact om32 a hk', b, c⟩
  ·rw [if_neg hst]
   rw [Bool.not_eq_true] at hst
   have hic : isC cs i = true := by unfold isC; rw [e]; simp [Cell.st, hst]
   have hdi : deps cs d i = cs[i].ins.filterMap (drvOf cs d) := by unfold deps; rw [e]; simp [Cell.st, hst]
   rw [get_cell (h.keep hS.keep).cel e (by exact om10 hi hl rfl)]
   simp only [↓vf3]
   rw [cell2]
   simp only [zk85, zk18]
   refine loop_nth (fun m ρ H' => Ex2 fun U u => An5 (KS H H' W U R u) ((∀ b k, (U b).count k = if k < i then (deps cs d k).count b else if k = i then ((cs[i].ins.take m).filterMap (drvOf cs d)).count b else 0)) ((∀ b, (U b).length ≤ 4 * i + m)) (u.length ≤ 4 * i + m) (Ex2 fun o8 o9 => ρ = [some (.ref n), some (.ref kd), some (.ref jc), some (.ref H.length), some (.ref (H.length + 1)), some (.ref (H.length + 2)), some (.int i), some (.int (((cs[i].ins.take m).filterMap (drvOf cs d)).length : Nat)), o8, o9, none, none, none, none])) ?_ ?_ ?_
   ·refine ⟨U, u, hS, fun b k => ?_, fun b => by have := hUl b; exact oq22 this, by exact oq22 hul, o8, o9, rfl⟩
    rw [hU]; simp
   ·rintro m v hv ρ H' B'' ⟨U, u, hS, hU, hUl, hul, o8, o9, rfl⟩ hB''
    refine ⟨trivial, ?_⟩
    rw [Src.items, List.getElem?_map] at hv
    obtain ⟨net, hn', rfl⟩ := Option.map_eq_some_iff.mp hv
    have hml := (List.getElem?_eq_some_iff.mp hn').1
    have htk : (cs[i].ins.take (m + 1)).filterMap (drvOf cs d) = (cs[i].ins.take m).filterMap (drvOf cs d) ++ (drvOf cs d net).toList := by
     rw [List.take_add_one, hn', List.filterMap_append]
     cases hdn : drvOf cs d net <;> simp [hdn]
    simp only [zk19, na8, zk20, ↓vf7, zk94, nm1, zk95, nm8, zk96, neg_const_p, zk97, ka9, ↓vf8, zk23, ↓tn9, constW_p, zk29]
    have hkd' := hS.keep _ _ hkd
    refine ⟨_, hkd', _, _, rfl, hkd', ?_⟩
    rw [dg]
    have skip : drvOf cs d net = none → ∀ x, (B'' .next [some (.ref n), some (.ref kd), some (.ref jc), some (.ref H.length), some (.ref (H.length + 1)), some (.ref (H.length + 2)), some (.int i), some (.int (((cs[i].ins.take m).filterMap (drvOf cs d)).length : Nat)), some (.int net), x, none, none, none, none] H') := by
     intro hdn x
     rw [hdn] at htk
     simp only [Option.toList_none, List.append_nil] at htk
     refine (hB'' _ _ ⟨U, u, hS, ?_, fun b => by have := hUl b; exact oq23 this, by exact oq23 hul, some (.int net), x, ?_⟩).1
     ·rw [htk]; exact hU
     ·rw [htk]
    cases hlk : lk d net with
    | none =>
     simp only [Option.getD_none, cmp_ge, ↓vf14, zk24, zk23, zk25, zk36, zk55, zk52, zk57, ↓sn2, nm9, zk59, zk9, Bool.false_eq_true, ↓reduceIte, nextBW_p, zk5]
     rw [if_neg (by decide)]
     exact skip (by unfold drvOf; rw [hlk]) _
    | some bi =>
     obtain ⟨b, cb, hcb, _, hbi⟩ := hd.2 net bi hlk
     subst hbi
     have hbl := (List.getElem?_eq_some_iff.mp hcb).1
     simp only [Option.getD_some, cmp_ge, ↓vf14, zk24, zk23, zk25, zk36, zk55, zk52, zk57, ↓sn2, nm9, zk59, zk9, Bool.false_eq_true, ↓reduceIte, nextBW_p, zk5]
     rw [if_pos (by simp), get_cell (h.keep hS.keep).cel hcb (by exact om10 hbl hl rfl)]
     simp only [↓vf3]
     rw [cell0]
     refine c_is_state_kind ?_
     simp only [↓vf14, zk26, zk24, trueTW_p, zk9, ↓reduceIte, zk4_, augN7, constW_p, zk72, inp_add, kn7, zk5, ↓vf8, ↓tn9, nm4, zk29, Bool.false_eq_true, nextBW_p]
     by_cases hsb : (cb.kind == "flop" || cb.kind == "latch") = true
     ·rw [if_neg (by rw [hsb]; decide)]
      exact skip (by unfold drvOf isC; rw [hlk]; simp [hcb, Cell.st, hsb]) _
     ·rw [if_pos (by rw [Bool.not_eq_true] at hsb; rw [hsb]; rfl)]
      have hdn : drvOf cs d net = some b := by unfold drvOf isC; rw [hlk]; simp [hcb, Cell.st]; simpa using hsb
      rw [hdn] at htk
      have fin : ∀ (H'' : List AO) (U' : Nat → List Nat) (u' : List (Int × V)) (r : Nat), KS H H'' W U' R u' → dget u' (b : Int) = some (.ref r) → U' = U → u'.length ≤ 4 * i + m + 1 →
        ∃ l₀, H''[r]? = some (.list l₀) ∧ ∃ l, H''[r]? = some (.list l) ∧ l.length ≤ 1000 ∧ B'' .next [some (.ref n), some (.ref kd), some (.ref jc), some (.ref H.length), some (.ref (H.length + 1)), some (.ref (H.length + 2)), some (.int i), some (.int (((cs[i].ins.take m).filterMap (drvOf cs d)).length + 1 : Int)), some (.int net), some (.int b), none, none, none, none] (H''.set r (.list (l ++ [.int i]))) := by
       rintro H'' U' u' r hS' hb rfl hul'
       obtain ⟨hlo, hcont, hS2⟩ := hS'.put hb i
       refine ⟨_, hcont, _, hcont, by have := hUl b; rw [List.length_map]; lia, ?_⟩
       have el : nats (U' b) ++ [V.int (i : Int)] = nats (U' b ++ [i]) := by simp [nats]
       rw [el]
       refine (hB'' _ _ ⟨_, u', hS2, fun b' k => ?_, fun b' => ?_, by lia, some (.int net), some (.int b), ?_⟩).1
       ·rw [htk, List.count_append]
        by_cases eb : b' = b
        ·subst eb
         rw [if_pos rfl, List.count_append, hU]
         by_cases hk : k < i
         ·have : [i].count k = 0 := by rw [List.count_eq_zero]; simp; exact Nat.ne_of_lt hk
          rw [if_pos hk, if_pos hk, this, Nat.add_zero]
         ·rw [if_neg hk, if_neg hk]
          by_cases hk2 : k = i
          ·subst hk2; simp
          ·have : [i].count k = 0 := by rw [List.count_eq_zero]; simp; exact hk2
           rw [if_neg hk2, if_neg hk2, this]
        ·rw [if_neg eb, hU]
         have : (some b).toList.count b' = 0 := by rw [List.count_eq_zero]; simp; exact eb
         rw [this, Nat.add_zero]
       ·have := hUl b'
        have hbb := hUl b
        by_cases eb : b' = b
        ·rw [if_pos eb, List.length_append, List.length_singleton]; lia
        ·rw [if_neg eb]; exact oq23 this
       ·rw [htk, List.length_append]; simp
      refine .inl ⟨_, hS.us, ?_⟩
      simp only [↓vf14, zk9, ↓vf7, zk50, nilW_p, zk51, List.length_nil, Nat.reduceLeDiff, ksub, nm4, zk67, nm9, zk68, true_and, nextBW_p, zk5, ↓vf10, zk86, ↓sn4, zk59]
      rcases hS.ul b with ⟨hun, hUn⟩ | ⟨r, hur, hrlo, hrc⟩
      ·rw [hun]
       rw [if_pos (show (!(none : Option V).isSome) = true from rfl)]
       refine .inl ⟨_, (Keep.app _ _) _ _ hS.us, by lia, ?_⟩
       have hS' := hS.newU hun
       have hget : dget (dput u (b : Int) (.ref H'.length)) b = some (.ref H'.length) := by rw [dget_put, if_pos rfl]
       simp only [↓vf12, nextBW_p, zk5, ↓vf10, zk86, ↓sn4, nm9, zk59]
       refine (get_dict hS'.us hget).mpr ?_
       exact fin _ U _ _ hS' hget rfl (by have := dput_len (d := u) (k := b) (v := .ref H'.length); lia)
      ·rw [hur]
       rw [if_neg (by simp)]
       refine (get_dict hS.us hur).mpr ?_
       exact fin _ U _ _ hS hur rfl (by lia)
   ·rintro ρ H' ⟨U, u, hS, hU, hUl, hul, o8, o9, rfl⟩
    refine ⟨trivial, ?_⟩
    rw [Src.items, List.length_map, List.take_of_length_le (Nat.le_refl _), ← hdi] at *
    simp only [zk5, ↓vf7, nm7, ksub, nm3, zk67, nm6, zk68]
    refine set_DI hS.w (by exact om31 hWl hi hl rfl) ?_
    have hS2 := hS.setW (lput W i (deps cs d i).length)
    have base : ∀ R' H'', KS H H'' (lput W i (deps cs d i).length) U R' u → (R'.Nodup) → (∀ k, k ∈ R' ↔ k < i + 1 ∧ isC cs k = true ∧ deps cs d k = []) → ∀ x, (B' .next [some (.ref n), some (.ref kd), some (.ref jc), some (.ref H.length), some (.ref (H.length + 1)), some (.ref (H.length + 2)), some (.int i), some (.int ((deps cs d i).length : Nat)), x, o9, none, none, none, none] H'') := by
     intro R' H'' hS3 hn hR' x
     refine (hB _ _ ⟨_, U, R', u, hS3, fun b k => ?_, fun k hk hc => ?_, ?_, hn, hR', fun b => by have := hUl b; exact oq24 this hpi, by exact oq24 hul hpi, some (.int i), some (.int ((deps cs d i).length : Nat)), x, o9, rfl⟩).1
     ·rw [hU]
      by_cases hk : k < i
      ·rw [if_pos hk, if_pos (by exact Nat.lt_succ_of_lt hk)]
      ·rw [if_neg hk]
       by_cases hk2 : k = i
       ·subst hk2; rw [if_pos rfl, if_pos (by exact om33 rfl)]
       ·rw [if_neg hk2, if_neg (by lia)]
     ·rw [lk_put]
      by_cases hk2 : k = i
      ·subst hk2; rw [if_pos rfl]
      ·rw [if_neg (by exact oq25 hk2)]; exact hW k (by exact om32 hk hk2) hc
     ·have := lput_len (d := W) (k := i) (v := (deps cs d i).length); exact oq15 this hWl
    by_cases hz : deps cs d i = []
    ·simp only [↓vf12, ↓vf8, ↓tn7, constW_p, ↓vf15, zk9, ↓vf10, zk86, nm5, zk87, nm6, zk88, ↓vf11, nextBW_p, zk5]
     rw [if_pos (by rw [hz]; rfl)]
     refine ⟨_, hS2.rd, _, hS2.rd, ?_, ?_⟩
     ·have : R.length ≤ i := by
       exact nodup_len i R hRn fun k hk => ((hR k).mp hk).1
      rw [List.length_map]; exact om31 this hi hl rfl
     ·have el : nats R ++ [V.int (i : Int)] = nats (R ++ [i]) := by simp [nats]
      rw [el]
      refine base _ _ (hS2.setR (R ++ [i])) ?_ (fun k => ?_) _
      ·rw [List.nodup_append]
       refine ⟨hRn, by simp, fun a ha b hb e => ?_⟩
       have e2 := e.trans (List.mem_singleton.mp hb)
       have := ((hR a).mp ha).1; exact oq13 this e2
      ·rw [List.mem_append, hR, List.mem_singleton]
       constructor
       ·rintro (⟨a, b, c⟩ | rfl)
        ·exact ⟨by exact Nat.lt_succ_of_lt a, b, c⟩
        ·exact ⟨by exact om33 rfl, hic, hz⟩
       ·rintro ⟨a, b, c⟩
        by_cases hk : k = i
        ·exact .inr hk
        ·exact .inl ⟨by exact om32 a hk, b, c⟩
    ·simp only [↓vf12, ↓vf8, ↓tn7, constW_p, ↓vf15, zk9, ↓vf10, zk86, nm5, zk87, nm6, zk88, ↓vf11, nextBW_p, zk5]
     rw [if_neg (by rw [beq_iff_eq]; have := List.length_pos_iff.mpr hz; lia)]
     refine base R _ hS2 hRn (fun k => ?_) _
     rw [hR]
     constructor
     ·rintro ⟨a, b, c⟩; exact ⟨by exact Nat.lt_succ_of_lt a, b, c⟩
     ·rintro ⟨a, b, c⟩
      by_cases hk : k = i
      ·subst hk; exact (hz c).elim
      ·exact ⟨by exact om32 a hk, b, c⟩
 ·rintro ρ H₁ ⟨W, U, R, u, hS, hU, hW, hWl, hRn, hR, hUl, hul, o6, o7, o8, o9, rfl⟩
  simp only [zk5, ↓vf7, constW_p, ka10, zk4_]
  have hdl : ∀ k, isC cs k = true → k < cs.length := fun k hk => by
   unfold isC at hk
   cases e : cs[k]? with
   | none => rw [e] at hk; cases hk
   | some c => exact (List.getElem?_eq_some_iff.mp e).1
  have hdp : ∀ k, isC cs k = false → deps cs d k = [] := fun k hk => deps_off hk
  have hC : ∀ b k, (U b).count k = (deps cs d k).count b := fun b k => by
   rw [hU]
   by_cases hk : k < cs.length
   ·rw [if_pos hk]
   ·rw [if_neg hk, hdp k]
    ·rfl
    ·cases e : isC cs k with
     | false => rfl
     | true => exact (hk (hdl k e)).elim
  have hic : ∀ k b, b ∈ deps cs d k → isC cs b = true := fun k b hb => by
   unfold deps at hb
   split at hb
   ·split at hb
    ·cases hb
    ·rw [List.mem_filterMap] at hb
     obtain ⟨x, _, hx⟩ := hb
     unfold drvOf at hx
     split at hx
     ·split at hx
      ·cases hx; assumption
      ·cases hx
     ·cases hx
   ·cases hb
  have hRl : ∀ R : List Nat, R.Nodup → (∀ k ∈ R, isC cs k = true) → R.length ≤ cs.length := fun R a b => nodup_len _ R a fun k hk => hdl k (b k hk)
  refine while_inv (fun t ρ H' => Ex3 fun W R o6 => An6 (KS H H' W U R u) (K2 (deps cs d) (isC cs) (pend (deps cs d) (R.take t)) R) ((∀ k, isC cs k = true → lk W k = some ((pend (deps cs d) (R.take t) k : Nat) : Int))) (W.length ≤ 900) (t ≤ R.length) (ρ = [some (.ref n), some (.ref kd), some (.ref jc), some (.ref H.length), some (.ref (H.length + 1)), some (.ref (H.length + 2)), o6, o7, o8, o9, some (.int (t : Nat)), none, none, none]))
   (fun t _ H' => ∀ R, H'[H.length + 2]? = some (.list (nats R)) → R.length ≤ t) cs.length ?_ ?_ ?_ ?_
  ·rintro t ρ H' ⟨W, R, o6, hS, hK, hW, hWl, ht, rfl⟩
   have := hRl R hK.nd hK.dom; exact Nat.le_trans ht this
  ·rintro t ρ H' B' E ⟨W, R, o6, hS, hK, hW, hWl, ht, rfl⟩ hB hE
   simp only [↓tn10, ↓vf13, zk83, zk94, nm4, zk95, ↓sn5, nm10, zk59, zk55, ↓cn5, nilW_p, zk54, zk56]
   have hRle := hRl R hK.nd hK.dom
   rw [len_ref hS.rd]
   refine ⟨by rw [List.length_map]; exact om8 hRle hl rfl, ?_⟩
   rw [List.length_map]
   simp only [↓vf17]
   by_cases hlt : t < R.length
   case neg =>
    rw [if_neg (by simp; exact Nat.le_of_not_lt hlt)]
    refine hE fun R' hR' => ?_
    rw [hS.rd] at hR'
    have e := congrArg (fun o => match o with | some (AO.list l) => l.length | _ => 0) hR'
    simp at e; lia
   rw [if_pos (by simp; exact hlt)]
   refine ⟨_, hS.us, ?_⟩
   have hx : R[t]? = some R[t] := List.getElem?_eq_getElem hlt
   generalize R[t] = x at hx
   have hgx : (nats R)[t]? = some (.int (x : Nat)) := by rw [List.getElem?_map, hx]; rfl
   refine (get_ref hS.rd hgx (by exact om37 hlt hRle hl rfl)).mpr ?_
   have hSa := hS.app [AO.list []]
   simp only [zk96, zk50, nilW_p, zk51, List.length_nil, Nat.reduceLeDiff, zk97, true_and]
   refine ⟨_, _, rfl, hSa.us, ?_⟩
   have key : ∀ rr, H.length + 3 ≤ rr → (H' ++ [AO.list []])[rr]? = some (.list (nats (U x))) → ∃ l, (H' ++ [AO.list []])[rr]? = some (.list l) ∧
     loopW (Src.list rr l).ok (fun v ρ H Q => nameA 6 v ρ H fun ρ' H' => (seqBW (augSubBW .Sub (nameW 3) (nameW 6) (constW (.int 1))) (seqBW (ifBW (cmpTW .Eq (subW (nameW 3) (nameW 6)) (constW (.int 0))) (seqBW (exprBW (appendW (nameW 5) (nameW 6))) (nextBW)) (nextBW)) (nextBW))) ρ' H' Q) (Src.list rr l).items
      [some (.ref n), some (.ref kd), some (.ref jc), some (.ref H.length), some (.ref (H.length + 1)), some (.ref (H.length + 2)), o6, o7, o8, o9, some (.int (t : Nat)), none, none, none] (H' ++ [AO.list []])
      (fun f ρ' H' => match f with
       | .next => (seqBW (augNameBW 10 .Add (constW (.int 1))) (nextBW)) ρ' H' B'
       | f => B' f ρ' H') := by
    intro rr hrr hcon
    refine ⟨_, hcon, ?_⟩
    refine loop_nth (fun m ρ H'' => Ex3 fun W R' o6 => An7 (KS H H'' W U R' u) (H''[rr]? = some (.list (nats (U x)))) (K2 (deps cs d) (isC cs) (fun k => pend (deps cs d) (R'.take t) k - ((U x).take m).count k) R') (R'[t]? = some x) ((∀ k, isC cs k = true → lk W k = some ((pend (deps cs d) (R'.take t) k - ((U x).take m).count k : Nat) : Int))) (W.length ≤ 900) (ρ = [some (.ref n), some (.ref kd), some (.ref jc), some (.ref H.length), some (.ref (H.length + 1)), some (.ref (H.length + 2)), o6, o7, o8, o9, some (.int (t : Nat)), none, none, none])) ?_ ?_ ?_
    ·refine ⟨W, R, o6, hSa, hcon, ?_, hx, ?_, hWl, rfl⟩
     ·have : (fun k => pend (deps cs d) (R.take t) k - ((U x).take 0).count k) = pend (deps cs d) (R.take t) := by funext k; simp
      rw [this]; exact hK
     ·intro k hk; rw [hW k hk]; simp
    ·rintro m v hv ρ H'' B'' ⟨W, R', o6, hS, hcon, hK, hx, hW, hWl, rfl⟩ hB''
     refine ⟨hcon, ?_⟩
     rw [Src.items, List.getElem?_map] at hv
     obtain ⟨i, hi, rfl⟩ := Option.map_eq_some_iff.mp hv
     obtain ⟨k1, k2, k3, k4, k5, k6⟩ := hK.step hdp hx (hC x) hi
     have hWi := hW i k1
     have hR'le := hRl R' hK.nd hK.dom
     simp only [zk4_, zk74, na6, nm3, zk75, nm6, zk76]
     refine (get_DI hS.w hWi).mpr ?_
     simp only [zk77, constW_p, zk78, inp_sub, zk79]
     refine set_DI hS.w (by exact om5 hWl rfl) ?_
     have ecast : ((pend (deps cs d) (R'.take t) i - ((U x).take m).count i : Nat) : Int) - 1 = ((pend (deps cs d) (R'.take t) i - ((U x).take m).count i - 1 : Nat) : Int) := by lia
     rw [ecast]
     generalize hV : pend (deps cs d) (R'.take t) i - ((U x).take m).count i - 1 = Vn at *
     have hS2 := hS.setW (lput W i (Vn : Int))
     have hlk2 : lk (lput W i (Vn : Int)) i = some (Vn : Int) := by rw [lk_put, if_pos rfl]
     simp only [zk80, zk5, ↓vf8, zk27, ↓sn3, nm6, zk59]
     refine (get_DI hS2.w hlk2).mpr ?_
     simp only [↓vf1, ↓vf15, zk9, ↓vf10, zk86, nm5, zk87, nm6, zk88, ↓vf11, nextBW_p, zk5]
     have hlen : (lput W (i : Int) (Vn : Int)).length ≤ 900 := by rw [lput_same (by rw [hWi]; rfl)]; exact hWl
     have hW2 : ∀ k, isC cs k = true → lk (lput W i (Vn : Int)) k = some ((pend (deps cs d) (R'.take t) k - ((U x).take (m + 1)).count k : Nat) : Int) := fun k hk => by
      rw [lk_put]
      by_cases e : k = i
      ·subst e; rw [if_pos rfl]; congr 1; lia
      ·rw [if_neg (by exact oq25 e), hW k hk, k4 k e]
     have hcon2 : (H''.set H.length (DI (lput W i (Vn : Int))))[rr]? = some (.list (nats (U x))) := by rw [List.getElem?_set_ne (by exact om19 hrr rfl)]; exact hcon
     by_cases hz : Vn = 0
     ·rw [if_pos (by rw [hz]; rfl)]
      obtain ⟨kk, ktk, kx⟩ := k5 hz
      refine ⟨_, hS2.rd, _, hS2.rd, by rw [List.length_map]; exact om8 hR'le hl rfl, ?_⟩
      have el : nats R' ++ [V.int (i : Int)] = nats (R' ++ [i]) := by simp [nats]
      rw [el]
      refine (hB'' _ _ ⟨_, R' ++ [i], some (.int i), hS2.setR _, ?_, kk, kx, ?_, hlen, rfl⟩).1
      ·rw [List.getElem?_set_ne (by exact om18 hrr rfl)]; exact hcon2
      ·rw [ktk]; exact hW2
     ·rw [if_neg (by rw [beq_iff_eq]; exact om48 hz rfl)]
      exact (hB'' _ _ ⟨_, R', some (.int i), hS2, hcon2, k6 hz, hx, hW2, hlen, rfl⟩).1
    ·rintro ρ H'' ⟨W, R', o6, hS, hcon, hK, hx, hW, hWl, rfl⟩
     refine ⟨hcon, ?_⟩
     rw [Src.items, List.length_map, List.take_of_length_le (Nat.le_refl _)] at hK hW
     obtain ⟨t1, t2⟩ := hK.turn hx (hC x)
     have htl := (List.getElem?_eq_some_iff.mp hx).1
     simp only [zk4_, augN10, constW_p, zk72, inp_add, kn10, zk5, nextBW_p]
     exact hB _ _ ⟨W, R', o6, hS, t1, fun k hk => by rw [hW k hk, t2], hWl, by exact htl, rfl⟩
   rcases hS.ul x with ⟨hun, hUn⟩ | ⟨r, hur, hrlo, hrc⟩
   ·rw [hun]
    have := hS.lt
    exact key H'.length (by exact oq19 this) (by rw [hUn]; simp [nats])
   ·rw [hur]
    exact key r hrlo ((Keep.app _ _) _ _ hrc)
  ·rintro t ρ H' ⟨W, R, o6, hS, hK, hW, hWl, ht, rfl⟩ hX
   simp only [zk5, ↓vf9, nm5, zk11, zk2]
   have := hX R hS.rd
   have et : R.take t = R := List.take_of_length_le (by exact this)
   rw [et] at hK
   refine q R _ H' hS.keep (by exact Nat.le_add_right _ _) hK.nd (fun i => ⟨hK.dom i, fun hi => ?_⟩) hK.topo hS.rd
   exact K2.all hK rank (fun k b hb => ⟨hr k b hb, hic k b hb⟩) (rank i) i rfl hi
  ·refine ⟨W, R, o6, hS, ?_, ?_, by exact om8 hWl hl rfl, by lia, rfl⟩
   ·refine ⟨hRn, fun k hk => ((hR k).mp hk).2.1, fun k hk => ?_, fun p k hk b hb => ?_⟩
    ·rw [hR, List.take_zero, pend_nil, List.length_eq_zero_iff]
     exact ⟨fun h => h.2.2, fun h => ⟨hdl k hk, hk, h⟩⟩
    ·have := ((hR k).mp (List.mem_of_getElem? hk)).2.2
     rw [this] at hb; cases hb
   ·intro k hk
    rw [List.take_zero, pend_nil]; exact hW k (hdl k hk) hk
end
end Mine
end
section
open PySem
set_option maxRecDepth 100000
namespace Mine
section
variable {H : List AO} {Q : V → List AO → Prop} {n : Nat} {cnt : Int} {is os : Ports} {cs : List Cell} {j ji jo jc : Nat} {vi vo : List V}
theorem isC_lt {i : Nat} (h : isC cs i = true) : i < cs.length := by
 unfold isC at h
 cases e : cs[i]? with
 | none => rw [e] at h; cases h
 | some c => exact (List.getElem?_eq_some_iff.mp e).1
theorem split_len {R : List Nat} (hn : R.Nodup) (hR : ∀ i, i ∈ R ↔ isC cs i = true) : R.length + (stN cs).length = cs.length := by
 have hp : R.Perm ((List.range cs.length).filter (isC cs)) := by
  rw [List.perm_ext_iff_of_nodup hn (List.nodup_range.filter _)]
  intro a
  rw [hR, List.mem_filter, List.mem_range]
  exact ⟨fun h => ⟨isC_lt h, h⟩, fun h => h.2⟩
 rw [hp.length_eq]
 unfold stN
 have e : (List.range cs.length).filter (fun i => (cs[i]?.map Cell.st).getD false) = (List.range cs.length).filter (fun i => !isC cs i) := by
  apply List.filter_congr
  intro i hi
  rw [List.mem_range] at hi
  unfold isC
  rw [List.getElem?_eq_getElem hi]; simp
 rw [e, ← List.countP_eq_length_filter, ← List.countP_eq_length_filter]
 have := List.length_eq_countP_add_countP (isC cs) (l := List.range cs.length)
 simp only [List.length_range] at this
 have e2 : (List.range cs.length).countP (fun i => !isC cs i) = (List.range cs.length).countP (fun a => decide ¬isC cs a = true) := by
  congr 1; funext a; cases isC cs a <;> rfl
 rw [e2]; lia
structure Ord (cs : List Cell) (R : List Nat) : Prop where
 nd : R.Nodup
 mem : ∀ i, i ∈ R ↔ isC cs i = true
 topo : ∀ (p i : Nat) (c : Cell), R[p]? = some i → cs[i]? = some c → ∀ x ∈ c.ins, ∀ q i' c', p ≤ q → R[q]? = some i' → cs[i']? = some c' → c'.out ≠ x
structure Fit (is : Ports) (cs : List Cell) (rank : Int → Nat) : Prop where
 nd : ([0, 1] ++ netsOf is ++ cs.map Cell.out).Nodup
 len : ([0, 1] ++ netsOf is ++ cs.map Cell.out).length ≤ 100
 pins : ∀ c ∈ cs, c.ins.length ≤ 4
 acyc : ∀ c ∈ cs, c.st = false → ∀ x ∈ c.ins, (∃ c' ∈ cs, c'.st = false ∧ c'.out = x) → rank x < rank c.out
theorem c_comb_order (h : NetR H n cnt is os cs j ji jo jc vi vo) {rank : Int → Nat} (hf : Fit is cs rank)
  (q : ∀ R k H', Keep H H' → H.length ≤ k → Ord cs R → H'[k]? = some (.list (nats R)) → Q (.ref k) H') : f_comb_order [.ref n] H Q := by
 unfold f_comb_order bw_comb_order
 simp only [df1, ↓vf7, Nat.reduceSub, rp6, zk55, ↓cn0, zk52, nilW_p, zk54, zk56]
 have hcl : cs.length ≤ 100 := by have := hf.len; simp only [List.length_append, List.length_map] at this; exact oq26 this
 refine c_drivers h hf.nd (by have := hf.len; exact om5 this rfl) fun d kd H₁ hK₁ hkd hd => ?_
 have hdrv : ∀ (x : Int) (b : Nat), drvOf cs d x = some b ↔ ∃ c', cs[b]? = some c' ∧ c'.st = false ∧ c'.out = x := by
  intro x b
  constructor
  ·intro hb
   unfold drvOf at hb
   split at hb
   ·next i e =>
    obtain ⟨k, c, e1, e2, e3⟩ := hd.2 x i e
    subst e3
    rw [Int.toNat_natCast] at hb
    split at hb
    ·next hc =>
     cases hb
     refine ⟨c, e1, ?_, e2⟩
     unfold isC at hc; rw [e1] at hc; simpa using hc
    ·cases hb
   ·cases hb
  ·rintro ⟨c', e1, e2, e3⟩
   have := hd.1 b c' e1
   rw [e3] at this
   unfold drvOf
   rw [this]
   have hc : isC cs b = true := by unfold isC; rw [e1]; simp [e2]
   simp [hc]
 refine c_ordered_cells (h.keep hK₁) hkd hd hcl hf.pins (fun i => (cs[i]?.map fun c => rank c.out).getD 0) ?_ fun R k H₂ hK₂ hlk hn hR ht hk => ?_
 ·intro k b hb
  unfold deps at hb
  split at hb
  ·next c e =>
   split at hb
   ·cases hb
   ·next hst =>
    rw [List.mem_filterMap] at hb
    obtain ⟨x, hx, hxb⟩ := hb
    obtain ⟨c', e1, e2, e3⟩ := (hdrv x b).mp hxb
    have := hf.acyc c (List.mem_of_getElem? e) (by simpa using hst) x hx ⟨c', List.mem_of_getElem? e1, e2, e3⟩
    rw [e, e1]
    simp only [Option.map_some, Option.getD_some]
    rw [e3]; exact this
  ·cases hb
 ·have hnd := split_len hn hR
  have hK := hK₁.trans hK₂
  simp only [ka1, ↓vf8, zk27, zk62, zk55, ↓cn1, nilW_p, zk54, zk56]
  rw [len_ref hk]
  refine ⟨by rw [List.length_map]; lia, ?_⟩
  refine c_state_cells (h.keep hK) (by exact om5 hcl rfl) ?_
  simp only [nilW_p]
  rw [len_ref app_get]
  refine ⟨by rw [List.length_map]; lia, ?_⟩
  have hN := h.keep (hK.trans (Keep.app H₂ [AO.list (nats (stN cs))]))
  simp only [zk64, bin_add, zk28, zk55, zk52, zk60, nm0, zk61]
  refine hN.a_cells.mpr ?_
  simp only [↓vf5, zk56]
  rw [len_ref hN.cel]
  refine ⟨by rw [List.length_map]; exact om5 hcl rfl, ?_⟩
  simp only [↓vf17, zk9, zk4_, falseBW_p, nextBW_p, zk5, ↓vf9, nm1, zk11, zk2]
  rw [if_neg (by simp; lia)]
  refine q R k _ (hK.trans (Keep.app _ _)) (by have := hK₁.len; exact Nat.le_trans this hlk) ⟨hn, hR, ?_⟩ ((Keep.app _ _) _ _ hk)
  intro p i c hp hc x hx q' i' c' hpq hq hc' he
  have hci : isC cs i = true := (hR i).mp (List.mem_of_getElem? hp)
  have hci' : isC cs i' = true := (hR i').mp (List.mem_of_getElem? hq)
  have hst : c.st = false := by unfold isC at hci; rw [hc] at hci; simpa using hci
  have hst' : c'.st = false := by unfold isC at hci'; rw [hc'] at hci'; simpa using hci'
  have hdep : i' ∈ deps cs d i := by
   unfold deps; rw [hc]; simp only [hst]
   rw [if_neg (by decide), List.mem_filterMap]
   exact ⟨x, hx, (hdrv x i').mpr ⟨c', hc', hst', he⟩⟩
  have hin := ht p i hp i' hdep
  exact notin_take hn hq ((List.take_sublist_take_left hpq).subset hin)
end
end Mine
end
section
open PySem
set_option maxRecDepth 100000
namespace Mine
structure BN (P : Nat → Prop) (j : Nat) (H : List AO) (cnt : Int) (is os : Ports) (cs : List Cell) : Prop where
 ns : H[j]? = some (.ns (nsOf cnt (j + 2) (j + 3) (j + 4)))
 inst : H[j + 1]? = some (.inst j)
 inp : ∃ vi, H[j + 2]? = some (.list vi) ∧ PortsR P H vi is
 out : ∃ vo, H[j + 3]? = some (.list vo) ∧ PortsR P H vo os
 cel : H[j + 4]? = some (.list (cs.map cellV))
 low : ∀ k, k < j + 5 → ¬ P k
section
variable {P : Nat → Prop} {H : List AO} {Q : V → List AO → Prop} {cnt : Int} {is os : Ports} {cs : List Cell} {j : Nat}
theorem BN.net (h : BN P j H cnt is os cs) : ∃ vi vo, NetR H (j + 1) cnt is os cs j (j + 2) (j + 3) (j + 4) vi vo := by
 obtain ⟨vi, a, b⟩ := h.inp
 obtain ⟨vo, c, d⟩ := h.out
 exact ⟨vi, vo, h.inst, h.ns, a, b.low fun _ _ => trivial, c, d.low fun _ _ => trivial, h.cel⟩
theorem BN.app (h : BN P j H cnt is os cs) (E : List AO) : BN P j (H ++ E) cnt is os cs := by
 have k := Keep.app H E
 obtain ⟨vi, a, b⟩ := h.inp
 obtain ⟨vo, c, d⟩ := h.out
 exact ⟨k _ _ h.ns, k _ _ h.inst, ⟨vi, k _ _ a, b.keep k⟩, ⟨vo, k _ _ c, d.keep k⟩, k _ _ h.cel, h.low⟩
theorem BN.keep {H' : List AO} (h : BN P j H cnt is os cs) (k : Keep H H') : BN P j H' cnt is os cs := by
 obtain ⟨vi, a, b⟩ := h.inp
 obtain ⟨vo, c, d⟩ := h.out
 exact ⟨k _ _ h.ns, k _ _ h.inst, ⟨vi, k _ _ a, b.keep k⟩, ⟨vo, k _ _ c, d.keep k⟩, k _ _ h.cel, h.low⟩
theorem BN.set (h : BN P j H cnt is os cs) {k : Nat} (hk : k < j ∨ j + 5 ≤ k) (hP : ¬ P k) (o : AO) : BN P j (H.set k o) cnt is os cs := by
 obtain ⟨vi, a, b⟩ := h.inp
 obtain ⟨vo, c, d⟩ := h.out
 exact ⟨by rw [List.getElem?_set_ne (by lia)]; exact h.ns, by rw [List.getElem?_set_ne (by lia)]; exact h.inst, ⟨vi, by rw [List.getElem?_set_ne (by lia)]; exact a, b.set hP o⟩,
  ⟨vo, by rw [List.getElem?_set_ne (by lia)]; exact c, d.set hP o⟩, by rw [List.getElem?_set_ne (by lia)]; exact h.cel, h.low⟩
theorem BN.len (h : BN P j H cnt is os cs) : j + 5 ≤ H.length := by
 have := (List.getElem?_eq_some_iff.mp h.cel).1; lia
theorem BN.setCnt (h : BN P j H cnt is os cs) (cnt' : Int) : BN P j (H.set j (.ns (nsOf cnt' (j + 2) (j + 3) (j + 4)))) cnt' is os cs := by
 obtain ⟨vi, a, b⟩ := h.inp
 obtain ⟨vo, c, d⟩ := h.out
 have := h.len
 exact ⟨by rw [List.getElem?_set_self (by lia)], by rw [List.getElem?_set_ne (by exact om15 rfl)]; exact h.inst, ⟨vi, by rw [List.getElem?_set_ne (by exact om15 rfl)]; exact a, b.set (h.low _ (by exact om33 rfl)) _⟩,
  ⟨vo, by rw [List.getElem?_set_ne (by exact om15 rfl)]; exact c, d.set (h.low _ (by exact om33 rfl)) _⟩, by rw [List.getElem?_set_ne (by exact om15 rfl)]; exact h.cel, h.low⟩
theorem BN.addIn (h : BN P j H cnt is os cs) {vi : List V} (hv : H[j + 2]? = some (.list vi)) {x : String} {r : Nat} {ns : List Int} (hP : P r) (hr : H[r]? = some (.list (ns.map V.int))) :
  BN P j (H.set (j + 2) (.list (vi ++ [.tup [.str x, .ref r]]))) cnt (is ++ [(x, ns)]) os cs := by
 obtain ⟨vi', a, b⟩ := h.inp
 rw [hv] at a; cases a
 obtain ⟨vo, c, d⟩ := h.out
 have := h.len
 exact ⟨by rw [List.getElem?_set_ne (by exact om14 rfl)]; exact h.ns, by rw [List.getElem?_set_ne (by exact om13 rfl)]; exact h.inst, ⟨_, by rw [List.getElem?_set_self (by exact om46 this rfl)], (b.snoc hP hr).set (h.low _ (by exact om35 rfl)) _⟩,
  ⟨vo, by rw [List.getElem?_set_ne (by exact om13 rfl)]; exact c, d.set (h.low _ (by exact om35 rfl)) _⟩, by rw [List.getElem?_set_ne (by exact om13 rfl)]; exact h.cel, h.low⟩
theorem BN.addOut (h : BN P j H cnt is os cs) {vo : List V} (hv : H[j + 3]? = some (.list vo)) {x : String} {r : Nat} {ns : List Int} (hP : P r) (hr : H[r]? = some (.list (ns.map V.int))) :
  BN P j (H.set (j + 3) (.list (vo ++ [.tup [.str x, .ref r]]))) cnt is (os ++ [(x, ns)]) cs := by
 obtain ⟨vi, a, b⟩ := h.inp
 obtain ⟨vo', c, d⟩ := h.out
 rw [hv] at c; cases c
 have := h.len
 exact ⟨by rw [List.getElem?_set_ne (by exact om14 rfl)]; exact h.ns, by rw [List.getElem?_set_ne (by exact om13 rfl)]; exact h.inst, ⟨vi, by rw [List.getElem?_set_ne (by exact om13 rfl)]; exact a, b.set (h.low _ (by exact om35 rfl)) _⟩,
  ⟨_, by rw [List.getElem?_set_self (by exact om46 this rfl)], (d.snoc hP hr).set (h.low _ (by exact om35 rfl)) _⟩, by rw [List.getElem?_set_ne (by exact om13 rfl)]; exact h.cel, h.low⟩
theorem BN.addCell (h : BN P j H cnt is os cs) (c : Cell) : BN P j (H.set (j + 4) (.list (cs.map cellV ++ [cellV c]))) cnt is os (cs ++ [c]) := by
 obtain ⟨vi, a, b⟩ := h.inp
 obtain ⟨vo, c', d⟩ := h.out
 have := h.len
 exact ⟨by rw [List.getElem?_set_ne (by exact om14 rfl)]; exact h.ns, by rw [List.getElem?_set_ne (by exact om13 rfl)]; exact h.inst, ⟨vi, by rw [List.getElem?_set_ne (by exact om13 rfl)]; exact a, b.set (h.low _ (by exact om35 rfl)) _⟩,
  ⟨vo, by rw [List.getElem?_set_ne (by exact om13 rfl)]; exact c', d.set (h.low _ (by exact om35 rfl)) _⟩, by rw [List.getElem?_set_self (by exact om46 this rfl), List.map_append]; rfl, h.low⟩
theorem c_new (q : ∀ H', H' = H ++ [.ns (nsOf 2 (H.length + 2) (H.length + 3) (H.length + 4)), .inst H.length, .list [], .list [], .list []] → Q (.ref (H.length + 1)) H') : newF f_init [.str "f"] H Q := by
 rw [newF_p]
 unfold f_init bw_init
 simp only [df2, ↓vf7, Nat.reduceSub, rp0, nm1, katt, nm0, zk104, ↓vf12, constW_p, zk50, nilW_p, zk51, List.length_nil, Nat.reduceLeDiff, nextBW_p, zk3, true_and]
 have a0 : ∀ (o o' : AO) (E : List AO), (H ++ o :: o' :: E)[H.length + 1]? = some o' := fun o o' E => by simp
 have a1 : ∀ (o : AO) (E : List AO), (H ++ o :: E)[H.length]? = some o := fun o E => by simp
 have a2 : ∀ (o o' : AO) (E : List AO), (H ++ o :: E).set H.length o' = H ++ o' :: E := fun o o' E => by simp
 simp only [List.append_assoc, List.cons_append, List.nil_append]
 refine ⟨_, _, a0 _ _ _, a1 _ _, Nat.le_of_ble_eq_true rfl, ?_⟩
 rw [a2]
 refine ⟨_, _, a0 _ _ _, a1 _ _, Nat.le_of_ble_eq_true rfl, ?_⟩
 rw [a2]
 simp only [List.append_assoc, List.cons_append, List.nil_append]
 refine ⟨_, _, a0 _ _ _, a1 _ _, Nat.le_of_ble_eq_true rfl, ?_⟩
 rw [a2]
 simp only [List.append_assoc, List.cons_append, List.nil_append]
 refine ⟨_, _, a0 _ _ _, a1 _ _, Nat.le_of_ble_eq_true rfl, ?_⟩
 rw [a2]
 simp only [List.append_assoc, List.cons_append, List.nil_append]
 refine ⟨_, _, a0 _ _ _, a1 _ _, Nat.le_of_ble_eq_true rfl, ?_⟩
 rw [a2]
 refine q _ ?_
 simp only [List.length_append, List.length_cons, List.length_nil]
 rfl
end
end Mine
end
section
open PySem
set_option maxRecDepth 100000
namespace Mine
section
variable {P : Nat → Prop} {H : List AO} {Q : V → List AO → Prop} {cnt : Int} {is os : Ports} {cs : List Cell} {j : Nat}
theorem BN.a_inputs (h : BN P j H cnt is os cs) : attrV "inputs" (.ref (j + 1)) H Q ↔ Q (.ref (j + 2)) H := attr_ref h.inst h.ns rfl
theorem BN.a_outputs (h : BN P j H cnt is os cs) : attrV "outputs" (.ref (j + 1)) H Q ↔ Q (.ref (j + 3)) H := attr_ref h.inst h.ns rfl
theorem BN.a_cells (h : BN P j H cnt is os cs) : attrV "cells" (.ref (j + 1)) H Q ↔ Q (.ref (j + 4)) H := attr_ref h.inst h.ns rfl
theorem BN.a_count (h : BN P j H cnt is os cs) : attrV "count" (.ref (j + 1)) H Q ↔ Q (.int cnt) H := attr_ref h.inst h.ns rfl
theorem tuple_t {l : List V} (q : Q (.tup l) H) : tupleF [.tup l] H Q := q
theorem c_drive {kind : String} {out : Int} {r : Nat} {ins : List Int} {par : V} (h : BN P j H cnt is os cs) (hr : H[r]? = some (AO.list (ins.map V.int))) (hi : ins.length ≤ 900) (hl : cs.length ≤ 900)
  (q : Q .none (H.set (j + 4) (AO.list (cs.map cellV ++ [cellV ⟨kind, out, ins, par⟩])))) : f_drive [.ref (j + 1), .int out, .str kind, .ref r, par] H Q := by
 unfold f_drive bw_drive
 simp only [df5, ↓vf10, Nat.reduceSub, rp1, zk86, zk60, nm0, zk61]
 refine h.a_cells.mpr ?_
 refine ⟨_, h.cel, ?_⟩
 refine ⟨_, hr, by rw [List.length_map]; exact om5 hi rfl, ?_⟩
 simp only [↓cn4, List.length_cons, Nat.reduceLeDiff, zk88, ↓vf11, nextBW_p, zk3, nilW_p, zk54, List.length_nil, Nat.zero_add, true_and]
 exact ⟨_, h.cel, by rw [List.length_map]; exact om5 hl rfl, q⟩
theorem c_drive_t {kind : String} {out : Int} {ins : List Int} {par : V} (h : BN P j H cnt is os cs) (hl : cs.length ≤ 900)
  (q : Q .none (H.set (j + 4) (AO.list (cs.map cellV ++ [cellV ⟨kind, out, ins, par⟩])))) : f_drive [.ref (j + 1), .int out, .str kind, .tup (ins.map V.int), par] H Q := by
 unfold f_drive bw_drive
 simp only [df5, ↓vf10, Nat.reduceSub, rp1, zk86, zk60, nm0, zk61]
 refine h.a_cells.mpr ?_
 refine ⟨_, h.cel, ?_⟩
 simp only [zk48, ↓cn2, ↓cn1, zk52, zk55, ↓cn3, nilW_p, zk54, zk56]
 refine tuple_t ?_
 simp only [zk53, ↓cn4, nilW_p, ↓vf6, zk49, List.length_cons, List.length_nil, Nat.zero_add, Nat.reduceAdd, Nat.reduceLeDiff, zk88, ↓vf11, nextBW_p, zk3, true_and]
 exact ⟨_, h.cel, by rw [List.length_map]; exact om5 hl rfl, q⟩
theorem c_add_output {x : String} {r : Nat} {ns : List Int} {vo : List V} (h : BN P j H cnt is os cs) (hr : H[r]? = some (AO.list (ns.map V.int))) (hi : ns.length ≤ 900) (ho : H[j + 3]? = some (.list vo)) (hl : vo.length ≤ 900)
  (q : Q .none ((H ++ [AO.list (ns.map V.int)]).set (j + 3) (AO.list (vo ++ [V.tup [.str x, .ref H.length]])))) : f_add_output [.ref (j + 1), .str x, .ref r] H Q := by
 unfold f_add_output bw_add_output
 simp only [df3, ↓vf10, Nat.reduceSub, rp1, zk86, zk60, nm0, zk61]
 refine h.a_outputs.mpr ?_
 refine ⟨_, ho, ?_⟩
 refine ⟨_, hr, by rw [List.length_map]; exact om5 hi rfl, ?_⟩
 simp only [List.length_cons, Nat.reduceLeDiff, zk88, ↓vf11, nextBW_p, zk3, nilW_p, List.length_nil, true_and]
 exact ⟨_, (Keep.app _ _) _ _ ho, by exact om5 hl rfl, q⟩
noncomputable def rebPorts (rep : ID) (os : Ports) : Ports := os.map fun p => (p.1, p.2.map (fin rep))
noncomputable def rebCell (rep : ID) (c : Cell) : Cell := ⟨c.kind, c.out, c.ins.map (fin rep), c.par⟩
noncomputable def rebCells (rep : ID) (cs : List Cell) : List Cell := (cs.filter fun c => (lk rep c.out).isNone).map (rebCell rep)
theorem rebCells_snoc {rep : ID} {l : List Cell} {c : Cell} : rebCells rep (l ++ [c]) = rebCells rep l ++ (if (lk rep c.out).isNone then [rebCell rep c] else []) := by
 unfold rebCells
 rw [List.filter_append, List.map_append]
 congr 1
 cases h : (lk rep c.out).isNone <;> simp [h]
theorem rebPorts_snoc {rep : ID} {l : Ports} {x : String} {ns : List Int} : rebPorts rep (l ++ [(x, ns)]) = rebPorts rep l ++ [(x, ns.map (fin rep))] := by
 unfold rebPorts; rw [List.map_append]; rfl
theorem c_finals {ok : List AO → Prop} {Q : List V → List AO → Prop} {kr : Nat} {rep : ID} {ins : List Int} {ρ : Rho} (hok : ok H) (hr : H[kr]? = some (DI rep)) (hf : ∀ a b, lk rep a = some b → lk rep b = none) (hl : ins.length ≤ 900)
  (hρ : ∃ o, ρ = [none, o, none, some (.ref kr)])
  (q : Q ((ins.map (fin rep)).map V.int) H) : compLoopW ok (nameA 1) (trueTW true) (callW (consW (nameW 3) (consW (nameW 1) nilW)) f_final_net) (ins.map V.int) ρ H [] Q := by
 refine comp_m (fun ρ => ∃ o, ρ = [none, o, none, some (.ref kr)]) (fun H' => H' = H) (fun v => match v with | .int n => .int (fin rep n) | v => v) ?_ ?_ ?_ ?_ hρ rfl (by rw [List.length_map]; exact hl)
 ·rintro v ρ ⟨o, rfl⟩; exact ⟨some v, rfl⟩
 ·rintro H' rfl; exact hok
 ·rintro v hv ρ H₁ K ⟨o, rfl⟩ rfl hq
  obtain ⟨n, hn', rfl⟩ := List.mem_map.mp hv
  simp only [List.set_cons_succ, List.set_cons_zero, zk55, ↓cn3, ↓cn1, nilW_p, ↓vf6, zk56]
  exact c_final_net hr hf (hq _ rfl)
 ·rintro H₁ rfl
  have e : (ins.map V.int).map (fun v => match v with | .int n => V.int (fin rep n) | v => v) = (ins.map (fin rep)).map V.int := by
   rw [List.map_map, List.map_map]; rfl
  rw [e]; exact q
theorem c_rebuilt_cells {n : Nat} {cs0 : List Cell} {j0 ji jo jc : Nat} {vi vo : List V} {kc kr : Nat} {rep : ID} (h : NetR H n cnt is os cs0 j0 ji jo jc vi vo) (hc : H[kc]? = some (AO.list (cs.map cellV))) (hr : H[kr]? = some (DI rep))
  (hf : ∀ a b, lk rep a = some b → lk rep b = none) (hl : cs.length ≤ 900) (hil : is.length ≤ 900) (hol : os.length ≤ 900) (hin : ∀ p ∈ is, p.2.length ≤ 900) (hon : ∀ p ∈ os, p.2.length ≤ 900) (hp : ∀ c ∈ cs, lk rep c.out = none → c.ins.length ≤ 900)
  (q : ∀ n' j ji jo jc vi vo H', Keep H H' → NetR H' n' cnt is (rebPorts rep os) (rebCells rep cs) j ji jo jc vi vo → Q (.ref n') H') :
  f_rebuilt_cells [.ref n, .ref kc, .ref kr] H Q := by
 unfold f_rebuilt_cells bw_rebuilt_cells
 simp only [df3, ↓vf7, Nat.reduceSub, rp9, zk55, zk52, zk60, nm0, zk61]
 refine h.a_name.mpr ?_
 refine c_new fun H' hH' => ?_
 have hK : Keep H H' := by rw [hH']; exact Keep.app _ _
 have hB : BN (fun r => H.length + 5 ≤ r) H.length H' 2 [] [] [] := by
  rw [hH']
  refine ⟨by simp, by simp, ⟨[], by simp, .nil⟩, ⟨[], by simp, .nil⟩, by simp, fun k hk hk' => by lia⟩
 clear hH'
 simp only [ka3, ↓vf7, zk60, nm0, zk61]
 refine (h.keep hK).a_count.mpr ?_
 refine ⟨_, _, hB.inst, hB.ns, Nat.le_of_ble_eq_true rfl, ?_⟩
 have e0 : fput (nsOf 2 (H.length + 2) (H.length + 3) (H.length + 4)) "count" (.int cnt) = nsOf cnt (H.length + 2) (H.length + 3) (H.length + 4) := rfl
 rw [e0]
 replace hB := hB.setCnt cnt
 replace hK := hK.set' (Nat.le_refl _) (AO.ns (nsOf cnt (H.length + 2) (H.length + 3) (H.length + 4)))
 generalize H'.set H.length (AO.ns (nsOf cnt (H.length + 2) (H.length + 3) (H.length + 4))) = H₁ at hB hK ⊢
 clear e0
 simp only [↓vf12, ↓vf13, zk83, zk60, nm0, zk61]
 refine (h.keep hK).a_inputs.mpr ?_
 refine ⟨_, (h.keep hK).inp, ?_⟩
 have hvl := h.inpR.len
 have hwl := h.outR.len
 refine loop_nth (fun i ρ H' => An3 (Keep H H') (BN (fun r => H.length + 5 ≤ r) H.length H' cnt (is.take i) [] []) (Ex2 fun o4 o5 => ρ = [some (.ref n), some (.ref kc), some (.ref kr), some (.ref (H.length + 1)), o4, o5, none, none, none, none, none, none])) ?_ ?_ ?_
 ·exact ⟨hK, by simpa using hB, none, none, rfl⟩
 ·rintro i v hv ρ H' B' ⟨hK, hB, o4, o5, rfl⟩ hB'
  refine ⟨(h.keep hK).inp, ?_⟩
  obtain ⟨x, r, ns, rfl, _, hr', hp'⟩ := h.inpR.get hv
  have hil' := (List.getElem?_eq_some_iff.mp hp').1
  obtain ⟨vi', hvi, hvR⟩ := hB.inp
  simp only [zk19, tupA_p, List.length_cons, List.length_nil, Nat.zero_add, Nat.reduceAdd, zk69, na4, zk70, na5, nilAs_p, zk20, ↓vf10, zk86, zk60, nm3, zk61, true_and]
  refine hB.a_inputs.mpr ?_
  refine ⟨_, hvi, _, hK _ _ hr', by rw [List.length_map]; have := hin _ (List.mem_of_getElem? hp'); simp only at this; exact om5 this rfl, ?_⟩
  simp only [List.length_cons, Nat.reduceLeDiff, zk88, ↓vf11, nextBW_p, nilW_p, List.length_nil, true_and]
  refine ⟨_, (Keep.app _ _) _ _ hvi, by have := hvR.len; rw [List.length_take] at this; exact oq27 this hil, ?_⟩
  have hB2 := (hB.app [AO.list (ns.map V.int)]).addIn (x := x) (r := H'.length) (ns := ns) ((Keep.app _ _) _ _ hvi) hB.len app_get
  refine (hB' _ _ ⟨(hK.trans (Keep.app _ _)).set' (by exact Nat.le_add_right _ _) _, ?_, some (.str x), some (.ref r), rfl⟩).1
  rw [List.take_add_one, hp']; exact hB2
 ·rintro ρ H' ⟨hK, hB, o4, o5, rfl⟩
  refine ⟨(h.keep hK).inp, ?_⟩
  rw [Src.items, hvl, List.take_of_length_le (Nat.le_refl _)] at hB
  simp only [zk5, ↓vf13, zk83, nm1, zk84, zk18]
  refine ⟨_, hK _ _ hc, ?_⟩
  refine loop_nth (fun i ρ H' => An3 (Keep H H') (BN (fun r => H.length + 5 ≤ r) H.length H' cnt is [] (rebCells rep (cs.take i))) (Ex6 fun o4 o5 o6 o7 o8 o9 => ρ = [some (.ref n), some (.ref kc), some (.ref kr), some (.ref (H.length + 1)), o4, o5, o6, o7, o8, o9, none, none])) ?_ ?_ ?_
  ·exact ⟨hK, by simpa [rebCells] using hB, o4, o5, none, none, none, none, rfl⟩
  ·rintro i v hv ρ H' B' ⟨hK, hB, o4, o5, o6, o7, o8, o9, rfl⟩ hB'
   refine ⟨hK _ _ hc, ?_⟩
   rw [Src.items, List.getElem?_map] at hv
   obtain ⟨c, hcc, rfl⟩ := Option.map_eq_some_iff.mp hv
   have hi' := (List.getElem?_eq_some_iff.mp hcc).1
   have hcl0 := hp _ (List.mem_of_getElem? hcc)
   have hrl : (rebCells rep (cs.take i)).length ≤ i := by
    unfold rebCells
    rw [List.length_map]
    have := List.length_filter_le (fun c => (lk rep c.out).isNone) (cs.take i)
    rw [List.length_take] at this; lia
   have hsn : rebCells rep (cs.take (i + 1)) = rebCells rep (cs.take i) ++ (if (lk rep c.out).isNone then [rebCell rep c] else []) := by
    rw [List.take_add_one, hcc]; exact rebCells_snoc
   unfold cellV
   simp only [zk19, tupA_p, List.length_cons, List.length_nil, Nat.zero_add, Nat.reduceAdd, zk69, na6, zk70, na7, na8, na9, nilAs_p, zk20, ↓vf8, ↓tn7, nm2, zk29, true_and]
   refine nin_DI (hK _ _ hr) ?_
   simp only [↓vf14, zk9, ↓vf10, zk98, nm3, zk99, ↓cn7, ↓cn6, zk52, zk115, zk83, nm8, zk85, zk116, nextBW_p, zk5]
   cases hlk : lk rep c.out with
   | some y =>
    rw [if_neg (by simp)]
    refine (hB' _ _ ⟨hK, ?_, o4, o5, some (.str c.kind), some (.int c.out), some (.tup (c.ins.map V.int)), some c.par, rfl⟩).1
    rw [hsn, hlk]; simpa using hB
   | none =>
    rw [if_pos (by simp)]
    have hcl := hcl0 hlk
    refine ⟨_, _, hB.inst, hB.ns, rfl, ?_⟩
    refine c_finals trivial (hK _ _ hr) hf (by exact hcl) ⟨none, rfl⟩ ?_
    have hB2 := hB.app [AO.list ((c.ins.map (fin rep)).map V.int)]
    refine c_drive hB2 app_get (by rw [List.length_map]; exact hcl) (by exact om31 hrl hi' hl rfl) ?_
    refine (hB' _ _ ⟨(hK.trans (Keep.app _ _)).set' (by exact Nat.le_add_right _ _) _, ?_, o4, o5, some (.str c.kind), some (.int c.out), some (.tup (c.ins.map V.int)), some c.par, rfl⟩).1
    rw [hsn, hlk]
    exact hB2.addCell _
  ·rintro ρ H' ⟨hK, hB, o4, o5, o6, o7, o8, o9, rfl⟩
   refine ⟨hK _ _ hc, ?_⟩
   rw [Src.items, List.length_map, List.take_of_length_le (Nat.le_refl _)] at hB
   simp only [zk5, ↓vf13, zk83, zk60, nm0, zk61]
   refine (h.keep hK).a_outputs.mpr ?_
   refine ⟨_, (h.keep hK).out, ?_⟩
   refine loop_nth (fun i ρ H' => An3 (Keep H H') (BN (fun r => H.length + 5 ≤ r) H.length H' cnt is (rebPorts rep (os.take i)) (rebCells rep cs)) (Ex2 fun o4 o5 => ρ = [some (.ref n), some (.ref kc), some (.ref kr), some (.ref (H.length + 1)), o4, o5, o6, o7, o8, o9, none, none])) ?_ ?_ ?_
   ·exact ⟨hK, by simpa [rebPorts] using hB, o4, o5, rfl⟩
   ·rintro i v hv ρ H' B' ⟨hK, hB, o4, o5, rfl⟩ hB'
    refine ⟨(h.keep hK).out, ?_⟩
    obtain ⟨x, r, ns, rfl, _, hr', hp'⟩ := h.outR.get hv
    have hil' := (List.getElem?_eq_some_iff.mp hp').1
    have hnl := hon _ (List.mem_of_getElem? hp')
    simp only at hnl
    have hsn : rebPorts rep (os.take (i + 1)) = rebPorts rep (os.take i) ++ [(x, ns.map (fin rep))] := by
     rw [List.take_add_one, hp']; exact rebPorts_snoc
    simp only [zk19, tupA_p, List.length_cons, List.length_nil, Nat.zero_add, Nat.reduceAdd, zk69, na4, zk70, na5, nilAs_p, zk20, ↓vf10, zk98, nm3, zk99, ↓cn4, zk52, zk115, zk83, nm5, zk84, zk116, true_and]
    refine ⟨_, _, hB.inst, hB.ns, rfl, ?_⟩
    refine ⟨_, hK _ _ hr', ?_⟩
    refine c_finals (hK _ _ hr') (hK _ _ hr) hf (by exact hnl) ⟨none, rfl⟩ ?_
    have hB2 := hB.app [AO.list ((ns.map (fin rep)).map V.int)]
    obtain ⟨vo', hvo, hvR⟩ := hB2.out
    refine c_add_output hB2 app_get (by rw [List.length_map]; exact hnl) hvo (by have := hvR.len; unfold rebPorts at this; rw [List.length_map, List.length_take] at this; exact oq28 this hol) ?_
    have hB3 := (hB2.app [AO.list ((ns.map (fin rep)).map V.int)]).addOut (x := x) (r := (H' ++ [AO.list ((ns.map (fin rep)).map V.int)]).length) (ns := ns.map (fin rep)) ((Keep.app _ _) _ _ hvo) hB2.len app_get
    refine (hB' _ _ ⟨((hK.trans (Keep.app _ _)).trans (Keep.app _ _)).set' (by exact Nat.le_add_right _ _) _, ?_, some (.str x), some (.ref r), rfl⟩).1
    rw [hsn]; exact hB3
   ·rintro ρ H' ⟨hK, hB, o4, o5, rfl⟩
    refine ⟨(h.keep hK).out, ?_⟩
    rw [Src.items, hwl, List.take_of_length_le (Nat.le_refl _)] at hB
    simp only [zk5, ↓vf9, nm3, zk11, zk2]
    obtain ⟨vi', vo', hN⟩ := hB.net
    exact q _ _ _ _ _ _ _ _ hK hN
theorem c_rebuilt {n : Nat} {j0 ji jo jc : Nat} {vi vo : List V} {kr : Nat} {rep : ID} (h : NetR H n cnt is os cs j0 ji jo jc vi vo) (hr : H[kr]? = some (DI rep))
  (hf : ∀ a b, lk rep a = some b → lk rep b = none) (hl : cs.length ≤ 900) (hil : is.length ≤ 900) (hol : os.length ≤ 900) (hin : ∀ p ∈ is, p.2.length ≤ 900) (hon : ∀ p ∈ os, p.2.length ≤ 900) (hp : ∀ c ∈ cs, c.ins.length ≤ 900)
  (q : ∀ n' j ji jo jc vi vo H', Keep H H' → NetR H' n' cnt is (rebPorts rep os) (rebCells rep cs) j ji jo jc vi vo → Q (.ref n') H') : f_rebuilt [.ref n, .ref kr] H Q := by
 unfold f_rebuilt bw_rebuilt
 simp only [df2, ↓vf9, Nat.reduceSub, rp1, zk55, ↓cn0, zk52, zk60, nm0, zk61]
 refine h.a_cells.mpr ?_
 exact c_rebuilt_cells h h.cel hr hf hl hil hol hin hon (fun c hc _ => hp c hc) q
end
end Mine
end
section
open PySem
set_option maxRecDepth 100000
namespace Mine
theorem Good.map {k : String} {ins : List Int} {p : V} (h : Good k ins p) (g : Int → Int) : Good k (ins.map g) p := by
 cases h with
 | g2 hk => exact .g2 hk
 | mux => exact .mux
 | buf => exact .buf
 | not => exact .not
 | lut hl => exact .lut (by rw [List.length_map]; exact hl)
 | cell hl => exact .cell (by rw [List.length_map]; exact hl)
theorem Good.inv_buf {k : String} {i : List Int} {p : V} (h : Good k i p) (e : k = "buf") : ∃ a, i = [a] ∧ p = .none := by
 cases h <;> simp_all
theorem Good.comb {k : String} {i : List Int} {p : V} (h : Good k i p) : (k == "flop" || k == "latch") = false := by
 cases h with
 | g2 hk =>
  simp only [List.mem_cons, List.not_mem_nil, or_false] at hk
  rcases hk with rfl | rfl | rfl | rfl | rfl | rfl <;> decide
 | mux => decide
 | buf => decide
 | not => decide
 | lut hl => decide
 | cell hl => decide
theorem Good.len {k : String} {i : List Int} {p : V} (h : Good k i p) : i.length ≤ 3 := by
 cases h with
 | g2 hk => exact Nat.le_of_ble_eq_true rfl
 | mux => exact Nat.le_of_ble_eq_true rfl
 | buf => exact Nat.le_of_ble_eq_true rfl
 | not => exact Nat.le_of_ble_eq_true rfl
 | lut hl => exact hl
 | cell hl => exact hl
noncomputable def Setl (cs : List Cell) (R : List Nat) (p : Nat) (x : Int) : Prop := ∀ (q i : Nat) (c : Cell), p ≤ q → R[q]? = some i → cs[i]? = some c → c.out ≠ x
theorem Setl.mono {cs : List Cell} {R : List Nat} {p q : Nat} {x : Int} (h : Setl cs R p x) (l : p ≤ q) : Setl cs R q x := fun q' i c a => h q' i c (by exact Nat.le_trans l a)
noncomputable def Sat (cs : List Cell) (β : Int → Bool) : Prop := β 0 = false ∧ β 1 = true ∧ ∀ c ∈ cs, c.st = false → β c.out = evK c.kind c.par (c.ins.map β)
noncomputable def Cls (cs : List Cell) (S : Int → Prop) : Prop := S 0 ∧ S 1 ∧ ∀ c ∈ cs, c.st = false → S c.out ∧ ∀ x ∈ c.ins, S x
noncomputable def Con (cs : List Cell) : Prop := ∀ c ∈ cs, c.st = false → ∀ x ∈ c.ins, x = 0 ∨ x = 1 ∨ ∃ c' ∈ cs, c'.st = false ∧ c'.out = x
structure Sound (is : Ports) (cs : List Cell) : Prop where
 good : ∀ c ∈ cs, c.st = false → Good c.kind c.ins c.par
 pos : ∀ c ∈ cs, 0 ≤ c.out ∧ ∀ x ∈ c.ins, 0 ≤ x
 nd : (cs.map Cell.out).Nodup
 two : ∀ c ∈ cs, 2 ≤ c.out
structure FI (cs : List Cell) (R : List Nat) (p : Nat) (cs2 : List Cell) (rep inv : ID) : Prop where
 len : cs2.length = cs.length
 st : ∀ (i : Nat) (c : Cell), cs[i]? = some c → (i ∉ R.take p → cs2[i]? = some c) ∧ ∃ c2, cs2[i]? = some c2 ∧ c2.out = c.out ∧ c2.st = c.st
 key : ∀ a b, lk rep a = some b → ∃ i c, i ∈ R.take p ∧ cs[i]? = some c ∧ c.out = a
 rv : ∀ a b, lk rep a = some b → lk rep b = none ∧ Setl cs R p b ∧ 0 ≤ b
 iv : ∀ a b, lk inv a = some b → lk rep a = none ∧ lk rep b = none ∧ Setl cs R p a ∧ Setl cs R p b ∧ 0 ≤ b
 val : ∀ β, Sat cs β → (∀ a b, lk rep a = some b → β b = β a) ∧ (∀ a b, lk inv a = some b → β a = !β b) ∧
  ∀ (q i : Nat) (c2 : Cell), q < p → R[q]? = some i → cs2[i]? = some c2 → lk rep c2.out = none → β c2.out = evK c2.kind c2.par (c2.ins.map β)
 new : ∀ (q i : Nat) (c2 : Cell), q < p → R[q]? = some i → cs2[i]? = some c2 → lk rep c2.out = none → Good c2.kind c2.ins c2.par ∧ ∀ x ∈ c2.ins, 0 ≤ x ∧ Setl cs R q x ∧ lk rep x = none
 cls : ∀ S, Cls cs S → (∀ a b, lk rep a = some b → S b) ∧ (∀ a b, lk inv a = some b → S b) ∧
  ∀ (q i : Nat) (c2 : Cell), q < p → R[q]? = some i → cs2[i]? = some c2 → lk rep c2.out = none → ∀ x ∈ c2.ins, S x
 con : Con cs → inv = [] ∧ ∀ (q i : Nat) (c : Cell), q < p → R[q]? = some i → cs[i]? = some c → ∃ b, (b = 0 ∨ b = 1) ∧ lk rep c.out = some b
 rl : rep.length ≤ p
 il : inv.length ≤ 2 * p
theorem FI.zero (cs : List Cell) (R : List Nat) : FI cs R 0 cs [] [] where
 len := rfl
 st := fun i c e => ⟨fun _ => e, c, e, rfl, rfl⟩
 key := fun a b e => by cases e
 rv := fun a b e => by cases e
 iv := fun a b e => by cases e
 val := fun β h => ⟨fun a b e => (by cases e), fun a b e => (by cases e), fun q i c2 h => by exact False.elim (Nat.not_lt_zero _ h)⟩
 new := fun q i c2 h => by exact False.elim (Nat.not_lt_zero _ h)
 cls := fun β h => ⟨fun a b e => (by cases e), fun a b e => (by cases e), fun q i c2 h => by exact False.elim (Nat.not_lt_zero _ h)⟩
 con := fun _ => ⟨rfl, fun q i c2 h => by exact False.elim (Nat.not_lt_zero _ h)⟩
 rl := Nat.le_refl _
 il := Nat.le_refl _
section
variable {is : Ports} {cs cs2 : List Cell} {R : List Nat} {p i : Nat} {c : Cell} {rep inv : ID}
theorem nd_inj {α : Type} {l : List α} (hn : l.Nodup) {i j : Nat} {a : α} (h : l[i]? = some a) (h' : l[j]? = some a) : i = j :=
 (List.getElem?_inj (List.getElem?_eq_some_iff.mp h).1 hn).mp (h.trans h'.symm)
theorem out_inj (hs : (cs.map Cell.out).Nodup) {i i' : Nat} {c c' : Cell} (h : cs[i]? = some c) (h' : cs[i']? = some c') (e : c.out = c'.out) : i = i' :=
 nd_inj hs (a := c.out) (by rw [List.getElem?_map, h]; rfl) (by rw [List.getElem?_map, h', e]; rfl)
theorem take_succ_mem {p i k : Nat} (h : R[p]? = some i) : k ∈ R.take (p + 1) ↔ k ∈ R.take p ∨ k = i := by
 rw [List.take_add_one, h, Option.toList_some, List.mem_append, List.mem_singleton]
theorem R_inj (hn : R.Nodup) {q p i : Nat} (h : R[q]? = some i) (h' : R[p]? = some i) : q = p := nd_inj hn h h'
structure Now (is : Ports) (cs cs2 : List Cell) (R : List Nat) (p i : Nat) (c : Cell) (rep inv : ID) : Prop where
 cur : cs2[i]? = some c
 outN : lk rep c.out = none
 fins : ∀ x ∈ c.ins.map (fin rep), 0 ≤ x ∧ Setl cs R p x ∧ lk rep x = none
 good : Good c.kind (c.ins.map (fin rep)) c.par
 const : ∀ x, x = 0 ∨ x = 1 → 0 ≤ x ∧ Setl cs R p x ∧ lk rep x = none
theorem FI.now (h : FI cs R p cs2 rep inv) (hs : Sound is cs) (ho : Ord cs R) (hp : R[p]? = some i) (hc : cs[i]? = some c) : Now is cs cs2 R p i c rep inv := by
 have hic : isC cs i = true := (ho.mem i).mp (List.mem_of_getElem? hp)
 have hst : c.st = false := by unfold isC at hic; rw [hc] at hic; simpa using hic
 have hm := List.mem_of_getElem? hc
 have hconst : ∀ x, x = 0 ∨ x = 1 → 0 ≤ x ∧ Setl cs R p x ∧ lk rep x = none := by
  intro x hx
  refine ⟨by lia, fun q i' c' _ _ hc' e => ?_, ?_⟩
  ·have := hs.two c' (List.mem_of_getElem? hc'); exact oq14 this e hx
  ·cases e : lk rep x with
   | none => rfl
   | some b =>
    obtain ⟨i', c', _, hc', e'⟩ := h.key x b e
    have := hs.two c' (List.mem_of_getElem? hc'); exact False.elim (oq14 this e' hx)
 refine ⟨(h.st i c hc).1 (notin_take ho.nd hp), ?_, ?_, (hs.good c hm hst).map _, hconst⟩
 ·cases e : lk rep c.out with
  | none => rfl
  | some b =>
   obtain ⟨i', c', hi', hc', e'⟩ := h.key _ b e
   have := out_inj hs.nd hc' hc e'
   subst this
   exact (notin_take ho.nd hp hi').elim
 ·intro y hy
  obtain ⟨x, hx, rfl⟩ := List.mem_map.mp hy
  unfold fin
  cases e : lk rep x with
  | none =>
   refine ⟨(hs.pos c hm).2 x hx, fun q i' c' hq hi' hc' => ho.topo p i c hp hc x hx q i' c' hq hi' hc', e⟩
  | some b =>
   obtain ⟨a1, a2, a3⟩ := h.rv x b e
   exact ⟨a3, a2, a1⟩
theorem fin_val {β : Int → Bool} (hv : ∀ a b, lk rep a = some b → β b = β a) (x : Int) : β (fin rep x) = β x := by
 unfold fin
 cases e : lk rep x with
 | none => rfl
 | some b => exact hv x b e
theorem FI.form (h : FI cs R p cs2 rep inv) (hs : Sound is cs) (ho : Ord cs R) (hp : R[p]? = some i) (hc : cs[i]? = some c) {f : Form3} (hf : f = simpleForm c.kind (c.ins.map (fin rep)) c.par inv) :
  Good f.1 f.2.1 f.2.2 ∧ (∀ x ∈ f.2.1, 0 ≤ x ∧ Setl cs R p x ∧ lk rep x = none) ∧
  (∀ β, Sat cs β → β c.out = evK f.1 f.2.2 (f.2.1.map β)) ∧ (∀ S, Cls cs S → ∀ x ∈ f.2.1, S x) ∧ (Con cs → ∃ x : Int, (x = 0 ∨ x = 1) ∧ f = ("buf", [x], .none)) := by
 have hn := h.now hs ho hp hc
 have hic : isC cs i = true := (ho.mem i).mp (List.mem_of_getElem? hp)
 have hst : c.st = false := by unfold isC at hic; rw [hc] at hic; simpa using hic
 have hm := List.mem_of_getElem? hc
 have hpos : ∀ n ∈ c.ins.map (fin rep), 0 ≤ n := fun n hn' => (hn.fins n hn').1
 have hsub := (simple_spec (β := fun _ => true) (inv := inv) hn.good hpos).2.1
 subst hf
 refine ⟨(simple_spec (β := fun _ => true) (inv := inv) hn.good hpos).1, ?_, ?_, ?_, ?_⟩
 ·intro x hx
  rcases hsub x hx with e | e | e | ⟨a, e⟩
  ·exact hn.const x (.inl e)
  ·exact hn.const x (.inr e)
  ·exact hn.fins x e
  ·obtain ⟨_, b1, _, b2, b3⟩ := h.iv a x e
   exact ⟨b3, b2, b1⟩
 ·intro β hβ
  obtain ⟨v1, v2, v3⟩ := h.val β hβ
  have := (simple_spec (β := β) (inv := inv) hn.good hpos).2.2.1 hβ.1 hβ.2.1 v2
  unfold ev3 at this
  rw [this, hβ.2.2 c hm hst, List.map_map]
  congr 1
  apply List.map_congr_left
  intro x _
  exact (fin_val v1 x).symm
 ·intro S hS x hx
  obtain ⟨c1, c2, c3⟩ := h.cls S hS
  rcases hsub x hx with e | e | e | ⟨a, e⟩
  ·subst e; exact hS.1
  ·subst e; exact hS.2.1
  ·obtain ⟨y, hy, rfl⟩ := List.mem_map.mp e
   unfold fin
   cases e : lk rep y with
   | none => exact (hS.2.2 c hm hst).2 y hy
   | some b => exact c1 y b e
  ·exact c2 a x e
 ·intro hC
  obtain ⟨k1, k2⟩ := h.con hC
  refine (simple_spec (β := fun _ => true) (inv := inv) hn.good hpos).2.2.2 ?_
  intro y hy
  obtain ⟨x, hx, rfl⟩ := List.mem_map.mp hy
  rcases hC c hm hst x hx with e | e | ⟨c', hc', hst', e⟩
  ·have := (hn.const x (.inl e)).2.2
   unfold fin; rw [this]; exact .inl e
  ·have := (hn.const x (.inr e)).2.2
   unfold fin; rw [this]; exact .inr e
  ·obtain ⟨i', hi'⟩ := List.mem_iff_getElem?.mp hc'
   have hi'R : i' ∈ R := (ho.mem i').mpr (by unfold isC; rw [hi']; simp [hst'])
   obtain ⟨q, hq⟩ := List.mem_iff_getElem?.mp hi'R
   have hqp : q < p := by
    rcases Nat.lt_or_ge q p with hh | hh
    ·exact hh
    ·exact (ho.topo p i c hp hc x hx q i' c' hh hq hi' e).elim
   obtain ⟨b, hb, hl⟩ := k2 q i' c' hqp hq hi'
   rw [e] at hl
   unfold fin; rw [hl]; exact hb
theorem FI.stepBuf (h : FI cs R p cs2 rep inv) (hs : Sound is cs) (ho : Ord cs R) (hp : R[p]? = some i) (hc : cs[i]? = some c) {a : Int}
  (hf : ("buf", [a], V.none) = simpleForm c.kind (c.ins.map (fin rep)) c.par inv) : FI cs R (p + 1) cs2 (lput rep c.out a) inv := by
 obtain ⟨f1, f2, f3, f4, f5⟩ := h.form hs ho hp hc hf
 have hn := h.now hs ho hp hc
 have hself : ¬ Setl cs R p c.out := fun hh => hh p i c (Nat.le_refl _) hp hc rfl
 have hne : ∀ x, Setl cs R p x → x ≠ c.out := fun x hx e => hself (e ▸ hx)
 obtain ⟨a1, a2, a3⟩ := f2 a (by simp)
 have hlk : ∀ x, x ≠ c.out → lk (lput rep c.out a) x = lk rep x := fun x hx => by rw [lk_put, if_neg hx]
 have hlk0 : ∀ x, lk (lput rep c.out a) x = none → lk rep x = none := fun x hx => by
  rw [lk_put] at hx
  split at hx
  ·cases hx
  ·exact hx
 have hq : ∀ (q i' : Nat) (c2 : Cell), q < p + 1 → R[q]? = some i' → cs2[i']? = some c2 → lk (lput rep c.out a) c2.out = none → q < p := by
  intro q i' c2 hq hi' hc2 hl
  rcases Nat.lt_or_ge q p with hh | hh
  ·exact hh
  ·have : q = p := by exact oq29 hq hh
   subst this
   rw [hp] at hi'; cases hi'
   rw [hn.cur] at hc2; cases hc2
   rw [lk_put, if_pos rfl] at hl; cases hl
 refine ⟨h.len, ?_, ?_, ?_, ?_, ?_, ?_, ?_, ?_, ?_, ?_⟩
 ·intro i' c' hc'
  refine ⟨fun hi' => (h.st i' c' hc').1 fun hh => hi' ((take_succ_mem hp).mpr (.inl hh)), (h.st i' c' hc').2⟩
 ·intro x b hx
  rw [lk_put] at hx
  split at hx
  ·next e => exact ⟨i, c, (take_succ_mem hp).mpr (.inr rfl), hc, e.symm⟩
  ·obtain ⟨i', c', e1, e2, e3⟩ := h.key x b hx
   exact ⟨i', c', (take_succ_mem hp).mpr (.inl e1), e2, e3⟩
 ·intro x b hx
  rw [lk_put] at hx
  split at hx
  ·cases hx
   exact ⟨by rw [hlk a (hne a a2)]; exact a3, a2.mono (by exact Nat.le_add_right _ _), a1⟩
  ·obtain ⟨b1, b2, b3⟩ := h.rv x b hx
   exact ⟨by rw [hlk b (hne b b2)]; exact b1, b2.mono (by exact Nat.le_add_right _ _), b3⟩
 ·intro x y hx
  obtain ⟨b1, b2, b3, b4, b5⟩ := h.iv x y hx
  exact ⟨by rw [hlk x (hne x b3)]; exact b1, by rw [hlk y (hne y b4)]; exact b2, b3.mono (by exact Nat.le_add_right _ _), b4.mono (by exact Nat.le_add_right _ _), b5⟩
 ·intro β hβ
  obtain ⟨v1, v2, v3⟩ := h.val β hβ
  refine ⟨fun x b hx => ?_, v2, fun q i' c2 hq' hi' hc2 hl => v3 q i' c2 (hq q i' c2 hq' hi' hc2 hl) hi' hc2 (hlk0 _ hl)⟩
  rw [lk_put] at hx
  split at hx
  ·next e =>
   cases hx
   rw [e, f3 β hβ]
   simp [evK]
  ·exact v1 x b hx
 ·intro q i' c2 hq' hi' hc2 hl
  have hqp := hq q i' c2 hq' hi' hc2 hl
  obtain ⟨n1, n2⟩ := h.new q i' c2 hqp hi' hc2 (hlk0 _ hl)
  refine ⟨n1, fun x hx => ?_⟩
  obtain ⟨m1, m2, m3⟩ := n2 x hx
  exact ⟨m1, m2, by rw [hlk x (hne x (m2.mono (by exact Nat.le_of_lt hqp)))]; exact m3⟩
 ·intro S hS
  obtain ⟨c1, c2, c3⟩ := h.cls S hS
  refine ⟨fun x b hx => ?_, c2, fun q i' c2 hq' hi' hc2 hl => c3 q i' c2 (hq q i' c2 hq' hi' hc2 hl) hi' hc2 (hlk0 _ hl)⟩
  rw [lk_put] at hx
  split at hx
  ·cases hx; exact f4 S hS a (by simp)
  ·exact c1 x b hx
 ·intro hC
  obtain ⟨k1, k2⟩ := h.con hC
  refine ⟨k1, fun q i' c' hq' hi' hc' => ?_⟩
  by_cases e : c'.out = c.out
  ·obtain ⟨x, hx, e'⟩ := f5 hC
   simp at e'
   subst e'
   exact ⟨a, hx, by rw [e, lk_put, if_pos rfl]⟩
  ·rw [hlk _ e]
   refine k2 q i' c' ?_ hi' hc'
   rcases Nat.lt_or_ge q p with hh | hh
   ·exact hh
   ·have : q = p := by exact oq29 hq' hh
    subst this
    rw [hp] at hi'; cases hi'
    rw [hc] at hc'; cases hc'
    exact (e rfl).elim
 ·have := lput_len (d := rep) (k := c.out) (v := a); have := h.rl; lia
 ·have := h.il; lia
theorem FI.stepCell (h : FI cs R p cs2 rep inv) (hs : Sound is cs) (ho : Ord cs R) (hp : R[p]? = some i) (hc : cs[i]? = some c) {f : Form3} (hb : f.1 ≠ "buf")
  (hf : f = simpleForm c.kind (c.ins.map (fin rep)) c.par inv) {inv' : ID} (hil : inv'.length ≤ inv.length + 2)
  (hinv : ∀ x y, lk inv' x = some y → lk inv x = some y ∨ ∃ a, f.1 = "not" ∧ f.2.1 = [a] ∧ ((x = c.out ∧ y = a) ∨ (x = a ∧ y = c.out))) :
  FI cs R (p + 1) (cs2.set i ⟨f.1, c.out, f.2.1, f.2.2⟩) rep inv' := by
 obtain ⟨f1, f2, f3, f4, f5⟩ := h.form hs ho hp hc hf
 have hn := h.now hs ho hp hc
 have hil' := (List.getElem?_eq_some_iff.mp hn.cur).1
 have hm := List.mem_of_getElem? hc
 have hic : isC cs i = true := (ho.mem i).mp (List.mem_of_getElem? hp)
 have hst : c.st = false := by unfold isC at hic; rw [hc] at hic; simpa using hic
 have hsetOut : Setl cs R (p + 1) c.out := by
  intro q i' c' hq hi' hc' e
  have := out_inj hs.nd hc' hc e
  subst this
  have := R_inj ho.nd hi' hp
  lia
 have hcase : ∀ (q i' : Nat) (c2 : Cell), q < p + 1 → R[q]? = some i' → (cs2.set i ⟨f.1, c.out, f.2.1, f.2.2⟩)[i']? = some c2 → (q < p ∧ cs2[i']? = some c2) ∨ (q = p ∧ c2 = ⟨f.1, c.out, f.2.1, f.2.2⟩) := by
  intro q i' c2 hq hi' hc2
  by_cases e : i' = i
  ·subst e
   have := R_inj ho.nd hi' hp
   subst this
   rw [List.getElem?_set_self hil'] at hc2; cases hc2
   exact .inr ⟨rfl, rfl⟩
  ·rw [List.getElem?_set_ne (fun z => e z.symm)] at hc2
   refine .inl ⟨?_, hc2⟩
   rcases Nat.lt_or_ge q p with hh | hh
   ·exact hh
   ·have : q = p := by exact oq29 hq hh
    subst this
    rw [hp] at hi'; cases hi'; exact (e rfl).elim
 refine ⟨by rw [List.length_set]; exact h.len, ?_, ?_, ?_, ?_, ?_, ?_, ?_, ?_, ?_, ?_⟩
 ·intro i' c' hc'
  by_cases e : i' = i
  ·subst e
   rw [hc] at hc'; cases hc'
   refine ⟨fun hi' => (hi' ((take_succ_mem hp).mpr (.inr rfl))).elim, _, List.getElem?_set_self hil', rfl, ?_⟩
   rw [hst]; exact f1.comb
  ·rw [List.getElem?_set_ne (fun z => e z.symm)]
   exact ⟨fun hi' => (h.st i' c' hc').1 fun hh => hi' ((take_succ_mem hp).mpr (.inl hh)), (h.st i' c' hc').2⟩
 ·intro x b hx
  obtain ⟨i', c', e1, e2, e3⟩ := h.key x b hx
  exact ⟨i', c', (take_succ_mem hp).mpr (.inl e1), e2, e3⟩
 ·intro x b hx
  obtain ⟨b1, b2, b3⟩ := h.rv x b hx
  exact ⟨b1, b2.mono (by exact Nat.le_add_right _ _), b3⟩
 ·intro x y hx
  rcases hinv x y hx with e | ⟨a, e1, e2, (⟨rfl, rfl⟩ | ⟨rfl, rfl⟩)⟩
  ·obtain ⟨b1, b2, b3, b4, b5⟩ := h.iv x y e
   exact ⟨b1, b2, b3.mono (by exact Nat.le_add_right _ _), b4.mono (by exact Nat.le_add_right _ _), b5⟩
  ·obtain ⟨g1, g2, g3⟩ := f2 y (by rw [e2]; simp)
   exact ⟨hn.outN, g3, hsetOut, g2.mono (by exact Nat.le_add_right _ _), g1⟩
  ·obtain ⟨g1, g2, g3⟩ := f2 x (by rw [e2]; simp)
   exact ⟨g3, hn.outN, g2.mono (by exact Nat.le_add_right _ _), hsetOut, (hs.pos c hm).1⟩
 ·intro β hβ
  obtain ⟨v1, v2, v3⟩ := h.val β hβ
  refine ⟨v1, fun x y hx => ?_, fun q i' c2 hq hi' hc2 hl => ?_⟩
  ·rcases hinv x y hx with e | ⟨a, e1, e2, ee⟩
   ·exact v2 x y e
   ·have hv := f3 β hβ
    rw [e1, e2] at hv
    have hv' : β c.out = !β a := by rw [hv]; simp [evK]
    rcases ee with ⟨rfl, rfl⟩ | ⟨rfl, rfl⟩
    ·exact hv'
    ·rw [hv']; simp
  ·rcases hcase q i' c2 hq hi' hc2 with ⟨a1, a2⟩ | ⟨_, rfl⟩
   ·exact v3 q i' c2 a1 hi' a2 hl
   ·exact f3 β hβ
 ·intro q i' c2 hq hi' hc2 hl
  rcases hcase q i' c2 hq hi' hc2 with ⟨a1, a2⟩ | ⟨rfl, rfl⟩
  ·exact h.new q i' c2 a1 hi' a2 hl
  ·exact ⟨f1, fun x hx => f2 x hx⟩
 ·intro S hS
  obtain ⟨c1, c2, c3⟩ := h.cls S hS
  refine ⟨c1, fun x y hx => ?_, fun q i' c2 hq hi' hc2 hl => ?_⟩
  ·rcases hinv x y hx with e | ⟨a, e1, e2, (⟨rfl, rfl⟩ | ⟨rfl, rfl⟩)⟩
   ·exact c2 x y e
   ·exact f4 S hS y (by rw [e2]; simp)
   ·exact (hS.2.2 c hm hst).1
  ·rcases hcase q i' c2 hq hi' hc2 with ⟨a1, a2⟩ | ⟨_, rfl⟩
   ·exact c3 q i' c2 a1 hi' a2 hl
   ·exact f4 S hS
 ·intro hC
  obtain ⟨x, hx, e'⟩ := f5 hC
  rw [e'] at hb; exact (hb rfl).elim
 ·have := h.rl; exact Nat.le_succ_of_le this
 ·have := h.il; lia
end
end Mine
end
section
open PySem
set_option maxRecDepth 100000
namespace Mine
structure Folded (cs cs2 : List Cell) (rep : ID) (R : List Nat) (inv : ID) : Prop where
 ord : Ord cs R
 fi : FI cs R R.length cs2 rep inv
section
variable {H : List AO} {Q : V → List AO → Prop} {n : Nat} {cnt : Int} {is os : Ports} {cs : List Cell} {j ji jo jc : Nat} {vi vo : List V}
theorem Ord.len {R : List Nat} (h : Ord cs R) : R.length ≤ cs.length := nodup_len _ R h.nd fun k hk => isC_lt ((h.mem k).mp hk)
theorem c_fold (h : NetR H n cnt is os cs j ji jo jc vi vo) {rank : Int → Nat} (hf : Fit is cs rank) (hs : Sound is cs) (hil : is.length ≤ 900) (hol : os.length ≤ 900) (hin : ∀ p ∈ is, p.2.length ≤ 900) (hon : ∀ p ∈ os, p.2.length ≤ 900)
  (q : ∀ n' j ji jo jc vi vo H' cs2 rep R inv, Keep H H' → Folded cs cs2 rep R inv → NetR H' n' cnt is (rebPorts rep os) (rebCells rep cs2) j ji jo jc vi vo → Q (.ref n') H') : f_fold_constants [.ref n] H Q := by
 unfold f_fold_constants bw_fold_constants
 simp only [df1, ↓vf7, Nat.reduceSub, rp14, zk55, zk52, zk60, nm0, zk61]
 refine h.a_cells.mpr ?_
 have hcl : cs.length ≤ 100 := by have := hf.len; simp only [List.length_append, List.length_map] at this; exact oq26 this
 refine ⟨_, h.cel, by rw [List.length_map]; exact om5 hcl rfl, ?_⟩
 simp only [ka1, ↓vf7, dict0W_p, List.length_append, List.length_cons, List.length_nil, Nat.zero_add, ka2, ka3, ↓vf13, zk83, zk55, ↓cn0, nilW_p, zk54, zk56]
 have hK3 := ((Keep.app H [AO.list (cs.map cellV)]).trans (Keep.app _ [AO.dict []])).trans (Keep.app _ [AO.dict []])
 refine c_comb_order (h.keep hK3) hf fun R kR H₁ hK₁ hkR hO hR => ?_
 simp only [zk84, zk18]
 refine ⟨_, hR, ?_⟩
 have hkR' : H.length + 3 ≤ kR := by simpa using hkR
 refine loop_nth (fun p ρ H' => Ex3 fun cs2 rep inv => An7 (FI cs R p cs2 rep inv) (Keep H H') (H'[kR]? = some (.list (nats R))) (H'[H.length]? = some (.list (cs2.map cellV))) (H'[H.length + 1]? = some (DI rep)) (H'[H.length + 2]? = some (DI inv)) (Ex6 fun o4 o5 o6 o7 o8 o9 => ρ = [some (.ref n), some (.ref H.length), some (.ref (H.length + 1)), some (.ref (H.length + 2)), o4, o5, o6, o7, o8, o9, none, none, none, none, none])) ?_ ?_ ?_
 ·exact ⟨cs, [], [], FI.zero cs R, hK3.trans hK₁, hR, hK₁ _ _ (by simp), hK₁ _ _ (by simp [DI]), hK₁ _ _ (by simp [DI]), none, none, none, none, none, none, rfl⟩
 ·rintro p v hv ρ H' B' ⟨cs2, rep, inv, hFI, hK, hR, hC, hP, hI, o4, o5, o6, o7, o8, o9, rfl⟩ hB
  refine ⟨hR, ?_⟩
  rw [Src.items, List.getElem?_map] at hv
  obtain ⟨i, hp, rfl⟩ := Option.map_eq_some_iff.mp hv
  have hpl := (List.getElem?_eq_some_iff.mp hp).1
  have hRl := hO.len
  have hi := isC_lt ((hO.mem i).mp (List.mem_of_getElem? hp))
  have hc : cs[i]? = some cs[i] := List.getElem?_eq_getElem hi
  generalize cs[i] = c at hc
  have hN := hFI.now hs hO hp hc
  simp only [zk19, na4, zk20, ↓vf7, ↓sn1, nm4, zk59]
  refine (get_cell hC hN.cur (by exact om10 hi hcl rfl)).mpr ?_
  refine cell1.mpr ?_
  simp only [↓vf7, List.set_cons_succ, List.set_cons_zero, zk55, zk52, zk115, zk83, ↓sn5, constW_p, zk59]
  refine cell2.mpr ?_
  have hpins := hf.pins c (List.mem_of_getElem? hc)
  refine c_finals trivial hP (fun a b e => (hFI.rv a b e).1) (by exact om5 hpins rfl) ⟨none, rfl⟩ ?_
  refine ⟨_, app_get, by rw [List.length_map, List.length_map]; exact om5 hpins rfl, ?_⟩
  simp only [ka7, ↓vf7, zk55, ↓cn5, ↓cn7, ↓cn3, nilW_p, ↓vf6, zk54, zk56]
  have hKa := Keep.app H' [AO.list ((c.ins.map (fin rep)).map V.int)]
  refine c_simple_form hN.good (fun x hx => (hN.fins x hx).1) (hKa _ _ hI) fun H'' hK'' => ?_
  generalize hf' : simpleForm c.kind (c.ins.map (fin rep)) c.par inv = f
  obtain ⟨f1, f2, f3, f4, f5⟩ := hFI.form hs hO hp hc hf'.symm
  have hK2 := hKa.trans hK''
  replace hK := hK.trans hK2
  replace hR := hK2 _ _ hR
  replace hC := hK2 _ _ hC
  replace hP := hK2 _ _ hP
  replace hI := hK2 _ _ hI
  unfold tfV
  simp only [ktup, tupA_p, List.length_cons, List.length_nil, Nat.zero_add, Nat.reduceAdd, zk69, na8, zk70, na7, na9, nilAs_p, ↓vf12, ↓vf8, ↓tn8, constW_p, ↓vf21, zk9, beq_iff_eq, ↓vf7, ↓sn7, zk59, zk48, ↓cn8, ↓cn6, ↓cn7, ↓cn9, nilW_p, ↓vf6, zk49, Nat.reduceLeDiff, ksub, nm1, zk67, nm4, zk68, true_and]
  have hlt : H.length + 2 < H''.length := (List.getElem?_eq_some_iff.mp hI).1
  by_cases hb : f.1 = "buf"
  ·rw [if_pos hb]
   obtain ⟨k, l, pr⟩ := f
   simp only at hb; subst hb
   obtain ⟨a, e1, e2⟩ := f1.inv_buf rfl
   simp only at e1 e2; subst e1; subst e2
   simp only [List.map_cons, List.map_nil, get_t0, ksub, nm2, zk67, nm6, zk68]
   have hrl := hFI.rl
   refine set_DI hP (by lia) ?_
   refine (hB _ _ ⟨cs2, _, inv, hFI.stepBuf hs hO hp hc hf'.symm, hK.set' (by exact Nat.le_add_right _ _) _, ?_, ?_, ?_, ?_, some (.int i), some (cellV c), some (.int c.out), some (.tup [.int a]), some (.str "buf"), some .none, rfl⟩).1
   ·rw [List.getElem?_set_ne (by exact om18 hkR' rfl)]; exact hR
   ·rw [List.getElem?_set_ne (by exact om14 rfl)]; exact hC
   ·rw [List.getElem?_set_self (by exact om47 hlt rfl)]
   ·rw [List.getElem?_set_ne (by exact om13 rfl)]; exact hI
  ·rw [if_neg hb]
   have hil := hFI.il
   have hcl2 := hFI.len
   refine .inr ⟨_, hC, by exact Int.natCast_nonneg _, by rw [List.length_map]; lia, by rw [List.length_map]; exact om9 hcl2 hcl rfl, ?_⟩
   have em : (cs2.map cellV).set (i : Int).toNat (.tup [.str f.1, .int c.out, .tup (f.2.1.map V.int), f.2.2]) = (cs2.set i ⟨f.1, c.out, f.2.1, f.2.2⟩).map cellV := by
    rw [Int.toNat_natCast, List.map_set]; rfl
   rw [em]
   generalize hcs2' : cs2.set i ⟨f.1, c.out, f.2.1, f.2.2⟩ = cs2'
   have hC' : (H''.set H.length (AO.list (cs2'.map cellV)))[H.length]? = some (.list (cs2'.map cellV)) := by rw [List.getElem?_set_self (by exact oq18 hlt)]
   have hP' : (H''.set H.length (AO.list (cs2'.map cellV)))[H.length + 1]? = some (DI rep) := by rw [List.getElem?_set_ne (by exact om15 rfl)]; exact hP
   have hI' : (H''.set H.length (AO.list (cs2'.map cellV)))[H.length + 2]? = some (DI inv) := by rw [List.getElem?_set_ne (by exact om15 rfl)]; exact hI
   have hR' : (H''.set H.length (AO.list (cs2'.map cellV)))[kR]? = some (.list (nats R)) := by rw [List.getElem?_set_ne (by exact om19 hkR' rfl)]; exact hR
   have hK' := hK.set' (Nat.le_refl _) (AO.list (cs2'.map cellV))
   have hlen' : (H''.set H.length (AO.list (cs2'.map cellV))).length = H''.length := List.length_set
   generalize H''.set H.length (AO.list (cs2'.map cellV)) = H₃ at *
   simp only [↓vf12, ↓vf8, ↓tn8, constW_p, ↓vf21, zk9, beq_iff_eq, ↓vf7, ↓sn7, zk59, nextBW_p, zk5]
   by_cases hnot : f.1 = "not"
   ·rw [if_pos hnot]
    obtain ⟨a, e1, e2⟩ := f1.inv_not hnot
    rw [e1]
    simp only [List.map_cons, List.map_nil, get_t0, ksub, nm3, zk67, nm6, zk68]
    refine set_DI hI' (by lia) ?_
    have hI2 : (H₃.set (H.length + 2) (DI (lput inv c.out a)))[H.length + 2]? = some (DI (lput inv c.out a)) := by rw [List.getElem?_set_self (by exact oq30 hlt hlen')]
    have l1 := lput_len (d := inv) (k := c.out) (v := a)
    have l2 := lput_len (d := lput inv c.out a) (k := a) (v := c.out)
    simp only [↓vf12, ↓vf7, nm6, ksub, nm3, zk67, ↓sn7, constW_p, zk59, get_t0, zk68]
    refine set_DI hI2 (by lia) ?_
    rw [List.set_set]
    refine (hB _ _ ⟨cs2', rep, lput (lput inv c.out a) a c.out, ?_, hK'.set' (by exact Nat.le_add_right _ _) _, ?_, ?_, ?_, ?_, some (.int i), some (cellV c), some (.int c.out), some (.tup [.int a]), some (.str f.1), some f.2.2, rfl⟩).1
    ·rw [← hcs2']
     refine hFI.stepCell hs hO hp hc hb hf'.symm (inv' := lput (lput inv c.out a) a c.out) (by lia) ?_
     intro x y hx
     rw [lk_put] at hx
     split at hx
     ·next e => cases hx; exact .inr ⟨a, hnot, e1, .inr ⟨e, rfl⟩⟩
     ·rw [lk_put] at hx
      split at hx
      ·next e => cases hx; exact .inr ⟨a, hnot, e1, .inl ⟨e, rfl⟩⟩
      ·exact .inl hx
    ·rw [List.getElem?_set_ne (by exact om18 hkR' rfl)]; exact hR'
    ·rw [List.getElem?_set_ne (by exact om14 rfl)]; exact hC'
    ·rw [List.getElem?_set_ne (by exact om13 rfl)]; exact hP'
    ·rw [List.getElem?_set_self (by exact oq30 hlt hlen')]
   ·rw [if_neg hnot]
    refine (hB _ _ ⟨cs2', rep, inv, ?_, hK', hR', hC', hP', hI', some (.int i), some (cellV c), some (.int c.out), some (.tup (f.2.1.map V.int)), some (.str f.1), some f.2.2, rfl⟩).1
    rw [← hcs2']
    exact hFI.stepCell hs hO hp hc hb hf'.symm (by exact Nat.le_add_right _ _) fun x y hx => .inl hx
 ·rintro ρ H' ⟨cs2, rep, inv, hFI, hK, hR, hC, hP, hI, o4, o5, o6, o7, o8, o9, rfl⟩
  refine ⟨hR, ?_⟩
  rw [Src.items, List.length_map] at hFI
  simp only [zk5, ↓vf9, zk55, ↓cn0, ↓cn1, ↓cn2, nilW_p, ↓vf6, zk54, zk56]
  refine c_rebuilt_cells (h.keep hK) hC hP (fun a b e => (hFI.rv a b e).1) (by rw [hFI.len]; exact om5 hcl rfl) hil hol hin hon ?_ fun n' j ji jo jc vi vo H'' hK'' hN => ?_
  ·intro c2 hc2 hl
   obtain ⟨i, hi⟩ := List.mem_iff_getElem?.mp hc2
   have hil := (List.getElem?_eq_some_iff.mp hi).1
   rw [hFI.len] at hil
   have hc : cs[i]? = some cs[i] := List.getElem?_eq_getElem hil
   by_cases hic : isC cs i = true
   ·obtain ⟨p, hp⟩ := List.mem_iff_getElem?.mp ((hO.mem i).mpr hic)
    have := (hFI.new p i c2 (List.getElem?_eq_some_iff.mp hp).1 hp hi hl).1.len
    exact om5 this rfl
   ·have hni : i ∉ R.take R.length := fun hm => hic ((hO.mem i).mp (List.mem_of_mem_take hm))
    have := (hFI.st i _ hc).1 hni
    rw [hi] at this; cases this
    have := hf.pins _ (List.getElem_mem hil); exact om5 this rfl
  ·exact q n' j ji jo jc vi vo H'' cs2 rep R inv (hK.trans hK'') ⟨hO, hFI⟩ hN
end
end Mine
end
section
open PySem
set_option maxRecDepth 100000
namespace Mine
section
variable {H : List AO} {Q : V → List AO → Prop}
noncomputable abbrev fullW (rows : Nat) : Nat := 2 ^ rows - 1
theorem full_bit (rows l : Nat) : (fullW rows).testBit l = decide (l < rows) := Nat.testBit_two_pow_sub_one rows l
theorem full_lt (rows : Nat) : fullW rows < 2 ^ rows := by have := Nat.two_pow_pos rows; unfold fullW; lia
theorem rowB_eq {bs : List Bool} {row : Nat} (h : row < 2 ^ bs.length) : rowB bs = row ↔ ∀ j, j < bs.length → bs.getD j false = row.testBit j := by
 have hb : ∀ j, (rowB bs).testBit j = bs.getD j false := fun j => by
  unfold rowB
  rw [rowNum_bit, List.getD_eq_getElem?_getD, List.getD_eq_getElem?_getD, List.getElem?_map]
  cases bs[j]? with
  | none => rfl
  | some b => cases b <;> rfl
 constructor
 ·intro e j hj; rw [← hb, e]
 ·intro hh
  apply Nat.eq_of_testBit_eq
  intro j
  rw [hb]
  rcases Nat.lt_or_ge j bs.length with hj | hj
  ·exact hh j hj
  ·rw [List.getD_eq_getElem?_getD, List.getElem?_eq_none hj, Nat.testBit_lt_two_pow (Nat.lt_of_lt_of_le h (Nat.pow_le_pow_right (by decide) hj))]; rfl
theorem rowB_lt (bs : List Bool) : rowB bs < 2 ^ bs.length := by
 have := rowNum_lt (bs.map Bool.toNat); simpa [rowB] using this
noncomputable def tableBW : BW := (seqBW (asgBW (constW (.int 0)) (nameA 5)) (seqBW (forBW (rangeW (consW (binW .LShift (constW (.int 1)) (callW (consW (nameW 2) (nilW)) lenF)) (nilW))) (nameA 6) (seqBW (ifBW (plainTW (binW .BitAnd (binW .RShift (nameW 4) (nameW 6)) (constW (.int 1)))) (seqBW (asgBW (nameW 3) (nameA 7)) (seqBW (forBW (rangeW (consW (callW (consW (nameW 2) (nilW)) lenF) (nilW))) (nameA 8) (seqBW (augNameBW 7 .BitAnd (iteW (plainTW (binW .BitAnd (binW .RShift (nameW 6) (nameW 8)) (constW (.int 1)))) (subW (nameW 2) (nameW 8)) (binW .BitXor (nameW 3) (subW (nameW 2) (nameW 8))))) (nextBW))) (seqBW (augNameBW 5 .BitOr (nameW 7)) (nextBW)))) (nextBW)) (nextBW))) (seqBW (retBW (nameW 5)) (nextBW))))
noncomputable def gatesBW : BW := (seqBW (ifBW (orTW (cmpTW .Eq (nameW 0) (constW (.str "buf"))) (orTW (cmpTW .Eq (nameW 0) (constW (.str "not"))) (trueTW false))) (seqBW (retBW (iteW (cmpTW .Eq (nameW 0) (constW (.str "buf"))) (subW (nameW 2) (constW (.int 0))) (binW .BitXor (nameW 3) (subW (nameW 2) (constW (.int 0)))))) (nextBW)) (nextBW)) (seqBW (ifBW (cmpTW .Eq (nameW 0) (constW (.str "mux"))) (seqBW (retBW (binW .BitOr (binW .BitAnd (subW (nameW 2) (constW (.int 0))) (subW (nameW 2) (constW (.int 2)))) (binW .BitAnd (binW .BitXor (nameW 3) (subW (nameW 2) (constW (.int 0)))) (subW (nameW 2) (constW (.int 1)))))) (nextBW)) (nextBW)) (seqBW (ifBW (orTW (cmpTW .Eq (nameW 0) (constW (.str "and"))) (orTW (cmpTW .Eq (nameW 0) (constW (.str "nand"))) (trueTW false))) (seqBW (asgBW (binW .BitAnd (subW (nameW 2) (constW (.int 0))) (subW (nameW 2) (constW (.int 1)))) (nameA 5)) (nextBW)) (seqBW (ifBW (orTW (cmpTW .Eq (nameW 0) (constW (.str "or"))) (orTW (cmpTW .Eq (nameW 0) (constW (.str "nor"))) (trueTW false))) (seqBW (asgBW (binW .BitOr (subW (nameW 2) (constW (.int 0))) (subW (nameW 2) (constW (.int 1)))) (nameA 5)) (nextBW)) (seqBW (asgBW (binW .BitXor (subW (nameW 2) (constW (.int 0))) (subW (nameW 2) (constW (.int 1)))) (nameA 5)) (nextBW))) (nextBW))) (seqBW (retBW (iteW (cmpTW .In (nameW 0) (tupW (consW (constW (.str "nand")) (consW (constW (.str "nor")) (consW (constW (.str "xnor")) (nilW)))))) (binW .BitXor (nameW 3) (nameW 5)) (nameW 5))) (nextBW)))))
theorem word_eq : bw_law_word = seqBW (ifBW (orTW (cmpTW .Eq (nameW 0) (constW (.str "lut"))) (orTW (cmpTW .Eq (nameW 0) (constW (.str "cell"))) (trueTW false))) (seqBW (asgBW (iteW (cmpTW .Eq (nameW 0) (constW (.str "lut"))) (nameW 1) (subW (nameW 1) (constW (.int 1)))) (nameA 4)) tableBW) (nextBW)) gatesBW := rfl
theorem c_table_word {t rows k : Nat} {ws : List Nat} {k0 p0 : Option V} {B : Fl → Rho → List AO → Prop} (hk : H[k]? = some (.list (nats ws))) (hl : ws.length ≤ 3) (hw : ∀ w ∈ ws, w < 2 ^ rows)
  (q : ∀ (v : Nat) ρ, v < 2 ^ rows → (∀ l, l < rows → v.testBit l = evT t (ws.map (·.testBit l))) → B (.ret (.int (v : Int))) ρ H) :
  tableBW [k0, p0, some (.ref k), some (.int (fullW rows : Nat)), some (.int (t : Nat)), none, none, none, none, none, none] H B := by
 unfold tableBW
 simp only [↓vf7, constW_p, ka5, ↓vf13, zk81, zk52, zk62, zk63, zk55, ↓cn2, nilW_p, zk54, zk56, len_ref hk, List.length_map, zk64, bin_shl, ↓vf5, shl_one, zk82, zk18]
 have h8 := shl8 hl
 refine ⟨by exact om5 hl rfl, by exact Int.natCast_nonneg _, by exact om39 hl rfl, by decide, Int.lt_of_lt_of_le (by decide) (Int.natCast_nonneg _), by exact om38 h8 rfl, ?_⟩
 refine range_inv rfl (fun i ρ H' => H' = H ∧ Ex4 fun (m : Nat) (o6 o7 o8 : Option V) => An3 (m < 2 ^ rows) ((∀ l, l < rows → m.testBit l = (decide (rowB (ws.map (·.testBit l)) < i) && evT t (ws.map (·.testBit l))))) (ρ = [k0, p0, some (.ref k), some (.int (fullW rows : Nat)), some (.int (t : Nat)), some (.int (m : Nat)), o6, o7, o8, none, none])) ?_ ?_ ?_
 ·exact ⟨rfl, 0, none, none, none, Nat.two_pow_pos _, fun l _ => by simp, rfl⟩
 ·rintro i hi ρ H' B' ⟨rfl, m, o6, o7, o8, hm, hmb, rfl⟩ hB
  simp only [zk19, na6, zk20, ↓vf8, zk36, zk62, nm4, zk63, nm6, zk64, bin_shr, ↓vf4, nat_shr, bin_and, nat_and1, zk30, tru_int, and1_bit, zk9, ↓vf7, nm3, ka7, ↓vf13, zk81, zk52, zk55, ↓cn2, nilW_p, zk54, zk56, nextBW_p, zk5]
  refine ⟨by exact Int.natCast_nonneg _, ?_⟩
  have hi2 : i < 2 ^ ws.length := by rwa [Nat.shiftLeft_eq, Nat.one_mul] at hi
  have hstep : ∀ l, (decide (rowB (ws.map (·.testBit l)) < i + 1) && evT t (ws.map (·.testBit l))) = ((decide (rowB (ws.map (·.testBit l)) < i) && evT t (ws.map (·.testBit l))) || (decide (rowB (ws.map (·.testBit l)) = i) && t.testBit i)) := by
   intro l
   rcases Nat.lt_trichotomy (rowB (ws.map (·.testBit l))) i with h | h | h
   ·have a : rowB (ws.map (·.testBit l)) < i + 1 := by exact Nat.lt_succ_of_lt h
    have b : ¬ rowB (ws.map (·.testBit l)) = i := by exact Nat.ne_of_lt h
    simp [h, a, b]
   ·have a : rowB (ws.map (·.testBit l)) < i + 1 := by lia
    have b : ¬ rowB (ws.map (·.testBit l)) < i := by lia
    unfold evT
    rw [decide_eq_true a, decide_eq_false b, decide_eq_true h, h]; simp
   ·have a : ¬ rowB (ws.map (·.testBit l)) < i + 1 := by exact oq8 h
    have b : ¬ rowB (ws.map (·.testBit l)) < i := by lia
    have c : ¬ rowB (ws.map (·.testBit l)) = i := by lia
    simp [a, b, c]
  by_cases hb : t.testBit i = true
  ·rw [if_pos hb, len_ref hk, List.length_map]
   refine ⟨by exact om5 hl rfl, by exact om1 _, by exact om38 hl rfl, ?_⟩
   refine range_inv (n := ws.length) rfl (fun j ρ H'' => H'' = H' ∧ Ex2 fun (p : Nat) (o8 : Option V) => An3 (p < 2 ^ rows) ((∀ l, l < rows → p.testBit l = decide (∀ x, x < j → (ws.map (·.testBit l)).getD x false = i.testBit x))) (ρ = [k0, p0, some (.ref k), some (.int (fullW rows : Nat)), some (.int (t : Nat)), some (.int (m : Nat)), some (.int (i : Nat)), some (.int (p : Nat)), o8, none, none])) ?_ ?_ ?_
   ·refine ⟨rfl, fullW rows, o8, full_lt rows, fun l hl => ?_, rfl⟩
    rw [full_bit]; simp [hl]
   ·rintro j hj ρ H'' B'' ⟨rfl, p, o8, hp, hpb, rfl⟩ hB''
    have hg : (nats ws)[j]? = some (.int (ws[j] : Nat)) := by rw [List.getElem?_map, List.getElem?_eq_getElem hj]; rfl
    have hwj := hw _ (List.getElem_mem hj)
    simp only [zk19, na8, zk20, zk4_, augN7, zk46, zk36, zk62, nm6, zk63, nm8, zk64, bin_shr, ↓vf4, nat_shr, bin_and, nat_and1, zk30, tru_int, and1_bit, zk47, ↓sn2, zk59, nm3]
    refine ⟨by exact Int.natCast_nonneg _, ?_⟩
    have nb : ∀ (u : Nat), u < 2 ^ rows → (∀ l, l < rows → u.testBit l = decide ((ws.map (·.testBit l)).getD j false = i.testBit j)) →
      B'' .next [k0, p0, some (.ref k), some (.int (fullW rows : Nat)), some (.int (t : Nat)), some (.int (m : Nat)), some (.int (i : Nat)), some (.int ((p &&& u : Nat) : Int)), some (.int (j : Nat)), none, none] H'' := by
     intro u hu hub
     refine (hB'' _ _ ⟨rfl, p &&& u, some (.int (j : Nat)), Nat.and_lt_two_pow _ hu, fun l hl => ?_, rfl⟩).1
     rw [Nat.testBit_and, hpb l hl, hub l hl]
     rw [Bool.eq_iff_iff, Bool.and_eq_true, decide_eq_true_iff, decide_eq_true_iff, decide_eq_true_iff]
     constructor
     ·rintro ⟨a, b⟩ x hx
      by_cases e : x = j
      ·subst e; exact b
      ·exact a x (by exact om32 hx e)
     ·intro a; exact ⟨fun x hx => a x (by exact Nat.lt_succ_of_lt hx), a j (by exact om33 rfl)⟩
    have hgd : ∀ l, (ws.map (·.testBit l)).getD j false = ws[j].testBit l := fun l => by
     rw [List.getD_eq_getElem?_getD, List.getElem?_map, List.getElem?_eq_getElem hj]; rfl
    by_cases hij : i.testBit j = true
    ·rw [if_pos hij]
     refine (get_ref hk hg (by exact om10 hj hl rfl)).mpr ?_
     simp only [zk72, inp_and, nat_and, kn7, zk5, nextBW_p]
     exact nb ws[j] hwj fun l hl => by rw [hgd, hij]; simp
    ·rw [if_neg hij]
     refine (get_ref hk hg (by exact om10 hj hl rfl)).mpr ?_
     simp only [zk64, bin_xor, nat_xor, zk72, inp_and, nat_and, kn7, zk5, nextBW_p]
     refine nb _ (Nat.xor_lt_two_pow (full_lt rows) hwj) fun l hl => ?_
     rw [Bool.not_eq_true] at hij
     rw [Nat.testBit_xor, full_bit, hgd, hij, decide_eq_true hl]; simp
   ·rintro ρ H'' ⟨rfl, p, o8, hp, hpb, rfl⟩
    simp only [zk5, zk4_, augN5, nm7, zk72, inp_or, nat_or, kn5, nextBW_p]
    refine (hB _ _ ⟨rfl, m ||| p, some (.int (i : Nat)), some (.int (p : Nat)), o8, Nat.or_lt_two_pow hm hp, fun l hl => ?_, rfl⟩).1
    rw [Nat.testBit_or, hmb l hl, hpb l hl, hstep l, hb, Bool.and_true]
    congr 1
    have := rowB_eq (bs := ws.map (·.testBit l)) (row := i) (by rw [List.length_map]; exact hi2)
    rw [List.length_map] at this
    rw [decide_eq_decide, this]
  ·rw [if_neg hb]
   refine (hB _ _ ⟨rfl, m, some (.int (i : Nat)), o7, o8, hm, fun l hl => ?_, rfl⟩).1
   rw [Bool.not_eq_true] at hb
   rw [hmb l hl, hstep l, hb]; simp
 ·rintro ρ H' ⟨rfl, m, o6, o7, o8, hm, hmb, rfl⟩
  simp only [zk5, ↓vf9, nm5, zk11]
  refine q m _ hm fun l hl => ?_
  rw [hmb l hl]
  have := rowB_lt (ws.map (·.testBit l))
  rw [List.length_map] at this
  rw [Nat.shiftLeft_eq, Nat.one_mul, decide_eq_true this, Bool.true_and]
section
variable {kind s1 s2 : String} {p q r : BW} {ρ : Rho} {B : Fl → Rho → List AO → Prop}
theorem or2n (h1 : (kind == s1) = false) (h2 : (kind == s2) = false) (h : r (some (.str kind) :: ρ) H B) : seqBW (ifBW (orTW (cmpTW .Eq (nameW 0) (constW (.str s1))) (orTW (cmpTW .Eq (nameW 0) (constW (.str s2))) (trueTW false))) p nextBW) r (some (.str kind) :: ρ) H B := by
 simp only [↓vf8, zk21, ↓tn0, constW_p, ↓vf21, h1, zk22, Bool.false_eq_true, ↓reduceIte, h2, trueTW_p, zk9, nextBW_p, zk5]; exact h
theorem or2e (h1 : (kind == s1) = false) (h2 : (kind == s2) = false) (h : q (some (.str kind) :: ρ) H (kSeq r B)) : seqBW (ifBW (orTW (cmpTW .Eq (nameW 0) (constW (.str s1))) (orTW (cmpTW .Eq (nameW 0) (constW (.str s2))) (trueTW false))) p q) r (some (.str kind) :: ρ) H B := by
 simp only [↓vf8, zk21, ↓tn0, constW_p, ↓vf21, h1, zk22, Bool.false_eq_true, ↓reduceIte, h2, trueTW_p, zk9]; exact h
theorem or2y (h1 : (kind == s1) = true ∨ (kind == s2) = true) (h : p (some (.str kind) :: ρ) H (kSeq r B)) : seqBW (ifBW (orTW (cmpTW .Eq (nameW 0) (constW (.str s1))) (orTW (cmpTW .Eq (nameW 0) (constW (.str s2))) (trueTW false))) p q) r (some (.str kind) :: ρ) H B := by
 rcases h1 with e | e <;> simp only [↓vf8, zk21, ↓tn0, constW_p, ↓vf21, e, zk22, ↓reduceIte, zk9, ite_self]
 ·exact h
 ·cases kind == s1
  ·exact h
  ·exact h
theorem eqn (h1 : (kind == s1) = false) (h : r (some (.str kind) :: ρ) H B) : seqBW (ifBW (cmpTW .Eq (nameW 0) (constW (.str s1))) p nextBW) r (some (.str kind) :: ρ) H B := by
 simp only [↓vf8, ↓tn0, constW_p, ↓vf21, h1, zk9, Bool.false_eq_true, ↓reduceIte, nextBW_p, zk5]; exact h
theorem eqy (h1 : (kind == s1) = true) (h : p (some (.str kind) :: ρ) H (kSeq r B)) : seqBW (ifBW (cmpTW .Eq (nameW 0) (constW (.str s1))) p q) r (some (.str kind) :: ρ) H B := by
 simp only [↓vf8, ↓tn0, constW_p, ↓vf21, h1, zk9, ↓reduceIte]; exact h
end
noncomputable def endBW : BW := seqBW (retBW (iteW (cmpTW .In (nameW 0) (tupW (consW (constW (.str "nand")) (consW (constW (.str "nor")) (consW (constW (.str "xnor")) (nilW)))))) (binW .BitXor (nameW 3) (nameW 5)) (nameW 5))) (nextBW)
theorem c_end {kind : String} {p0 : Option V} {v k rows : Nat} {T : Option V} {B : Fl → Rho → List AO → Prop} {ρ : Rho}
  (h : ∀ u : Nat, u = (if ["nand", "nor", "xnor"].any (· == kind) = true then fullW rows ^^^ v else v) → B (.ret (.int (u : Nat))) (some (.str kind) :: p0 :: some (.ref k) :: some (.int (fullW rows : Nat)) :: T :: some (.int (v : Nat)) :: ρ) H) :
  endBW (some (.str kind) :: p0 :: some (.ref k) :: some (.int (fullW rows : Nat)) :: T :: some (.int (v : Nat)) :: ρ) H B := by
 unfold endBW
 simp only [↓vf9, zk46, ↓tn0, zk48, ↓vf22, nilW_p, ↓vf6, zk54, zk49, List.length_cons, List.length_nil, Nat.zero_add, Nat.reduceAdd, Nat.reduceLeDiff, zk29, true_and]
 refine ⟨["nand", "nor", "xnor"], rfl, ?_⟩
 simp only [↓vf14, zk47, zk62, nm3, zk63, nm5, zk64, bin_xor, nat_xor, zk11]
 split
 ·next e => exact h _ (by rw [if_pos e])
 ·next e => exact h _ (by rw [if_neg e])
theorem c_two {kind : String} {p0 f0 T : Option V} {w0 w1 v k : Nat} {op : Operator} {B : Fl → Rho → List AO → Prop} {o5 : Option V} {ρ : Rho} (hk : H[k]? = some (.list (nats [w0, w1])))
  (hop : ∀ Q : V → List AO → Prop, Q (.int (v : Nat)) H → binV op (.int (w0 : Nat)) (.int (w1 : Nat)) H Q) (h : endBW (some (.str kind) :: p0 :: some (.ref k) :: f0 :: T :: some (.int (v : Nat)) :: ρ) H B) :
  seqBW (asgBW (binW op (subW (nameW 2) (constW (.int 0))) (subW (nameW 2) (constW (.int 1)))) (nameA 5)) (nextBW) (some (.str kind) :: p0 :: some (.ref k) :: f0 :: T :: o5 :: ρ) H (kSeq endBW B) := by
 simp only [↓vf7, zk62, ↓sn2, constW_p, zk59]
 refine (get_ref (i := 0) hk rfl (by decide)).mpr ?_
 simp only [zk63, ↓sn2, constW_p, zk59]
 refine (get_ref (i := 1) hk rfl (by decide)).mpr ?_
 simp only [zk64]
 refine hop _ ?_
 simp only [ka5, nextBW_p, zk5]
 exact h
theorem c_law_word {kind : String} {is : List Int} {par : V} {rows k : Nat} {ws : List Nat} (hg : Good kind is par) (hlen : ws.length = is.length) (hk : H[k]? = some (.list (nats ws))) (hw : ∀ w ∈ ws, w < 2 ^ rows)
  (q : ∀ v : Nat, v < 2 ^ rows → (∀ l, l < rows → v.testBit l = evK kind par (ws.map (·.testBit l))) → Q (.int (v : Int)) H) : f_law_word [.str kind, par, .ref k, .int (fullW rows : Nat)] H Q := by
 unfold f_law_word
 rw [word_eq]
 unfold gatesBW
 have fl := full_lt rows
 simp only [df4, rp7, Nat.reduceSub]
 cases hg with
 | @lut ins t hl =>
  refine or2y (.inl rfl) ?_
  simp only [↓vf7, zk46, ↓tn0, constW_p, ↓vf21, String.reduceBEq, zk47, ↓reduceIte, nm1, ka4]
  exact c_table_word hk (by exact om9 hlen hl rfl) hw fun v ρ hv hb => q v hv fun l hl => by rw [hb l hl]; simp [evK, tab_i, tab_c]
 | @cell ins t hl =>
  refine or2y (.inr rfl) ?_
  simp only [↓vf7, zk46, ↓tn0, constW_p, ↓vf21, String.reduceBEq, zk47, Bool.false_eq_true, ↓reduceIte, ↓sn1, zk59, get_t1, ka4]
  exact c_table_word hk (by exact om9 hlen hl rfl) hw fun v ρ hv hb => q v hv fun l hl => by rw [hb l hl]; simp [evK, tab_i, tab_c]
 | @buf a =>
  obtain ⟨w, e⟩ := List.length_eq_one_iff.mp hlen
  subst e
  have hw0 := hw w (.head _)
  refine or2n rfl rfl (or2y (.inl rfl) ?_)
  simp only [↓vf9, zk46, ↓tn0, constW_p, ↓vf21, String.reduceBEq, zk47, ↓reduceIte, ↓sn2, zk59]
  exact (get_ref (i := 0) hk rfl (by decide)).mpr (q w hw0 fun l _ => by simp [evK])
 | @not a =>
  obtain ⟨w, e⟩ := List.length_eq_one_iff.mp hlen
  subst e
  have hw0 := hw w (.head _)
  refine or2n rfl rfl (or2y (.inr rfl) ?_)
  simp only [↓vf9, zk46, ↓tn0, constW_p, ↓vf21, String.reduceBEq, zk47, Bool.false_eq_true, ↓reduceIte, zk62, nm3, zk63, ↓sn2, zk59]
  refine (get_ref (i := 0) hk rfl (by decide)).mpr ?_
  simp only [zk64, bin_xor, nat_xor, zk11, zk6, zk2]
  exact q _ (Nat.xor_lt_two_pow fl hw0) fun l hl => by rw [Nat.testBit_xor, full_bit]; simp [evK, hl]
 | @mux s a b =>
  obtain ⟨w0, w1, w2, rfl⟩ := len3 hlen
  have hw1 := hw w1 (.tail _ (.head _))
  have hw2 := hw w2 (.tail _ (.tail _ (.head _)))
  refine or2n rfl rfl (or2n rfl rfl (eqy rfl ?_))
  simp only [↓vf9, zk62, ↓sn2, constW_p, zk59]
  refine (get_ref (i := 0) hk rfl (by decide)).mpr ((get_ref (i := 2) hk rfl (by decide)).mpr ?_)
  simp only [zk64, bin_and, zk63, zk62, nm3, ↓sn2, constW_p, zk59]
  refine (get_ref (i := 0) hk rfl (by decide)).mpr ?_
  simp only [zk64, bin_xor, zk63, ↓sn2, constW_p, zk59]
  refine (get_ref (i := 1) hk rfl (by decide)).mpr ?_
  simp only [nat_xor, nat_and, zk64, bin_and, bin_or, nat_or, zk11, zk6, zk2]
  exact q _ (Nat.or_lt_two_pow (Nat.and_lt_two_pow _ hw2) (Nat.and_lt_two_pow _ hw1)) fun l hl => by rw [Nat.testBit_or, Nat.testBit_and, Nat.testBit_and, Nat.testBit_xor, full_bit]; simp [evK, hl]
 | @g2 _ a b hkk =>
  obtain ⟨w0, w1, rfl⟩ := len2 hlen
  have hw0 := hw w0 (.head _)
  have hw1 := hw w1 (.tail _ (.head _))
  have ha := Nat.and_lt_two_pow w0 hw1
  have ho := Nat.or_lt_two_pow hw0 hw1
  have hx := Nat.xor_lt_two_pow hw0 hw1
  simp only [List.mem_cons, List.not_mem_nil, or_false] at hkk
  have fin : ∀ {u0 u : Nat}, u0 < 2 ^ rows → (∀ l, l < rows → (decide (["nand", "nor", "xnor"].any (· == kind) = true) ^^ u0.testBit l) = evK kind .none ([w0, w1].map (·.testBit l))) → u = (if ["nand", "nor", "xnor"].any (· == kind) = true then fullW rows ^^^ u0 else u0) → Q (.int (u : Nat)) H := fun {u0 u} h0 hb e => by
   subst e
   by_cases c : ["nand", "nor", "xnor"].any (· == kind) = true
   ·rw [if_pos c]; exact q _ (Nat.xor_lt_two_pow fl h0) fun l hl => by rw [← hb l hl, Nat.testBit_xor, full_bit, decide_eq_true hl, decide_eq_true c]
   ·rw [if_neg c]; exact q _ h0 fun l hl => by rw [← hb l hl, decide_eq_false c]; simp
  rcases hkk with rfl | rfl | rfl | rfl | rfl | rfl
  ·exact or2n rfl rfl (or2n rfl rfl (eqn rfl (or2y (.inl rfl) (c_two hk (fun Q h => by simp only [bin_and, nat_and]; exact h) (c_end fun u e => fin ha (fun l _ => by rw [Nat.testBit_and]; simp [evK]) e)))))
  ·exact or2n rfl rfl (or2n rfl rfl (eqn rfl (or2e rfl rfl (or2y (.inl rfl) (c_two hk (fun Q h => by simp only [bin_or, nat_or]; exact h) (c_end fun u e => fin ho (fun l _ => by rw [Nat.testBit_or]; simp [evK]) e))))))
  ·exact or2n rfl rfl (or2n rfl rfl (eqn rfl (or2e rfl rfl (or2e rfl rfl (c_two hk (fun Q h => by simp only [bin_xor, nat_xor]; exact h) (c_end fun u e => fin hx (fun l _ => by rw [Nat.testBit_xor]; simp [evK]) e))))))
  ·exact or2n rfl rfl (or2n rfl rfl (eqn rfl (or2y (.inr rfl) (c_two hk (fun Q h => by simp only [bin_and, nat_and]; exact h) (c_end fun u e => fin ha (fun l _ => by rw [Nat.testBit_and]; simp [evK]) e)))))
  ·exact or2n rfl rfl (or2n rfl rfl (eqn rfl (or2e rfl rfl (or2y (.inr rfl) (c_two hk (fun Q h => by simp only [bin_or, nat_or]; exact h) (c_end fun u e => fin ho (fun l _ => by rw [Nat.testBit_or]; simp [evK]) e))))))
  ·exact or2n rfl rfl (or2n rfl rfl (eqn rfl (or2e rfl rfl (or2e rfl rfl (c_two hk (fun Q h => by simp only [bin_xor, nat_xor]; exact h) (c_end fun u e => fin hx (fun l _ => by rw [Nat.testBit_xor]; simp [evK]) e))))))
end
end Mine
end
section
open PySem
set_option maxRecDepth 100000
namespace Mine
section
variable {H : List AO} {Q : V → List AO → Prop} {cs : List Cell}
noncomputable def comb (cs : List Cell) : List Cell := cs.filter fun c => !c.st
noncomputable def stateP (v : V) : Bool := match v with | .tup (.str k :: _) => k == "flop" || k == "latch" | _ => false
theorem any_state (k : String) : ["flop", "latch"].any (· == k) = (k == "flop" || k == "latch") := by
 have this : ∀ a : String, (a == k) = (k == a) := fun a => by rw [Bool.eq_iff_iff, beq_iff_eq, beq_iff_eq]; exact eq_comm
 simp only [List.any_cons, List.any_nil, Bool.or_false, this]
theorem mem_comb {c : Cell} : c ∈ comb cs ↔ c ∈ cs ∧ c.st = false := by unfold comb; rw [List.mem_filter]; simp
theorem filter_comb : ((cs.map cellV).filter fun v => !stateP v).map id = (comb cs).map cellV := by
 unfold comb
 rw [List.map_id, List.filter_map]; rfl
theorem filter_state : ((cs.map cellV).filter stateP).map id = (cs.filter Cell.st).map cellV := by
 rw [List.map_id, List.filter_map]; rfl
theorem c_law_held {n : Nat} {cnt : Int} {is os : Ports} {j ji jo jc : Nat} {vi vo : List V} (h : NetR H n cnt is os cs j ji jo jc vi vo) (hl : cs.length ≤ 900) (q : Q (.ref H.length) (H ++ [.list ((cs.filter Cell.st).map cellV)])) : f_law_held [.ref n] H Q := by
 unfold f_law_held bw_law_held
 simp only [df1, ↓vf9, Nat.reduceSub, rp0, zk115, zk83, zk60, nm0, zk61]
 refine h.a_cells.mpr ?_
 refine ⟨_, h.cel, ?_⟩
 refine comp_fm (fun ρ => ∃ o, ρ = [none, o]) (fun H' => H' = H) stateP id ?_ ?_ _ [] ?_ ?_ ?_ ⟨none, rfl⟩ rfl (by rw [Src.items, List.length_map]; simp; exact hl)
 ·rintro v ρ ⟨o, rfl⟩; exact ⟨some v, rfl⟩
 ·rintro H' rfl; exact h.cel
 ·rintro v hv ρ H' T ⟨o, rfl⟩ rfl hT
  obtain ⟨c, hc, rfl⟩ := List.mem_map.mp hv
  simp only [List.set_cons_succ, List.set_cons_zero, zk27, ↓sn1, constW_p, zk59]
  refine cell0.mpr ?_
  simp only [zk28, zk48, ↓vf22, nilW_p, ↓vf6, zk49, List.length_cons, List.length_nil, Nat.zero_add, Nat.reduceAdd, Nat.reduceLeDiff, zk29, true_and]
  refine ⟨["flop", "latch"], rfl, ?_⟩
  simp only [↓vf14, any_state]
  exact hT _ rfl
 ·rintro v hv _ ρ H' K ⟨o, rfl⟩ rfl hq
  simp only [List.set_cons_succ, List.set_cons_zero, nm1]
  exact hq _ rfl
 ·rintro H' rfl
  rw [List.nil_append, Src.items, filter_state]
  exact q
noncomputable def endPorts (d : ID) (os : Ports) : Ports := os.map fun p => (p.1, p.2.map fun n => (lk d n).getD (-1))
theorem c_law_at_ends {n : Nat} {cnt : Int} {is os : Ports} {j ji jo jc : Nat} {vi vo : List V} {kw : Nat} {d : ID} (h : NetR H n cnt is os cs j ji jo jc vi vo) (hw : H[kw]? = some (DI d)) (hl : os.length ≤ 900) (hn : ∀ p ∈ os, p.2.length ≤ 900)
  (q : ∀ H' vs, Keep H H' → H'[H.length]? = some (.list vs) → PortsR (fun _ => True) H' vs (endPorts d os) → Q (.ref H.length) H') : f_law_at_ends [.ref n, .ref kw] H Q := by
 unfold f_law_at_ends bw_law_at_ends
 simp only [df2, ↓vf7, Nat.reduceSub, rp3, zk50, nilW_p, zk51, List.length_nil, Nat.reduceLeDiff, ka2, ↓vf13, zk83, zk60, nm0, zk61, true_and]
 refine (h.keep (Keep.app _ _)).a_outputs.mpr ?_
 refine ⟨_, (h.keep (Keep.app _ _)).out, ?_⟩
 have hwl := h.outR.len
 refine loop_nth (fun i ρ H' => An3 (Keep H H') ((∃ vs, H'[H.length]? = some (.list vs) ∧ PortsR (fun r => H.length < r) H' vs (endPorts d (os.take i)))) (Ex2 fun o3 o4 => ρ = [some (.ref n), some (.ref kw), some (.ref H.length), o3, o4])) ?_ ?_ ?_
 ·exact ⟨Keep.app _ _, ⟨[], app_get, .nil⟩, none, none, rfl⟩
 ·rintro i v hv ρ H' B' ⟨hK, ⟨vs, hvs, hR⟩, o3, o4, rfl⟩ hB
  refine ⟨(h.keep hK).out, ?_⟩
  obtain ⟨x, r, ns, rfl, _, hr, hp⟩ := h.outR.get hv
  have hi := (List.getElem?_eq_some_iff.mp hp).1
  have hnl := hn _ (List.mem_of_getElem? hp)
  simp only at hnl
  simp only [zk19, tupA_p, List.length_cons, List.length_nil, Nat.zero_add, Nat.reduceAdd, zk69, na3, zk70, na4, nilAs_p, zk20, ↓vf10, zk86, nm2, zk87, zk48, ↓cn3, zk52, zk115, zk83, nm4, zk84, zk116, true_and]
  refine ⟨_, hvs, _, hK _ _ hr, ?_⟩
  refine comp_m (fun ρ => ∃ o, ρ = [none, o, some (.ref kw)]) (fun H'' => H'' = H') (fun v => match v with | .int n => .int ((lk d n).getD (-1)) | v => v) ?_ ?_ ?_ ?_ ⟨none, rfl⟩ rfl (by rw [Src.items, List.length_map]; exact hnl)
  ·rintro v ρ ⟨o, rfl⟩; exact ⟨some v, rfl⟩
  ·rintro H'' rfl; exact hK _ _ hr
  ·rintro v hv ρ H'' K ⟨o, rfl⟩ rfl hq
   obtain ⟨m, hm, rfl⟩ := List.mem_map.mp hv
   simp only [List.set_cons_succ, List.set_cons_zero, zk94, nm2, zk95, nm1, zk96, neg_const_p, zk97]
   refine ⟨_, hK _ _ hw, _, _, rfl, hK _ _ hw, ?_⟩
   rw [dg]
   exact hq _ rfl
  ·rintro H'' rfl
   have e : (Src.items (Src.list r (ns.map V.int))).map (fun v => match v with | .int n => V.int ((lk d n).getD (-1)) | v => v) = (ns.map fun n => (lk d n).getD (-1)).map V.int := by
    rw [Src.items, List.map_map, List.map_map]; rfl
   rw [e]
   have hlt := (List.getElem?_eq_some_iff.mp hvs).1
   have hvl := hR.len
   unfold endPorts at hvl
   rw [List.length_map, List.length_take] at hvl
   simp only [zk117, ↓vf5, zk54, zk49, List.length_cons, List.length_nil, Nat.zero_add, Nat.reduceAdd, Nat.reduceLeDiff, zk88, ↓vf11, nextBW_p, true_and]
   refine ⟨_, (Keep.app _ _) _ _ hvs, by exact oq27 hvl hl, ?_⟩
   have hR2 : PortsR (fun r => H.length < r) (H'' ++ [AO.list ((ns.map fun n => (lk d n).getD (-1)).map V.int)]) (vs ++ [.tup [.str x, .ref H''.length]]) (endPorts d (os.take i) ++ [(x, ns.map fun n => (lk d n).getD (-1))]) := (hR.keep (Keep.app _ _)).snoc (by exact hlt) app_get
   refine (hB _ _ ⟨(hK.trans (Keep.app _ _)).set' (Nat.le_refl _) _, ⟨_, List.getElem?_set_self (by simp; exact Nat.lt_succ_of_lt hlt), ?_⟩, some (.str x), some (.ref r), rfl⟩).1
   have e2 : endPorts d (os.take (i + 1)) = endPorts d (os.take i) ++ [(x, ns.map fun n => (lk d n).getD (-1))] := by
    unfold endPorts; rw [List.take_add_one, hp, List.map_append]; rfl
   rw [e2]
   exact hR2.set (by lia) _
 ·rintro ρ H' ⟨hK, ⟨vs, hvs, hR⟩, o3, o4, rfl⟩
  refine ⟨(h.keep hK).out, ?_⟩
  rw [Src.items, hwl, List.take_of_length_le (Nat.le_refl _)] at hR
  simp only [zk5, ↓vf9, nm2, zk11, zk2]
  exact q H' vs hK hvs (hR.low fun _ _ => trivial)
structure Sig (cs : List Cell) (g : ID) (σ : Int → Nat) (rows : Nat) (rank : Int → Nat) : Prop where
 lt : ∀ x, σ x < 2 ^ rows
 z : σ 0 = 0
 o : σ 1 = fullW rows
 gv : ∀ x v, lk g x = some v → v = (σ x : Int)
 good : ∀ c ∈ cs, c.st = false → Good c.kind c.ins c.par
 ev : ∀ c ∈ cs, c.st = false → ∀ l, l < rows → (σ c.out).testBit l = evK c.kind c.par (c.ins.map fun x => (σ x).testBit l)
 rk : ∀ c ∈ cs, c.st = false → ∀ x ∈ c.ins, x = 0 ∨ x = 1 ∨ (lk g x).isSome = true ∨ ∃ c' ∈ cs, c'.st = false ∧ c'.out = x ∧ rank x < rank c.out
noncomputable def Wd (g : ID) (σ : Int → Nat) (d : ID) : Prop := (∀ x v, lk d x = some v → v = (σ x : Int)) ∧ ∀ x, x = 0 ∨ x = 1 ∨ (lk g x).isSome = true → (lk d x).isSome = true
theorem some_put {d : ID} {k v x : Int} (h : (lk d x).isSome = true) : (lk (lput d k v) x).isSome = true := by
 rw [lk_put]; split
 ·rfl
 ·exact h
noncomputable def ready (d : ID) (c : Cell) : Prop := ∀ x ∈ c.ins, (lk d x).isSome = true
theorem c_law_all_words {kc kg : Nat} {g : ID} {σ : Int → Nat} {rows : Nat} {rank : Int → Nat} (hS : Sig cs g σ rows rank) (hc : H[kc]? = some (.list (cs.map cellV))) (hg : H[kg]? = some (DI g)) (hl : cs.length ≤ 100) (hgl : g.length ≤ 100)
  (q : ∀ kd d H', Keep H H' → H'[kd]? = some (DI d) → Wd g σ d → (∀ c ∈ cs, c.st = false → (lk d c.out).isSome = true) → Q (.ref kd) H') :
  f_law_all_words [.ref kc, .ref kg, .int (fullW rows : Nat)] H Q := by
 unfold f_law_all_words bw_law_all_words
 simp only [df3, ↓vf7, Nat.reduceSub, rp9, zk55, ↓cn1, nilW_p, zk54, zk56]
 refine ⟨_, hg, by rw [List.length_map]; exact om5 hgl rfl, ?_⟩
 have hd0 : (H ++ [AO.dict (g.map fun p => (p.1, V.int p.2))])[H.length]? = some (DI g) := app_get
 have l1 := lput_len (d := g) (k := 0) (v := 0)
 have l2 := lput_len (d := lput g 0 0) (k := 1) (v := (fullW rows : Int))
 refine set_DI hd0 (by exact om5 hgl rfl) ?_
 rw [app_set]
 refine set_DI app_get (by lia) ?_
 rw [app_set]
 generalize hd1 : lput (lput g 0 0) 1 (fullW rows : Int) = d1 at *
 have hW1 : Wd g σ d1 := by
  subst hd1
  constructor
  ·intro x v hx
   rw [lk_put] at hx
   split at hx
   ·next e => cases hx; rw [e, hS.o]
   ·rw [lk_put] at hx
    split at hx
    ·next e => cases hx; rw [e, hS.z]; rfl
    ·exact hS.gv x v hx
  ·intro x hx
   rw [lk_put]
   split
   ·rfl
   ·rw [lk_put]
    split
    ·rfl
    ·rcases hx with e | e | e
     ·next h2 => exact (h2 e).elim
     ·next h1 _ => exact (h1 e).elim
     ·exact e
 have hK1 : Keep H (H ++ [DI d1]) := Keep.app _ _
 refine ⟨_, hK1 _ _ hc, ?_⟩
 have hNl : (comb cs).length ≤ cs.length := List.length_filter_le ..
 refine comp_fm (fun ρ => ∃ o, ρ = [none, o]) (fun H' => H' = H ++ [DI d1]) (fun v => !stateP v) id ?_ ?_ _ [] ?_ ?_ ?_ ⟨none, rfl⟩ rfl (by rw [Src.items, List.length_map]; simp; exact om5 hl rfl)
 ·rintro v ρ ⟨o, rfl⟩; exact ⟨some v, rfl⟩
 ·rintro H' rfl; exact hK1 _ _ hc
 ·rintro v hv ρ H' T ⟨o, rfl⟩ rfl hT
  obtain ⟨c, hc, rfl⟩ := List.mem_map.mp hv
  simp only [List.set_cons_succ, List.set_cons_zero, zk27, ↓sn1, constW_p, zk59]
  refine cell0.mpr ?_
  simp only [zk28, zk48, ↓vf22, nilW_p, ↓vf6, zk49, List.length_cons, List.length_nil, Nat.zero_add, Nat.reduceAdd, Nat.reduceLeDiff, zk29, true_and]
  refine ⟨["flop", "latch"], rfl, ?_⟩
  simp only [↓vf14, any_state]
  exact hT _ rfl
 ·rintro v hv _ ρ H' K ⟨o, rfl⟩ rfl hq
  simp only [List.set_cons_succ, List.set_cons_zero, nm1]
  exact hq _ rfl
 rintro H' rfl
 rw [List.nil_append, Src.items, filter_comb]
 have hL0 : (H ++ [DI d1] ++ [AO.list ((comb cs).map cellV)])[(H ++ [DI d1]).length]? = some (.list ((comb cs).map cellV)) := app_get
 simp only [List.set_cons_succ, List.set_cons_zero, ↓vf13, zk81, zk52, zk55, na5, nm5, ↓vf5, zk56]
 rw [len_ref hL0, List.length_map]
 refine ⟨by exact om8 hNl hl rfl, ?_⟩
 simp only [↓vf5, List.length_append, List.length_cons, List.length_nil, Nat.zero_add, zk82, zk18]
 refine ⟨by exact om1 _, by exact om42 hNl hl rfl, ?_⟩
 refine range_inv (n := (comb cs).length) rfl (fun t ρ H' => Ex3 fun (d : ID) (L : List Cell) (kl : Nat) => An10 (Keep H H') (H'[H.length]? = some (DI d)) (H'[kl]? = some (.list (L.map cellV))) (H.length < kl) (Wd g σ d) (L.length + t ≤ (comb cs).length) ((∀ c ∈ L, c ∈ comb cs)) ((∀ c ∈ comb cs, c ∈ L ∨ (lk d c.out).isSome = true)) (d.length + L.length ≤ g.length + 2 + (comb cs).length) (Ex3 fun o4 o6 o7 => ρ = [some (.ref kc), some (.ref kg), some (.int (fullW rows : Nat)), some (.ref H.length), o4, some (.ref kl), o6, o7, none, none, none, none])) ?_ ?_ ?_
 ·exact ⟨d1, comb cs, H.length + 1, (Keep.app _ _).trans (Keep.app _ _), by simp, by simp, by exact om33 rfl, hW1, by lia, fun c h => h, fun c h => .inl h, by lia, none, none, none, by simp⟩
 ·rintro t ht ρ H' B' ⟨d, L, kl, hK, hd, hLk, hlt, hW, hLl, hLc, hLa, hdl, o4, o6, o7, rfl⟩ hB
  simp only [zk19, na6, zk20, ↓vf7, zk50, nilW_p, zk51, List.length_nil, Nat.reduceLeDiff, ka7, ↓vf13, zk83, nm5, zk84, zk18, true_and]
  have hklt := (List.getElem?_eq_some_iff.mp hLk).1
  refine ⟨_, (Keep.app _ _) _ _ hLk, ?_⟩
  refine loop_nth (fun m ρ H'' => Ex2 fun (d' : ID) (L' : List Cell) => An12 (Keep H H'') (H''[H.length]? = some (DI d')) (H''[kl]? = some (.list (L.map cellV))) (H''[H'.length]? = some (.list (L'.map cellV))) (Wd g σ d') ((∀ x, (lk d x).isSome = true → (lk d' x).isSome = true)) ((∀ c ∈ L', c ∈ L)) (L'.length ≤ m) (((∃ c ∈ L.take m, ready d c) → L'.length < m)) ((∀ c ∈ L.take m, c ∈ L' ∨ (lk d' c.out).isSome = true)) (d'.length + L'.length + L.length ≤ g.length + 2 + (comb cs).length + m) (∃ o4, ρ = [some (.ref kc), some (.ref kg), some (.int (fullW rows : Nat)), some (.ref H.length), o4, some (.ref kl), some (.int (t : Nat)), some (.ref H'.length), none, none, none, none])) ?_ ?_ ?_
  ·exact ⟨d, [], hK.trans (Keep.app _ _), (Keep.app _ _) _ _ hd, (Keep.app _ _) _ _ hLk, by simp, hW, fun _ h => h, fun c h => (nomatch h), Nat.le_refl _, fun ⟨c, h, _⟩ => by simp at h, fun c h => by simp at h, by simp; exact hdl, o4, rfl⟩
  ·rintro m v hv ρ H'' B'' ⟨d', L', hK2, hd2, hLk2, hL'k, hW2, hext, hL'c, hL'l, hprog, hL'a, hdl2, o4, rfl⟩ hB''
   refine ⟨hLk2, ?_⟩
   rw [Src.items, List.getElem?_map] at hv
   obtain ⟨c, hcm, rfl⟩ := Option.map_eq_some_iff.mp hv
   have hml := (List.getElem?_eq_some_iff.mp hcm).1
   have hcL := List.mem_of_getElem? hcm
   obtain ⟨hcc, hcst⟩ := mem_comb.mp (hLc c hcL)
   have hgood := hS.good c hcc hcst
   have hpl := hgood.len
   have htk : ∀ c', c' ∈ L.take (m + 1) ↔ c' ∈ L.take m ∨ c' = c := fun c' => by rw [List.take_add_one, hcm, Option.toList_some, List.mem_append, List.mem_singleton]
   simp only [zk19, na4, zk20, ↓vf8, zk27, zk55, zk52, zk115, zk83, ↓sn4, constW_p, zk59]
   refine cell2.mpr ?_
   refine comp_fm (fun ρ => ∃ o, ρ = [none, o, some (.ref H.length)]) (fun H₁ => H₁ = H'') (fun v => match v with | .int n => !(lk d' n).isSome | _ => false) id ?_ (fun _ _ => trivial) _ [] ?_ ?_ ?_ ⟨none, rfl⟩ rfl (by rw [Src.items, List.length_map]; simp; exact om5 hpl rfl)
   ·rintro v ρ ⟨o, rfl⟩; exact ⟨some v, rfl⟩
   ·rintro v hv ρ H₁ T ⟨o, rfl⟩ rfl hT
    obtain ⟨x, hx, rfl⟩ := List.mem_map.mp hv
    simp only [List.set_cons_succ, List.set_cons_zero, zk27, nm1, zk28, nm2, zk29]
    refine nin_DI hd2 ?_
    simp only [↓vf14]
    exact hT _ rfl
   ·rintro v hv _ ρ H₁ K ⟨o, rfl⟩ rfl hq
    simp only [List.set_cons_succ, List.set_cons_zero, nm1]
    exact hq _ rfl
   rintro H₁ rfl
   have e1 : [] ++ (((c.ins.map V.int)).filter (fun v => match v with | .int n => !(lk d' n).isSome | _ => false)).map id = (c.ins.filter fun n => !(lk d' n).isSome).map V.int := by
    rw [List.nil_append, List.map_id, List.filter_map]; rfl
   rw [Src.items, e1]
   have hKa := Keep.app H₁ [AO.list ((c.ins.filter fun n => !(lk d' n).isSome).map V.int)]
   have hul : (c.ins.filter fun n => !(lk d' n).isSome).length ≤ c.ins.length := List.length_filter_le ..
   simp only [zk117, ↓vf5, zk56]
   rw [len_ref app_get, List.length_map]
   refine ⟨by exact om8 hul hpl rfl, ?_⟩
   simp only [↓vf1, ↓vf19, zk9, decide_eq_true_eq, ↓vf10, zk86, nm7, zk87, nm4, zk88, ↓vf11, nextBW_p, zk5, ↓vf7, zk55, zk52, ↓sn4, constW_p, zk59]
   have hlt2 : H.length < (H₁ ++ [AO.list ((c.ins.filter fun n => !(lk d' n).isSome).map V.int)]).length := (List.getElem?_eq_some_iff.mp (hKa _ _ hd2)).1
   have hlt3 := (List.getElem?_eq_some_iff.mp (hKa _ _ hL'k)).1
   by_cases hun : ((c.ins.filter fun n => !(lk d' n).isSome).length : Int) > 0
   ·rw [if_pos hun]
    refine ⟨_, hKa _ _ hL'k, _, hKa _ _ hL'k, by rw [List.length_map]; lia, ?_⟩
    have el : L'.map cellV ++ [cellV c] = (L' ++ [c]).map cellV := by simp
    rw [el]
    have hnr : ¬ ready d c := by
     intro hr
     have : (c.ins.filter fun n => !(lk d' n).isSome) = [] := by
      rw [List.filter_eq_nil_iff]; intro x hx; rw [hext x (hr x hx)]; decide
     rw [this] at hun; simp at hun
    refine (hB'' _ _ ⟨d', L' ++ [c], (hK2.trans hKa).set' (by lia) _, ?_, ?_, ?_, hW2, hext, ?_, by simp; exact hL'l, ?_, ?_, by simp; lia, some (cellV c), rfl⟩).1
    ·rw [List.getElem?_set_ne (by lia)]; exact hKa _ _ hd2
    ·rw [List.getElem?_set_ne (by exact Nat.ne_of_gt hklt)]; exact hKa _ _ hLk2
    ·rw [List.getElem?_set_self hlt3]
    ·intro c' hc'
     rcases List.mem_append.mp hc' with h | h
     ·exact hL'c c' h
     ·rw [List.mem_singleton] at h; subst h; exact hcL
    ·rintro ⟨c', hc', hr⟩
     rcases (htk c').mp hc' with h | h
     ·have := hprog ⟨c', h, hr⟩; simp; exact this
     ·subst h; exact (hnr hr).elim
    ·intro c' hc'
     rcases (htk c').mp hc' with h | h
     ·rcases hL'a c' h with h | h
      ·exact .inl (List.mem_append_left _ h)
      ·exact .inr h
     ·subst h; exact .inl (by simp)
   ·rw [if_neg hun]
    have hall : ∀ x ∈ c.ins, lk d' x = some (σ x : Int) := by
     intro x hx
     cases e : lk d' x with
     | some v => rw [hW2.1 x v e]
     | none =>
      have : x ∈ (c.ins.filter fun n => !(lk d' n).isSome) := List.mem_filter.mpr ⟨hx, by rw [e]; rfl⟩
      have := List.length_pos_of_mem this
      lia
    refine cell0.mpr ?_
    simp only [zk53, zk52, ↓sn4, constW_p, zk59]
    refine cell3.mpr ?_
    simp only [zk53, zk52, zk115, zk83, ↓sn4, constW_p, zk59]
    refine cell2.mpr ?_
    simp only [zk85, zk116]
    refine comp_m (fun ρ => ∃ o, ρ = [none, o, some (.ref H.length)]) (fun H₂ => H₂ = H₁ ++ [AO.list ((c.ins.filter fun n => !(lk d' n).isSome).map V.int)]) (fun v => match v with | .int n => .int (σ n : Nat) | v => v) ?_ (fun _ _ => trivial) ?_ ?_ ⟨none, rfl⟩ rfl (by rw [Src.items, List.length_map]; exact om5 hpl rfl)
    ·rintro v ρ ⟨o, rfl⟩; exact ⟨some v, rfl⟩
    ·rintro v hv ρ H₂ K ⟨o, rfl⟩ rfl hq
     obtain ⟨x, hx, rfl⟩ := List.mem_map.mp hv
     simp only [List.set_cons_succ, List.set_cons_zero, zk57, nm2, zk58, nm1, zk59]
     refine (get_DI (hKa _ _ hd2) (hall x hx)).mpr ?_
     exact hq _ rfl
    ·rintro H₂ rfl
     have e2 : (Src.items (Src.tup (c.ins.map V.int))).map (fun v => match v with | .int n => V.int (σ n : Nat) | v => v) = nats (c.ins.map σ) := by
      rw [Src.items, List.map_map, nats, List.map_map]; rfl
     rw [e2]
     generalize hH₂ : H₁ ++ [AO.list ((c.ins.filter fun n => !(lk d' n).isSome).map V.int)] = H₂ at *
     have hKb := Keep.app H₂ [AO.list (nats (c.ins.map σ))]
     have hKc := hKa.trans hKb
     refine c_law_word hgood (by rw [List.length_map]) app_get (fun w hw => by obtain ⟨x, _, rfl⟩ := List.mem_map.mp hw; exact hS.lt x) fun v hv hvb => ?_
     have hvs : v = σ c.out := by
      apply Nat.eq_of_testBit_eq
      intro l
      rcases Nat.lt_or_ge l rows with h | h
      ·rw [hvb l h, hS.ev c hcc hcst l h, List.map_map]; rfl
      ·rw [Nat.testBit_lt_two_pow (Nat.lt_of_lt_of_le hv (Nat.pow_le_pow_right (by decide) h)), Nat.testBit_lt_two_pow (Nat.lt_of_lt_of_le (hS.lt c.out) (Nat.pow_le_pow_right (by decide) h))]
     subst hvs
     simp only [ksub, nm3, zk67, ↓sn4, constW_p, zk59]
     refine cell1.mpr ?_
     refine set_DI (hKc _ _ hd2) (by lia) ?_
     have hlen4 := (List.getElem?_eq_some_iff.mp (hKc _ _ hd2)).1
     have l3 := lput_len (d := d') (k := c.out) (v := (σ c.out : Int))
     refine (hB'' _ _ ⟨lput d' c.out (σ c.out : Int), L', (hK2.trans hKc).set' (by exact oq17) _, ?_, ?_, ?_, ⟨?_, ?_⟩, ?_, hL'c, by exact Nat.le_succ_of_le hL'l, fun _ => by lia, ?_, by lia, some (cellV c), rfl⟩).1
     ·rw [List.getElem?_set_self hlen4]
     ·rw [List.getElem?_set_ne (by exact Nat.ne_of_lt hlt)]; exact hKc _ _ hLk2
     ·rw [List.getElem?_set_ne (by lia)]; exact hKc _ _ hL'k
     ·intro x v hx
      rw [lk_put] at hx
      split at hx
      ·next e => cases hx; rw [e]
      ·exact hW2.1 x v hx
     ·intro x hx; exact some_put (hW2.2 x hx)
     ·intro x hx; exact some_put (hext x hx)
     ·intro c' hc'
      rcases (htk c').mp hc' with h | h
      ·rcases hL'a c' h with h | h
       ·exact .inl h
       ·exact .inr (some_put h)
      ·subst h; exact .inr (by rw [lk_put, if_pos rfl]; rfl)
  ·rintro ρ H'' ⟨d', L', hK2, hd2, hLk2, hL'k, hW2, hext, hL'c, hL'l, hprog, hL'a, hdl2, o4, rfl⟩
   refine ⟨hLk2, ?_⟩
   rw [Src.items, List.length_map, List.take_of_length_le (Nat.le_refl _)] at *
   simp only [zk5, ↓vf7, nm7, ka5, nextBW_p]
   refine (hB _ _ ⟨d', L', H'.length, hK2, hd2, hL'k, by exact Nat.lt_trans hlt hklt, hW2, ?_, fun c h => hLc c (hL'c c h), ?_, by lia, o4, some (.int (t : Nat)), some (.ref H'.length), rfl⟩).1
   ·by_cases hne : L = []
    ·subst hne; simp at hL'l hLl ⊢; rw [hL'l]; simp; exact ht
    ·have hex : ∃ c ∈ L, ready d c := by
      obtain ⟨c0, hc0⟩ := List.exists_mem_of_ne_nil L hne
      have key : ∀ m, ∀ c ∈ L, rank c.out = m → ∃ c ∈ L, ready d c := by
       intro m
       induction m using Nat.strongRecOn with
       | _ m ih =>
        intro c hc hm
        by_cases hr : ready d c
        ·exact ⟨c, hc, hr⟩
        ·have : ∃ x, x ∈ c.ins ∧ ¬ (lk d x).isSome = true := by
          apply Classical.byContradiction
          intro hh
          exact hr fun x hx => Classical.byContradiction fun h => hh ⟨x, hx, h⟩
         obtain ⟨x, hx, hnx⟩ := this
         obtain ⟨hcc, hcst⟩ := mem_comb.mp (hLc c hc)
         rcases hS.rk c hcc hcst x hx with h | h | h | ⟨c', hc', hst', ho', hrk⟩
         ·exact (hnx (hW.2 x (.inl h))).elim
         ·exact (hnx (hW.2 x (.inr (.inl h)))).elim
         ·exact (hnx (hW.2 x (.inr (.inr h)))).elim
         ·rcases hLa c' (mem_comb.mpr ⟨hc', hst'⟩) with h | h
          ·exact ih (rank c'.out) (by rw [ho']; exact oq16 hrk hm) c' h rfl
          ·rw [ho'] at h; exact (hnx h).elim
      exact key _ c0 hc0 rfl
     have := hprog hex
     lia
   ·intro c hc
    rcases hLa c hc with h | h
    ·exact hL'a c h
    ·exact .inr (hext _ h)
 ·rintro ρ H' ⟨d, L, kl, hK, hd, hLk, hlt, hW, hLl, hLc, hLa, hdl, o4, o6, o7, rfl⟩
  simp only [zk5, ↓vf9, nm3, zk11, zk2]
  have : L = [] := List.length_eq_zero_iff.mp (by lia)
  subst this
  refine q _ d H' hK hd hW fun c hc hst => ?_
  rcases hLa c (mem_comb.mpr ⟨hc, hst⟩) with h | h
  ·cases h
  ·exact h
end
end Mine
end
section
open PySem
set_option maxRecDepth 100000
namespace Mine
structure DrawSt (r c : Nat) (H : List AO) : Prop where
 ne : r ≠ c
 cells : ∃ l : List Int, H[c]? = some (.list (l.map V.int)) ∧ l.length ≤ 900
 rest : ∃ a b e : Int, H[r]? = some (.list [.int a, .int b, .int e]) ∧ 0 ≤ a ∧ 0 ≤ b
section
variable {H : List AO} {Q : V → List AO → Prop} {x y : Int}
theorem bin_mul : binV .Mult (.int x) (.int y) H Q = (IntMulOk x y ∧ Q (.int (x * y)) H) := propext Iff.rfl
theorem bin_pow : binV .Pow (.int x) (.int y) H Q = (0 ≤ y ∧ (Builtin.Int.intBits x : Int) * y ≤ 2 ^ 27 ∧ Q (.int (x ^ y.toNat)) H) := propext Iff.rfl
theorem set_list {k i : Nat} {l : List V} {v : V} {U : List AO → Prop} (h : H[k]? = some (.list l)) (hi : i < l.length) (hl : l.length ≤ 1000) (q : U (H.set k (.list (l.set i v)))) : setV (.ref k) (.int (i : Int)) v H U :=
 .inr ⟨l, h, by exact Int.natCast_nonneg _, by lia, hl, by rw [Int.toNat_natCast]; exact q⟩
noncomputable def drawTail : BW := seqBW (ifBW (cmpTW .Gt (subW (nameW 4) (constW (.int 1))) (constW (.int 0))) (seqBW (asgBW (binW .Mod (callW (consW (subW (nameW 4) (constW (.int 1))) (nilW)) intF) (nameW 0)) (nameA 2)) (seqBW (asgBW (binW .FloorDiv (subW (nameW 4) (constW (.int 1))) (nameW 0)) (subA (nameW 4) (constW (.int 1)))) (seqBW (retBW (nameW 2)) (nextBW)))) (nextBW)) (seqBW (asgBW (binW .Mod (callW (consW (binW .Mult (subW (nameW 4) (constW (.int 2))) (constW (.int 5))) (nilW)) intF) (constW (.int 97))) (subA (nameW 4) (constW (.int 2)))) (seqBW (retBW (binW .Mod (callW (consW (subW (nameW 4) (constW (.int 2))) (nilW)) intF) (nameW 0))) (nextBW)))
theorem draw_eq : bw_law_draw = seqBW (ifBW (andTW (cmpTW .Eq (subW (nameW 4) (constW (.int 1))) (constW (.int 0))) (andTW (cmpTW .Lt (subW (nameW 4) (constW (.int 0))) (callW (consW (nameW 3) (nilW)) lenF)) (trueTW true))) (seqBW (asgBW (subW (nameW 3) (subW (nameW 4) (constW (.int 0)))) (nameA 1)) (seqBW (augSubBW .Add (nameW 4) (constW (.int 0)) (constW (.int 1))) (seqBW (ifBW (chain2TW .Lt .Lt (negW (constW (.int 1000000))) (nameW 1) (constW (.int 1000000))) (seqBW (retBW (binW .Mod (callW (consW (nameW 1) (nilW)) intF) (nameW 0))) (nextBW)) (nextBW)) (seqBW (asgBW (binW .Mod (callW (consW (callW (consW (nameW 1) (nilW)) absF) (nilW)) intF) (binW .Pow (constW (.int 10)) (constW (.int 300)))) (subA (nameW 4) (constW (.int 1)))) (nextBW))))) (nextBW)) drawTail := rfl
section
variable {r : Nat} {a b e : Int}
theorem g_r0 (h : H[r]? = some (.list [.int a, .int b, .int e])) : getV (.ref r) (.int 0) H Q ↔ Q (.int a) H := get_ref (i := 0) h rfl (by decide)
theorem g_r1 (h : H[r]? = some (.list [.int a, .int b, .int e])) : getV (.ref r) (.int 1) H Q ↔ Q (.int b) H := get_ref (i := 1) h rfl (by decide)
theorem g_r2 (h : H[r]? = some (.list [.int a, .int b, .int e])) : getV (.ref r) (.int 2) H Q ↔ Q (.int e) H := get_ref (i := 2) h rfl (by decide)
theorem s_r0 {v : V} {U : List AO → Prop} (h : H[r]? = some (.list [.int a, .int b, .int e])) (q : U (H.set r (.list [v, .int b, .int e]))) : setV (.ref r) (.int 0) v H U := set_list (i := 0) h (Nat.le_of_ble_eq_true rfl) (Nat.le_of_ble_eq_true rfl) q
theorem s_r1 {v : V} {U : List AO → Prop} (h : H[r]? = some (.list [.int a, .int b, .int e])) (q : U (H.set r (.list [.int a, v, .int e]))) : setV (.ref r) (.int 1) v H U := set_list (i := 1) h (Nat.le_of_ble_eq_true rfl) (Nat.le_of_ble_eq_true rfl) q
theorem s_r2 {v : V} {U : List AO → Prop} (h : H[r]? = some (.list [.int a, .int b, .int e])) (q : U (H.set r (.list [.int a, .int b, v]))) : setV (.ref r) (.int 2) v H U := set_list (i := 2) h (Nat.le_of_ble_eq_true rfl) (Nat.le_of_ble_eq_true rfl) q
end
theorem c_drawTail {r c : Nat} {limit : Int} {o1 : Option V} {a b e : Int} {B : Fl → Rho → List AO → Prop} (h : H[r]? = some (.list [.int a, .int b, .int e])) (hb : 0 ≤ b) (hl : 0 < limit) (hl2 : limit < 1073741824)
  (q : ∀ v b' e' ρ, 0 ≤ v → v < limit → 0 ≤ b' → B (.ret (.int v)) ρ (H.set r (.list [.int a, .int b', .int e']))) :
  drawTail [some (.int limit), o1, none, some (.ref c), some (.ref r), none, none, none] H B := by
 unfold drawTail
 have hrl := (List.getElem?_eq_some_iff.mp h).1
 simp only [↓vf8, zk27, ↓sn4, constW_p, zk59]
 refine (g_r1 h).mpr ?_
 simp only [↓vf1, ↓vf19, zk9, decide_eq_true_eq, ↓vf7, zk62, zk55, zk52, ↓sn4, constW_p, zk59, nextBW_p, zk5]
 by_cases hb0 : b > 0
 ·rw [if_pos hb0]
  refine (g_r1 h).mpr ?_
  simp only [↓vf5, zk56, intF_int, zk63, nm0, zk64, bin_mod, ka2, ↓vf7, zk62, ↓sn4, constW_p, zk59]
  refine ⟨by exact oq0 hl, ?_⟩
  refine (g_r1 h).mpr ?_
  simp only [zk63, nm0, zk64, bin_fdiv, ksub, nm4, zk67, constW_p, zk68]
  refine ⟨by exact oq0 hl, by lia, ?_⟩
  refine s_r1 h ?_
  exact q _ _ _ _ (Int.fmod_nonneg_of_pos _ hl) (Int.fmod_lt_of_pos _ hl) (Int.fdiv_nonneg hb (by lia))
 ·rw [if_neg hb0]
  refine (g_r2 h).mpr ?_
  simp only [↓vf4, bin_mul, ↓vf5, zk56, intF_int, bin_mod, ksub, nm4, zk67, constW_p, zk68]
  refine ⟨IntMulOk.of_right (by decide), by decide, ?_⟩
  refine s_r2 h ?_
  have h2 : (H.set r (.list [.int a, .int b, .int ((e * 5).fmod 97)]))[r]? = some (.list [.int a, .int b, .int ((e * 5).fmod 97)]) := List.getElem?_set_self hrl
  refine (g_r2 h2).mpr ?_
  simp only [nm0, intF_int, bin_mod]
  exact ⟨by exact oq0 hl, q _ _ _ _ (Int.fmod_nonneg_of_pos _ hl) (Int.fmod_lt_of_pos _ hl) hb⟩
theorem c_draw {r c : Nat} {limit : Int} (hd : DrawSt r c H) (hl : 0 < limit) (hl2 : limit < 1073741824)
  (q : ∀ v H', 0 ≤ v → v < limit → (∃ o, H' = H.set r o) → DrawSt r c H' → Q (.int v) H') : cloF bw_law_draw r c [.int limit] H Q := by
 unfold cloF
 rw [draw_eq]
 obtain ⟨hne, ⟨l, hc, hcl⟩, a, b, e, h, ha, hb⟩ := hd
 have hrl := (List.getElem?_eq_some_iff.mp h).1
 have fin : ∀ (o1 : Option V) (H' : List AO) (a' b' e' : Int), H' = H.set r (.list [.int a', .int b', .int e']) → 0 ≤ a' → 0 ≤ b' → drawTail [some (.int limit), o1, none, some (.ref c), some (.ref r), none, none, none] H' fun fl _ H' => match fl with | .ret u => Q u H' | _ => False := by
  rintro o1 H' a' b' e' rfl ha' hb'
  have h2 : (H.set r (.list [.int a', .int b', .int e']))[r]? = some (.list [.int a', .int b', .int e']) := List.getElem?_set_self hrl
  refine c_drawTail h2 hb' hl hl2 fun v b2 e2 ρ h0 h1 hb2 => ?_
  rw [List.set_set]
  exact q v _ h0 h1 ⟨_, rfl⟩ ⟨hne, ⟨l, by rw [List.getElem?_set_ne hne]; exact hc, hcl⟩, a', b2, e2, List.getElem?_set_self hrl, ha', hb2⟩
 have hself : H = H.set r (.list [.int a, .int b, .int e]) := by
  apply List.ext_getElem?
  intro i
  by_cases hi : i = r
  ·subst hi; rw [List.getElem?_set_self hrl]; exact h
  ·rw [List.getElem?_set_ne (fun z => hi z.symm)]
 simp only [↓vf8, zk23, zk27, ↓sn4, constW_p, zk59]
 refine (g_r1 h).mpr ?_
 simp only [↓vf1, ↓vf15, zk24, beq_iff_eq, zk23, zk27, ↓sn4, constW_p, zk59, zk9, Bool.false_eq_true, ↓reduceIte, nextBW_p, zk5]
 by_cases hb0 : b = 0
 ·rw [if_pos hb0]
  refine (g_r0 h).mpr ?_
  refine (len_ref hc).mpr ?_
  rw [List.length_map]
  refine ⟨by exact om5 hcl rfl, ?_⟩
  simp only [↓vf17, zk24, decide_eq_true_eq, trueTW_p, zk9, ↓reduceIte, ↓vf7, ↓sn3, ↓sn4, constW_p, zk59, Bool.false_eq_true, nextBW_p, zk5]
  by_cases hal : a < l.length
  ·rw [if_pos hal]
   refine (g_r0 h).mpr ?_
   obtain ⟨n, rfl⟩ := Int.eq_ofNat_of_zero_le ha
   have hn : n < l.length := by exact oq1 hal
   have hg : (l.map V.int)[n]? = some (.int l[n]) := by rw [List.getElem?_map, List.getElem?_eq_getElem hn]; rfl
   refine (get_ref hc hg (by exact om10 hn hcl rfl)).mpr ?_
   generalize l[n] = z
   simp only [ka1, zk4_, zk74, nm4, zk75, constW_p, zk76]
   refine (g_r0 h).mpr ?_
   simp only [zk77, constW_p, zk78, inp_add, zk79]
   refine s_r0 h ?_
   simp only [zk80, zk5, ↓vf8, zk31, neg_const_p, zk32, nm1, zk33, cmp_lt, zk34, tru_bool, zk35, decide_eq_true_eq, constW_p, ↓vf17, zk9, ↓vf9, zk62, zk55, ↓cn1, nilW_p, zk54, zk56, intF_int, zk63, nm0, zk64, bin_mod, zk11, zk6, nextBW_p, ↓vf7, zk52, absF_int, ↓vf5, ↓vf4, Bool.false_eq_true, ↓reduceIte]
   by_cases hz : -1000000 < z
   ·rw [if_pos hz]
    by_cases hz2 : z < 1000000
    ·rw [if_pos hz2]
     refine ⟨by exact oq0 hl, ?_⟩
     refine q _ _ (Int.fmod_nonneg_of_pos _ hl) (Int.fmod_lt_of_pos _ hl) ⟨_, rfl⟩ ⟨hne, ⟨l, by rw [List.getElem?_set_ne hne]; exact hc, hcl⟩, _, _, _, List.getElem?_set_self hrl, by exact oq2, hb⟩
    ·rw [if_neg hz2]
     simp only [bin_pow, zk64, bin_mod, ksub, nm4, zk67, constW_p, zk68]
     refine ⟨by decide, by decide, ?_⟩
     have hp : (0 : Int) < 10 ^ (300 : Int).toNat := Int.pow_pos (by decide)
     generalize (10 : Int) ^ (300 : Int).toNat = P at hp ⊢
     refine ⟨by exact oq0 hp, ?_⟩
     refine s_r1 (List.getElem?_set_self hrl) ?_
     rw [List.set_set]
     exact fin _ _ _ _ _ rfl (by exact oq2) (Int.fmod_nonneg_of_pos _ hp)
   ·rw [if_neg hz]
    simp only [bin_pow, zk64, bin_mod, ksub, nm4, zk67, constW_p, zk68]
    refine ⟨by decide, by decide, ?_⟩
    have hp : (0 : Int) < 10 ^ (300 : Int).toNat := Int.pow_pos (by decide)
    generalize (10 : Int) ^ (300 : Int).toNat = P at hp ⊢
    refine ⟨by exact oq0 hp, ?_⟩
    refine s_r1 (List.getElem?_set_self hrl) ?_
    rw [List.set_set]
    exact fin _ _ _ _ _ rfl (by exact oq2) (Int.fmod_nonneg_of_pos _ hp)
  ·rw [if_neg hal]
   exact fin _ _ _ _ _ hself ha hb
 ·rw [if_neg hb0]
  exact fin _ _ _ _ _ hself ha hb
end
end Mine
end
section
open PySem
set_option maxRecDepth 100000
namespace Mine
theorem c_dealer {zs : List Int} (hz : zs.length ≤ 63) {Q : V → List AO → Prop} (q : ∀ a b d e, DrawSt 4 3 [.tab 328 false, a, b, d, e] → Q (.clo 4 3) [.tab 328 false, a, b, d, e]) : f_law_dealer zs [.clo 0 0] [.tab 328 true] Q := by
 unfold f_law_dealer dealerF bw_deal1 bw_deal2
 refine ⟨rfl, ?_⟩
 simp only [↓vf7, List.map_cons, List.map_nil, Nat.reduceSub, rp6, List.cons_append, List.nil_append, zk115, zk83, zk110, zk55, ↓cn0, nilW_p, zk54, zk56]
 show zs.length ≤ 1000 ∧ _
 refine ⟨by exact om5 hz rfl, ?_⟩
 have ht : ([AO.tab 328 true] ++ [AO.list (zs.map V.int)])[1]? = some (.list (zs.map V.int)) := rfl
 simp only [List.length_cons, List.length_nil, Nat.zero_add, List.cons_append, List.nil_append, zk112, Nat.reduceAdd, zk84, zk116]
 refine ⟨_, ht, by rw [List.length_map]; exact om5 hz rfl, ?_⟩
 refine ⟨_, rfl, ?_⟩
 have el : (zs.map V.int).take 40 = (zs.take 40).map V.int := List.map_take.symm
 rw [el]
 have htl : (zs.take 40).length ≤ 40 := by rw [List.length_take]; lia
 generalize zs.take 40 = ys at htl ⊢
 refine comp_m (fun ρ => ∃ o, ρ = [none, o, none]) (fun H' => H' = [AO.tab 328 true, AO.list (zs.map V.int), AO.list (ys.map V.int)]) id ?_ ?_ ?_ ?_ ⟨none, rfl⟩ rfl (by rw [Src.items, List.length_map]; exact om5 htl rfl)
 ·rintro v ρ ⟨o, rfl⟩; exact ⟨some v, rfl⟩
 ·rintro H' rfl; rfl
 ·rintro v hv ρ H' K ⟨o, rfl⟩ rfl hq
  obtain ⟨x, hx, rfl⟩ := List.mem_map.mp hv
  simp only [List.set_cons_succ, List.set_cons_zero, zk55, ↓cn1, nilW_p, zk54, zk56, intF_int]
  exact hq _ rfl
 ·rintro H' rfl
  rw [Src.items, List.map_id]
  simp only [zk117, List.length_cons, List.length_nil, Nat.zero_add, Nat.reduceAdd, List.cons_append, List.nil_append, ka2, ↓vf7, zk50, ↓vf22, zk52, zk62, constW_p, zk63, zk55, ↓cn2, nilW_p, zk54, zk56]
  refine ⟨ys, rfl, by exact om5 htl rfl, ?_⟩
  simp only [↓vf5, zk56, intF_int, ↓vf4, bin_mod, zk64, bin_add, ↓vf6, zk51, List.length_cons, List.length_nil, Nat.zero_add, Nat.reduceAdd, Nat.reduceLeDiff, List.cons_append, List.nil_append, ka3, nextBW_p, List.getD_cons_succ, List.getD_cons_zero, true_and]
  refine ⟨by decide, ?_⟩
  refine ⟨0, 4, 3, rfl, rfl, rfl, by decide, ?_⟩
  exact q _ _ _ _ ⟨by decide, ⟨ys, rfl, by exact om5 htl rfl⟩, 0, 0, _, rfl, by decide, by decide⟩
end Mine
end
section
open PySem
set_option maxRecDepth 100000
namespace Mine
section
variable {ρ : Rho} {H : List AO} {Q : V → List AO → Prop} {U : Rho → List AO → Prop} {i j : Nat} {v : V} {o : Option V}
theorem nm (h : ρ[i]? = some (some v)) : nameW i ρ H Q = Q v H := by
 unfold nameW; rw [List.getD_eq_getElem?_getD, h]; rfl
theorem na : nameA i v ρ H U = U (ρ.set i (some v)) H := propext Iff.rfl
theorem rs_ne (h : j ≠ i) (k : ρ[i]? = some (some v)) : (ρ.set j o)[i]? = some (some v) := by rw [List.getElem?_set_ne h]; exact k
theorem rs_eq (h : i < ρ.length) : (ρ.set i (some v))[i]? = some (some v) := List.getElem?_set_self h
end
theorem set_same {H : List AO} {r : Nat} {o : AO} (h : H[r]? = some o) : H.set r o = H := by
 apply List.ext_getElem?
 intro i
 by_cases hi : i = r
 ·subst hi; rw [List.getElem?_set_self (List.getElem?_eq_some_iff.mp h).1]; exact h.symm
 ·rw [List.getElem?_set_ne (fun z => hi z.symm)]
noncomputable def PP (r : Nat) : Prop := r = 11 ∨ r = 13 ∨ 20 ≤ r
structure LS (H : List AO) (cnt : Int) (is os : Ports) (cs : List Cell) (hd fr kn : List Int) (pl : List Cell) : Prop where
 len : 20 ≤ H.length
 tab : H[0]? = some (.tab 328 false)
 dr : DrawSt 4 3 H
 bn : BN PP 5 H cnt is os cs
 held : H[14]? = some (.list (hd.map V.int))
 free : H[16]? = some (.list (fr.map V.int))
 known : H[18]? = some (.list (kn.map V.int))
 placed : H[19]? = some (.list (pl.map cellV))
theorem DrawSt.keep {r c : Nat} {H H' : List AO} (h : DrawSt r c H) (k : Keep H H') : DrawSt r c H' := by
 obtain ⟨a, ⟨l, b, c'⟩, x, y, z, d, e⟩ := h
 exact ⟨a, ⟨l, k _ _ b, c'⟩, x, y, z, k _ _ d, e⟩
theorem DrawSt.set {r c : Nat} {H : List AO} (h : DrawSt r c H) {k : Nat} (h1 : k ≠ r) (h2 : k ≠ c) (o : AO) : DrawSt r c (H.set k o) := by
 obtain ⟨a, ⟨l, b, c'⟩, x, y, z, d, e⟩ := h
 exact ⟨a, ⟨l, by rw [List.getElem?_set_ne h2]; exact b, c'⟩, x, y, z, by rw [List.getElem?_set_ne h1]; exact d, e⟩
section
variable {H : List AO} {cnt : Int} {is os : Ports} {cs : List Cell} {hd fr kn : List Int} {pl : List Cell} {Q : V → List AO → Prop}
theorem LS.keep {H' : List AO} (h : LS H cnt is os cs hd fr kn pl) (k : Keep H H') : LS H' cnt is os cs hd fr kn pl :=
 ⟨Nat.le_trans h.len k.len, k _ _ h.tab, h.dr.keep k, h.bn.keep k, k _ _ h.held, k _ _ h.free, k _ _ h.known, k _ _ h.placed⟩
theorem LS.app (h : LS H cnt is os cs hd fr kn pl) (E : List AO) : LS (H ++ E) cnt is os cs hd fr kn pl := h.keep (Keep.app H E)
theorem LS.draw (h : LS H cnt is os cs hd fr kn pl) {o : AO} (d : DrawSt 4 3 (H.set 4 o)) : LS (H.set 4 o) cnt is os cs hd fr kn pl :=
 ⟨by rw [List.length_set]; exact h.len, by rw [List.getElem?_set_ne (by decide)]; exact h.tab, d, h.bn.set (.inl (by decide)) (by unfold PP; lia) _, by rw [List.getElem?_set_ne (by decide)]; exact h.held,
  by rw [List.getElem?_set_ne (by decide)]; exact h.free, by rw [List.getElem?_set_ne (by decide)]; exact h.known, by rw [List.getElem?_set_ne (by decide)]; exact h.placed⟩
theorem LS.setKnown (h : LS H cnt is os cs hd fr kn pl) (kn' : List Int) : LS (H.set 18 (.list (kn'.map V.int))) cnt is os cs hd fr kn' pl :=
 ⟨by rw [List.length_set]; exact h.len, by rw [List.getElem?_set_ne (by decide)]; exact h.tab, h.dr.set (by decide) (by decide) _, h.bn.set (.inr (by decide)) (by unfold PP; lia) _, by rw [List.getElem?_set_ne (by decide)]; exact h.held,
  by rw [List.getElem?_set_ne (by decide)]; exact h.free, by rw [List.getElem?_set_self (by have := h.len; exact om44 this rfl)], by rw [List.getElem?_set_ne (by decide)]; exact h.placed⟩
theorem LS.setPlaced (h : LS H cnt is os cs hd fr kn pl) (pl' : List Cell) : LS (H.set 19 (.list (pl'.map cellV))) cnt is os cs hd fr kn pl' :=
 ⟨by rw [List.length_set]; exact h.len, by rw [List.getElem?_set_ne (by decide)]; exact h.tab, h.dr.set (by decide) (by decide) _, h.bn.set (.inr (by decide)) (by unfold PP; lia) _, by rw [List.getElem?_set_ne (by decide)]; exact h.held,
  by rw [List.getElem?_set_ne (by decide)]; exact h.free, by rw [List.getElem?_set_ne (by decide)]; exact h.known, by rw [List.getElem?_set_self (by have := h.len; exact om44 this rfl)]⟩
theorem LS.net (h : LS H cnt is os cs hd fr kn pl) {cnt' : Int} {is' os' : Ports} {cs' : List Cell} {k : Nat} {o : AO} (hk : k = 5 ∨ k = 8 ∨ k = 9) (b : BN PP 5 (H.set k o) cnt' is' os' cs') : LS (H.set k o) cnt' is' os' cs' hd fr kn pl :=
 ⟨by rw [List.length_set]; exact h.len, by rw [List.getElem?_set_ne (by exact om34 hk rfl)]; exact h.tab, h.dr.set (by exact om34 hk rfl) (by exact om34 hk rfl) _, b, by rw [List.getElem?_set_ne (by exact om34 hk rfl)]; exact h.held,
  by rw [List.getElem?_set_ne (by exact om34 hk rfl)]; exact h.free, by rw [List.getElem?_set_ne (by exact om34 hk rfl)]; exact h.known, by rw [List.getElem?_set_ne (by exact om34 hk rfl)]; exact h.placed⟩
theorem callV_of {i r c : Nat} {a : EW} {ρ : Rho} (hρ : ρ[i]? = some (some (.clo r c))) (hne : r ≠ c) (q : a ρ H fun v H' => cloF bw_law_draw r c [v] H' Q) : callVW i bw_law_draw (consW a nilW) ρ H Q := by
 unfold callVW
 rw [List.getD_eq_getElem?_getD, hρ]
 exact ⟨hne, q⟩
theorem LS.d {ρ : Rho} {i : Nat} {k : Int} {a : EW} (h : LS H cnt is os cs hd fr kn pl) (hρ : ρ[i]? = some (some (.clo 4 3))) (h0 : 0 < k) (h1 : k < 1073741824) (ha : ∀ K : V → List AO → Prop, K (.int k) H → a ρ H K)
  (q : ∀ v H', 0 ≤ v → v < k → (∃ o, H' = H.set 4 o) → LS H' cnt is os cs hd fr kn pl → Q (.int v) H') : callVW i bw_law_draw (consW a nilW) ρ H Q := by
 refine callV_of hρ (by decide) (ha _ ?_)
 refine c_draw h.dr h0 h1 fun v H' a b c d => ?_
 obtain ⟨o, rfl⟩ := c
 exact q v _ a b ⟨o, rfl⟩ (h.draw d)
end
section
variable {P : Nat → Prop} {H : List AO} {Q : V → List AO → Prop} {cnt : Int} {is os : Ports} {cs : List Cell} {j : Nat}
noncomputable def newNets (cnt : Int) (k : Nat) : List Int := (List.range k).map fun (i : Nat) => cnt + i
theorem c_new_net (h : BN P j H cnt is os cs) (q : Q (.int cnt) (H.set j (.ns (nsOf (cnt + 1) (j + 2) (j + 3) (j + 4))))) : f_new_net [.ref (j + 1)] H Q := by
 unfold f_new_net bw_new_net
 simp only [zk1, List.length_cons, List.length_nil, Nat.zero_add, List.map_cons, List.map_nil, Nat.reduceSub, List.replicate_succ, List.replicate_zero, List.cons_append, List.nil_append, zk4_, zk12, zk60, name0_p, zk61, true_and]
 refine h.a_count.mpr ?_
 simp only [zk13, zk65, List.set_cons_succ, List.set_cons_zero, zk14, zk5, zk4_, zk105, name0_p, zk106]
 refine h.a_count.mpr ?_
 simp only [zk107, constW_p, zk108, inp_add, zk109, zk5, zk4_, zk10, nameS_p, name0_p, zk11, zk6, zk2]
 exact ⟨_, _, h.inst, h.ns, Nat.le_of_ble_eq_true rfl, q⟩
theorem c_new_nets {k : Nat} (h : BN P j H cnt is os cs) (hk : k ≤ 800)
  (q : Q (.ref H.length) (H.set j (.ns (nsOf (cnt + k) (j + 2) (j + 3) (j + 4))) ++ [.list ((newNets cnt k).map V.int)])) : f_new_nets [.ref (j + 1), .int (k : Int)] H Q := by
 unfold f_new_nets bw_new_nets
 simp only [zk1, List.length_cons, List.length_nil, Nat.zero_add, Nat.reduceAdd, List.map_cons, List.map_nil, Nat.reduceSub, List.replicate_succ, List.replicate_zero, List.cons_append, List.nil_append, zk4_, zk10, zk115, zk81, zk52, nameS_p, name0_p, zk53, nilW_p, zk54, zk82, zk116, true_and]
 refine ⟨by exact om1 _, by exact om38 hk rfl, ?_⟩
 have hN : ∀ c, BN P j (H.set j (.ns (nsOf c (j + 2) (j + 3) (j + 4)))) c is os cs := fun c => h.setCnt c
 refine comp_inv (fun done acc ρ H' => acc = (newNets cnt done.length).map V.int ∧ H' = H.set j (.ns (nsOf (cnt + done.length) (j + 2) (j + 3) (j + 4))) ∧ ∃ o, ρ = [none, o, some (.ref (j + 1))]) _ [] [] ?_ ?_ ?_
 ·refine ⟨rfl, ?_, none, rfl⟩
  rw [List.length_nil, set_same]
  have := h.ns
  simpa using this
 ·rintro d v r acc ρ H' K e ⟨rfl, rfl, o, rfl⟩ hK
  have hdl : d.length < k := by
   have := congrArg List.length e
   simp [Src.items] at this; exact oq4 this
  refine ⟨trivial, by unfold newNets; simp; exact om22 hdl hk rfl, ?_⟩
  simp only [zk101, trueTW_p, ↓reduceIte, zk65, List.set_cons_succ, List.set_cons_zero, nameS_p, name0_p, zk102]
  have hB := hN (cnt + d.length)
  refine ⟨_, _, hB.inst, hB.ns, rfl, ?_⟩
  refine c_new_net hB ?_
  rw [List.set_set]
  refine hK _ _ _ ⟨?_, ?_, some v, rfl⟩
  ·unfold newNets; rw [List.length_append, List.length_singleton, List.range_succ, List.map_append, List.map_append]; rfl
  ·rw [List.length_append, List.length_singleton]
   have : cnt + (d.length : Int) + 1 = cnt + ((d.length + 1 : Nat) : Int) := by lia
   rw [this]
 ·rintro acc ρ H' ⟨rfl, rfl, o, rfl⟩
  refine ⟨trivial, ?_⟩
  have hl : ([] ++ Src.items (Src.range (k : Int))).length = k := by simp [Src.items]
  rw [hl]
  simp only [zk117, zk11, zk6, zk2]
  simpa using q
theorem c_add_input {k : Nat} {x : String} {vi : List V} (h : BN P j H cnt is os cs) (hk : k ≤ 800) (hv : H[j + 2]? = some (.list vi)) (hvl : vi.length ≤ 900)
  (q : Q (.ref H.length) ((H.set j (.ns (nsOf (cnt + k) (j + 2) (j + 3) (j + 4))) ++ [AO.list ((newNets cnt k).map V.int)] ++ [AO.list ((newNets cnt k).map V.int)]).set (j + 2) (AO.list (vi ++ [V.tup [.str x, .ref (H.length + 1)]])))) : f_add_input [.ref (j + 1), .str x, .int (k : Int)] H Q := by
 unfold f_add_input bw_add_input
 simp only [zk1, List.length_cons, List.length_nil, Nat.zero_add, Nat.reduceAdd, List.map_cons, List.map_nil, Nat.reduceSub, List.replicate_succ, List.replicate_zero, List.cons_append, List.nil_append, zk4_, zk12, zk98, name0_p, zk99, zk52, nameS_p, zk53, nilW_p, zk54, zk100, true_and]
 refine ⟨_, _, h.inst, h.ns, rfl, ?_⟩
 refine c_new_nets h hk ?_
 have hB := (h.setCnt (cnt + k)).app [AO.list ((newNets cnt k).map V.int)]
 simp only [zk13, zk65, List.set_cons_succ, List.set_cons_zero, zk14, zk5, zk4_, zk15, zk86, zk60, name0_p, zk61]
 refine hB.a_inputs.mpr ?_
 have hv2 : (H.set j (.ns (nsOf (cnt + k) (j + 2) (j + 3) (j + 4))) ++ [AO.list ((newNets cnt k).map V.int)])[j + 2]? = some (.list vi) := by
  refine (Keep.app _ _) _ _ ?_
  rw [List.getElem?_set_ne (by exact om15 rfl)]; exact hv
 have hr : (H.set j (.ns (nsOf (cnt + k) (j + 2) (j + 3) (j + 4))) ++ [AO.list ((newNets cnt k).map V.int)])[H.length]? = some (.list ((newNets cnt k).map V.int)) := by
  have : H.length = (H.set j (.ns (nsOf (cnt + k) (j + 2) (j + 3) (j + 4)))).length := by rw [List.length_set]
  rw [this]; exact app_get
 refine ⟨_, hv2, _, hr, by unfold newNets; simp; exact om5 hk rfl, ?_⟩
 simp only [List.length_cons, Nat.reduceLeDiff, zk88, zk16, zk5, zk4_, zk10, nameS_p, name0_p, zk11, zk6, zk2, nilW_p, List.length_nil, true_and]
 refine ⟨_, (Keep.app _ _) _ _ hv2, by exact om5 hvl rfl, ?_⟩
 simpa using q
end
end Mine
end
section
open PySem
set_option maxRecDepth 100000
namespace Mine
noncomputable def kindsV : V := .tup [.str "and", .str "or", .str "xor", .str "nand", .str "nor", .str "xnor", .str "mux", .str "not", .str "buf", .str "lut", .str "cell"]
structure R9 (ρ : Rho) : Prop where
 len : ρ.length = 45
 s1 : ρ[1]? = some (some (.clo 4 3))
 s2 : ρ[2]? = some (some kindsV)
 s3 : ρ[3]? = some (some (.ref 6))
 s6 : ρ[6]? = some (some (.ref 14))
 s7 : ρ[7]? = some (some (.ref 16))
 s8 : ρ[8]? = some (some (.ref 18))
 s9 : ρ[9]? = some (some (.ref 19))
theorem R9.set {ρ : Rho} (h : R9 ρ) {k : Nat} (hk : 10 ≤ k) (o : Option V) : R9 (ρ.set k o) :=
 ⟨by rw [List.length_set]; exact h.len, rs_ne (by exact om16 hk rfl) h.s1, rs_ne (by exact om16 hk rfl) h.s2, rs_ne (by exact om16 hk rfl) h.s3, rs_ne (by exact om16 hk rfl) h.s6, rs_ne (by exact om16 hk rfl) h.s7, rs_ne (by exact om16 hk rfl) h.s8, rs_ne (by exact om16 hk rfl) h.s9⟩
noncomputable def inPorts (w : Nat) : Ports := [("a", newNets 2 w), ("b", newNets (2 + w) 1)]
theorem DrawSt.cut {x0 x1 x2 x3 x4 : AO} {E E' : List AO} (h : DrawSt 4 3 (x0 :: x1 :: x2 :: x3 :: x4 :: E)) : DrawSt 4 3 (x0 :: x1 :: x2 :: x3 :: x4 :: E') :=
 ⟨h.ne, h.cells, h.rest⟩
theorem newNets_len (c : Int) (k : Nat) : (newNets c k).length = k := by unfold newNets; simp
theorem newNets_app (c : Int) (k l : Nat) : newNets c k ++ newNets (c + k) l = newNets c (k + l) := by
 unfold newNets
 rw [List.range_add, List.map_append, List.map_map]
 congr 1
 apply List.map_congr_left
 intro i _
 simp only [Function.comp]; lia
theorem known_eq (m : Nat) : [0, 1] ++ newNets 2 m = newNets 0 (m + 2) := by
 have := newNets_app 0 2 m
 rw [show 2 + m = m + 2 by lia] at this
 rw [← this]; rfl
theorem known_eq' {l : List Int} {m : Nat} (h : l = newNets 2 m) : [0, 1] ++ l = newNets 0 (m + 2) := by rw [h, known_eq]
theorem add_lists {H : List AO} {Q : V → List AO → Prop} {i j : Nat} {l r : List Int} (h1 : H[i]? = some (.list (l.map V.int))) (h2 : H[j]? = some (.list (r.map V.int))) (hl : l.length + r.length ≤ 1000) (q : Q (.ref H.length) (H ++ [.list ((l ++ r).map V.int)])) : binV .Add (.ref i) (.ref j) H Q :=
 ⟨_, _, h1, h2, by simpa using hl, by rw [← List.map_append]; exact q⟩
theorem v_head {zs : List Int} (hz : zs.length ≤ 63) {rest : BW} {B : Fl → Rho → List AO → Prop}
  (q : ∀ ρ H (w hd : Nat), 1 ≤ w → w ≤ 3 → hd ≤ 1 → R9 ρ → LS H (3 + w + hd) (inPorts w) [] [] (newNets (3 + w) hd) (newNets 2 (w + 1 + hd)) (newNets 0 (w + 1 + hd + 2)) [] → rest ρ H B) :
  seqBW (law_0 zs) (seqBW (law_1) (seqBW (law_2) (seqBW (law_3) (seqBW (law_4) (seqBW (law_5) (seqBW (law_6) (seqBW (law_7) (seqBW (law_8) rest)))))))) (some (V.clo 0 0) :: List.replicate 44 none) [.tab 328 true] B := by
 unfold law_0
 simp only [List.replicate_succ, List.replicate_zero, zk4_, zk12, zk55, zk52, name0_p, zk53, nilW_p, zk54, zk56]
 refine c_dealer hz fun a b d e hD => ?_
 unfold law_1 law_2
 simp only [zk13, zk65, List.set_cons_succ, List.set_cons_zero, zk14, zk5, zk4_, zk12, zk48, zk52, constW_p, zk53, nilW_p, zk54, zk49, List.length_cons, List.length_nil, Nat.zero_add, Nat.reduceAdd, Nat.reduceLeDiff, zk55, zk56, true_and]
 refine c_new fun H' hH' => ?_
 subst hH'
 unfold law_3
 simp only [List.length_cons, List.length_nil, Nat.zero_add, Nat.reduceAdd, List.cons_append, List.nil_append, zk13, zk65, List.set_cons_succ, List.set_cons_zero, zk14, zk5, zk4_, zk12, zk98, nameS_p, name0_p, zk99, zk52, constW_p, zk53, zk62, zk63]
 refine ⟨5, _, rfl, rfl, rfl, ?_⟩
 refine callV_of rfl (by decide) ?_
 simp only [constW_p]
 refine c_draw hD.cut (by decide) (by decide) fun v H' hv0 hv1 hv2 hD2 => ?_
 obtain ⟨o, rfl⟩ := hv2
 obtain ⟨k, rfl⟩ := Int.eq_ofNat_of_zero_le hv0
 have ew : (1 : Int) + (k : Int) = ((k + 1 : Nat) : Int) := by exact oq31
 simp only [List.set_cons_succ, List.set_cons_zero, zk64, bin_add, zk53, nilW_p, zk54, zk100] at hD2 ⊢
 rw [ew]
 have hw1 : 1 ≤ k + 1 := by exact oq32
 have hw3 : k + 1 ≤ 3 := by exact oq33 hv1
 generalize k + 1 = w at hw1 hw3
 clear hv0 hv1 ew hD
 have low : ∀ k, k < 5 + 5 → ¬ PP k := fun k hk => by unfold PP; lia
 refine c_add_input (P := PP) (j := 5) (k := w) (vi := []) (cnt := 2) (is := []) (os := []) (cs := []) ⟨rfl, rfl, ⟨[], rfl, .nil⟩, ⟨[], rfl, .nil⟩, rfl, low⟩ (by exact om5 hw3 rfl) rfl (by decide) ?_
 unfold law_4
 simp only [List.length_cons, List.length_nil, Nat.zero_add, Nat.reduceAdd, List.set_cons_succ, List.set_cons_zero, List.cons_append, List.nil_append, zk13, zk65, zk14, zk5, zk4_, zk12, zk98, nameS_p, name0_p, zk99, zk52, constW_p, zk53, nilW_p, zk54, zk100]
 refine ⟨5, _, rfl, rfl, rfl, ?_⟩
 refine c_add_input (P := PP) (j := 5) (k := 1) (vi := [.tup [.str "a", .ref 11]]) (cnt := 2 + w) (is := [("a", newNets 2 w)]) (os := []) (cs := []) ⟨rfl, rfl, ⟨_, rfl, .cons (.inl rfl) rfl .nil⟩, ⟨[], rfl, .nil⟩, rfl, low⟩ (by lia) rfl (by simp) ?_
 unfold law_5
 simp only [List.length_cons, List.length_nil, Nat.zero_add, Nat.reduceAdd, List.set_cons_succ, List.set_cons_zero, List.cons_append, List.nil_append, zk13, zk65, zk14, zk5, zk4_, zk12, zk98, nameS_p, name0_p, zk99, zk52]
 refine ⟨5, _, rfl, rfl, rfl, ?_⟩
 refine callV_of rfl (by decide) ?_
 simp only [constW_p]
 refine c_draw hD2.cut (by decide) (by decide) fun v H' hv0 hv1 hv2 hD => ?_
 obtain ⟨o2, rfl⟩ := hv2
 obtain ⟨hd, rfl⟩ := Int.eq_ofNat_of_zero_le hv0
 have hh : hd ≤ 1 := by lia
 simp only [List.set_cons_succ, List.set_cons_zero, zk53, nilW_p, zk54, zk100] at hD ⊢
 clear hv0 hv1 hD2
 refine c_new_nets (P := PP) (j := 5) (k := hd) (cnt := 2 + w + 1) (is := inPorts w) (os := []) (cs := []) ⟨rfl, rfl, ⟨_, rfl, .cons (.inl rfl) rfl (.cons (.inr (.inl rfl)) rfl .nil)⟩, ⟨[], rfl, .nil⟩, rfl, low⟩ (by exact om5 hh rfl) ?_
 unfold law_6
 simp only [List.length_cons, List.length_nil, Nat.zero_add, Nat.reduceAdd, List.set_cons_succ, List.set_cons_zero, List.cons_append, List.nil_append, zk13, zk65, zk14, zk5, zk4_, zk12, zk62, nameS_p, name0_p, zk63, zk64]
 refine add_lists (l := newNets 2 w) (r := newNets (2 + w) 1) rfl rfl (by rw [newNets_len, newNets_len]; lia) ?_
 refine add_lists (i := 15) (j := 14) (l := newNets 2 w ++ newNets (2 + w) 1) (r := newNets (2 + w + 1) hd) rfl rfl (by rw [List.length_append, newNets_len, newNets_len, newNets_len]; lia) ?_
 unfold law_7
 simp only [List.cons_append, List.nil_append, List.length_cons, List.length_nil, Nat.zero_add, Nat.reduceAdd, zk13, zk65, List.set_cons_succ, List.set_cons_zero, zk14, zk5, zk4_, zk12, zk62, zk50, zk52, constW_p, zk53, nilW_p, zk54, zk51, Nat.reduceLeDiff, zk63, nameS_p, name0_p, zk64, true_and]
 refine add_lists (i := 17) (j := 16) (l := [0, 1]) (r := newNets 2 w ++ newNets (2 + w) 1 ++ newNets (2 + w + 1) hd) rfl rfl (by simp only [List.length_append, newNets_len, List.length_cons, List.length_nil]; lia) ?_
 have e1 : newNets 2 w ++ newNets (2 + w) 1 ++ newNets (2 + w + 1) hd = newNets 2 (w + 1 + hd) := by
  rw [newNets_app]
  have := newNets_app 2 (w + 1) hd
  rw [← this]
  congr 2
 have e2 : (2 : Int) + w + 1 = 3 + w := by lia
 rw [known_eq' e1, e1, e2]
 unfold law_8
 simp only [List.length_cons, List.length_nil, Nat.zero_add, Nat.reduceAdd, List.cons_append, List.nil_append, zk13, zk65, List.set_cons_succ, List.set_cons_zero, zk14, zk5, zk4_, zk12, zk50, nilW_p, zk51, Nat.reduceLeDiff, true_and]
 refine q _ _ w hd hw1 hw3 hh ⟨rfl, rfl, rfl, rfl, rfl, rfl, rfl, rfl⟩ ⟨Nat.le_of_ble_eq_true rfl, rfl, hD.cut, ⟨rfl, rfl, ⟨_, rfl, .cons (.inl rfl) rfl (.cons (.inr (.inl rfl)) rfl .nil)⟩, ⟨[], rfl, .nil⟩, rfl, low⟩, rfl, rfl, rfl, rfl⟩
end Mine
end
section
open PySem
set_option maxRecDepth 100000
namespace Mine
noncomputable def g2L : List String := ["and", "or", "xor", "nand", "nor", "xnor"]
noncomputable def kindsL : List String := ["and", "or", "xor", "nand", "nor", "xnor", "mux", "not", "buf", "lut", "cell"]
noncomputable def Cat (k : String) (n : Nat) : Prop := (k ∈ g2L ∧ n = 2) ∨ (k = "mux" ∧ n = 3) ∨ ((k = "not" ∨ k = "buf") ∧ n = 1) ∨ (k = "lut" ∧ 1 ≤ n ∧ n ≤ 3) ∨ (k = "cell" ∧ 1 ≤ n ∧ n ≤ 3)
theorem Cat.le {k : String} {n : Nat} (h : Cat k n) : 1 ≤ n ∧ n ≤ 3 := by
 rcases h with ⟨_, h⟩ | ⟨_, h⟩ | ⟨_, h⟩ | ⟨_, h⟩ | ⟨_, h⟩ <;> lia
theorem newNets_get {c : Int} {k i : Nat} (h : i < k) : (newNets c k)[i]? = some (c + i) := by
 unfold newNets; rw [List.getElem?_map, List.getElem?_range h]; rfl
noncomputable def st1 : BW := asgBW (subW (nameW 2) (callVW 1 bw_law_draw (consW (constW (.int 11)) (nilW)))) (nameA 11)
noncomputable def st2 : BW := asgBW (constW (.int 2)) (nameA 12)
noncomputable def st3 : BW := ifBW (cmpTW .Eq (nameW 11) (constW (.str "mux"))) (seqBW (asgBW (constW (.int 3)) (nameA 12)) (nextBW)) (seqBW (ifBW (cmpTW .In (nameW 11) (tupW (consW (constW (.str "not")) (consW (constW (.str "buf")) (nilW))))) (seqBW (asgBW (constW (.int 1)) (nameA 12)) (nextBW)) (seqBW (ifBW (cmpTW .In (nameW 11) (tupW (consW (constW (.str "lut")) (consW (constW (.str "cell")) (nilW))))) (seqBW (asgBW (binW .Add (constW (.int 1)) (callVW 1 bw_law_draw (consW (constW (.int 3)) (nilW)))) (nameA 12)) (nextBW)) (nextBW)) (nextBW))) (nextBW))
noncomputable def pinE : EW := subW (nameW 4) (callVW 3 bw_law_draw (consW (callW (consW (nameW 4) (nilW)) lenF) (nilW)))
noncomputable def st4 : BW := asgBW (callW (consW (compW [none, none, none, some 1, some 8] (rangeW (consW (nameW 12) (nilW))) (nameA 1) (trueTW true) pinE) (nilW)) tupleF) (nameA 13)
noncomputable def st5 : BW := asgBW (constW .none) (nameA 14)
noncomputable def st6 : BW := ifBW (cmpTW .In (nameW 11) (tupW (consW (constW (.str "lut")) (consW (constW (.str "cell")) (nilW))))) (seqBW (asgBW (callVW 1 bw_law_draw (consW (binW .LShift (constW (.int 1)) (binW .LShift (constW (.int 1)) (nameW 12))) (nilW))) (nameA 14)) (seqBW (ifBW (cmpTW .Eq (nameW 11) (constW (.str "cell"))) (seqBW (asgBW (tupW (consW (constW (.str "C")) (consW (nameW 14) (nilW)))) (nameA 14)) (nextBW)) (nextBW)) (nextBW))) (nextBW)
noncomputable def st7 : BW := asgBW (meth0W "new_net" (nameW 3) f_new_net) (nameA 15)
noncomputable def st8 : BW := exprBW (appendW (nameW 9) (tupW (consW (nameW 11) (consW (nameW 15) (consW (nameW 13) (consW (nameW 14) (nilW)))))))
noncomputable def st9 : BW := exprBW (appendW (nameW 8) (nameW 15))
theorem law9_eq : law_9 = forBW (rangeW (consW (binW .Add (constW (.int 3)) (callVW 1 bw_law_draw (consW (constW (.int 3)) (nilW)))) (nilW))) (nameA 10) (seqBW st1 (seqBW st2 (seqBW st3 (seqBW st4 (seqBW st5 (seqBW st6 (seqBW st7 (seqBW st8 (seqBW st9 nextBW))))))))) := rfl
section
variable {H : List AO} {cnt : Int} {is os : Ports} {cs : List Cell} {hd fr kn : List Int} {pl : List Cell} {ρ : Rho} {B : Fl → Rho → List AO → Prop}
theorem v_st1 (hr : R9 ρ) (hs : LS H cnt is os cs hd fr kn pl) (q : ∀ k ρ' H', k ∈ kindsL → R9 ρ' → ρ'[11]? = some (some (.str k)) → LS H' cnt is os cs hd fr kn pl → B .next ρ' H') : st1 ρ H B := by
 unfold st1
 simp only [zk12, zk57, nm hr.s2, zk58]
 refine hs.d hr.s1 (by decide) (by decide) (fun K k => k) fun v H' h0 h1 _ hs' => ?_
 obtain ⟨n, rfl⟩ := Int.eq_ofNat_of_zero_le h0
 have hn : n < kindsL.length := by show n < 11; lia
 refine (get_tup (v := .str kindsL[n]) ?_ (by lia)).mpr ?_
 ·show (kindsL.map V.str)[n]? = _
  rw [List.getElem?_map, List.getElem?_eq_getElem hn]; rfl
 ·exact q _ _ _ (List.getElem_mem hn) (hr.set (by decide) _) (rs_eq (by rw [hr.len]; decide)) hs'
theorem in_two {s a b : String} {Q : V → List AO → Prop} (q : Q (.bool (a == s || b == s)) H) : cmpV .In (.str s) (.tup [.str a, .str b]) H Q := ⟨[a, b], rfl, by simpa using q⟩
theorem v_st3 {k : String} (hr : R9 ρ) (hk : k ∈ kindsL) (h11 : ρ[11]? = some (some (.str k))) (h12 : ρ[12]? = some (some (.int 2))) (hs : LS H cnt is os cs hd fr kn pl)
  (q : ∀ n ρ' H', Cat k n → R9 ρ' → ρ'[11]? = some (some (.str k)) → ρ'[12]? = some (some (.int (n : Nat))) → LS H' cnt is os cs hd fr kn pl → B .next ρ' H') : st3 ρ H B := by
 unfold st3
 simp only [zk8, zk27, nm h11, zk28, constW_p, zk29, cmp_eqs, zk30, tru_bool, zk9, beq_iff_eq, zk4_, zk12, zk13, zk65, zk14, zk5, nextBW_p, zk48, zk52, zk53, nilW_p, zk54, zk49, List.length_cons, List.length_nil, Nat.zero_add, Nat.reduceAdd, Nat.reduceLeDiff, true_and]
 have fin : ∀ (n : Nat) H', Cat k n → LS H' cnt is os cs hd fr kn pl → B .next (ρ.set 12 (some (.int (n : Int)))) H' := fun n H' hc hs' =>
  q n _ _ hc (hr.set (by decide) _) (rs_ne (by decide) h11) (rs_eq (by rw [hr.len]; decide)) hs'
 by_cases h1 : k = "mux"
 ·rw [if_pos h1]; exact fin 3 H (.inr (.inl ⟨h1, rfl⟩)) hs
 rw [if_neg h1]
 refine in_two ?_
 simp only [zk30, tru_bool, zk9, Bool.or_eq_true, beq_iff_eq, zk4_, zk12, constW_p, zk13, zk65, zk14, zk5, nextBW_p, zk8, zk27, nm h11, zk28, zk48, zk52, zk53, nilW_p, zk54, zk49, List.length_cons, List.length_nil, Nat.zero_add, Nat.reduceAdd, Nat.reduceLeDiff, zk29, true_and]
 by_cases h2 : "not" = k ∨ "buf" = k
 ·rw [if_pos h2]; exact fin 1 H (.inr (.inr (.inl ⟨h2.elim (fun e => .inl e.symm) (fun e => .inr e.symm), rfl⟩))) hs
 rw [if_neg h2]
 refine in_two ?_
 simp only [zk30, tru_bool, zk9, Bool.or_eq_true, beq_iff_eq, zk4_, zk12, zk62, constW_p, zk63, nextBW_p, zk5]
 by_cases h3 : "lut" = k ∨ "cell" = k
 ·rw [if_pos h3]
  refine hs.d hr.s1 (by decide) (by decide) (fun K k => k) fun v H' h0 h1 _ hs' => ?_
  obtain ⟨n, rfl⟩ := Int.eq_ofNat_of_zero_le h0
  simp only [zk64, bin_add, zk13, zk65, zk14, zk5, nextBW_p]
  have e : (1 : Int) + (n : Int) = ((n + 1 : Nat) : Int) := by exact oq31
  rw [e]
  refine fin (n + 1) H' ?_ hs'
  rcases h3 with e | e
  ·exact .inr (.inr (.inr (.inl ⟨e.symm, by exact oq32, by exact oq33 h1⟩)))
  ·exact .inr (.inr (.inr (.inr ⟨e.symm, by exact oq32, by exact oq33 h1⟩)))
 ·rw [if_neg h3]
  refine q 2 _ _ (.inl ⟨?_, rfl⟩) hr h11 h12 hs
  unfold kindsL at hk
  simp only [List.mem_cons, List.not_mem_nil, or_false] at hk
  unfold g2L
  simp only [List.mem_cons, List.not_mem_nil, or_false]
  rcases hk with e | e | e | e | e | e | e | e | e | e | e
  ·exact .inl e
  ·exact .inr (.inl e)
  ·exact .inr (.inr (.inl e))
  ·exact .inr (.inr (.inr (.inl e)))
  ·exact .inr (.inr (.inr (.inr (.inl e))))
  ·exact .inr (.inr (.inr (.inr (.inr e))))
  ·exact (h1 e).elim
  ·exact (h2 (.inl e.symm)).elim
  ·exact (h2 (.inr e.symm)).elim
  ·exact (h3 (.inl e.symm)).elim
  ·exact (h3 (.inr e.symm)).elim
theorem c_pin {N : Nat} {ρc : Rho} {Q : V → List AO → Prop} {i j : Nat} (h3 : ρc[i]? = some (some (.clo 4 3))) (h4 : ρc[j]? = some (some (.ref 18))) (hN : 1 ≤ N) (hN2 : N ≤ 900) (hs : LS H cnt is os cs hd fr (newNets 0 N) pl)
  (q : ∀ (x : Int) H', 0 ≤ x → x < N → LS H' cnt is os cs hd fr (newNets 0 N) pl → Q (.int x) H') : subW (nameW j) (callVW i bw_law_draw (consW (callW (consW (nameW j) (nilW)) lenF) (nilW))) ρc H Q := by
 simp only [zk57, nm h4, zk58]
 refine hs.d (k := N) h3 (by lia) (by exact om38 hN2 rfl) (fun K k => ?_) fun v H' h0 h1 _ hs' => ?_
 ·simp only [zk55, zk52, nm h4, ↓vf5, zk56]
  rw [len_ref hs.known, List.length_map, newNets_len]
  exact ⟨by exact om5 hN2 rfl, k⟩
 ·obtain ⟨n, rfl⟩ := Int.eq_ofNat_of_zero_le h0
  refine (get_ref (v := .int (0 + (n : Nat))) hs'.known ?_ (by lia)).mpr ?_
  ·rw [List.getElem?_map, newNets_get (by exact oq1 h1)]; rfl
  ·rw [Int.zero_add]
   exact q _ _ h0 h1 hs'
theorem c_pins {N n : Nat} {ρc : Rho} {Q : List V → List AO → Prop} (h3 : ρc[3]? = some (some (.clo 4 3))) (h4 : ρc[4]? = some (some (.ref 18))) (hn : n ≤ 900) (hN : 1 ≤ N) (hN2 : N ≤ 900) (hs : LS H cnt is os cs hd fr (newNets 0 N) pl)
  (q : ∀ (xs : List Int) H', xs.length = n → (∀ x ∈ xs, 0 ≤ x ∧ x < N) → LS H' cnt is os cs hd fr (newNets 0 N) pl → Q (xs.map V.int) H') :
  compLoopW (Src.ok (.range (n : Int))) (nameA 1) (trueTW true) pinE (Src.items (.range (n : Int))) ρc H [] Q := by
 refine comp_inv (fun done acc ρc H' => ∃ xs : List Int, acc = xs.map V.int ∧ xs.length = done.length ∧ (∀ x ∈ xs, 0 ≤ x ∧ x < N) ∧ LS H' cnt is os cs hd fr (newNets 0 N) pl ∧ ρc[3]? = some (some (.clo 4 3)) ∧ ρc[4]? = some (some (.ref 18))) _ [] [] ?_ ?_ ?_
 ·exact ⟨[], rfl, rfl, fun _ h => (nomatch h), hs, h3, h4⟩
 ·rintro d v r acc ρ H' K e ⟨xs, rfl, hl, hx, hs, h3, h4⟩ hK
  have hdl : d.length < n := by
   have := congrArg List.length e
   simp [Src.items] at this; exact oq4 this
  refine ⟨trivial, by rw [List.length_map]; lia, ?_⟩
  simp only [trueTW_p, if_true, na]
  unfold pinE
  refine c_pin (rs_ne (by decide) h3) (rs_ne (by decide) h4) hN hN2 hs fun x H' h0 h1 hs' => ?_
  refine hK _ _ _ ⟨xs ++ [x], by simp, by simp; exact hl, ?_, hs', rs_ne (by decide) h3, rs_ne (by decide) h4⟩
  intro y hy
  rcases List.mem_append.mp hy with h | h
  ·exact hx y h
  ·rw [List.mem_singleton] at h; subst h; exact ⟨h0, h1⟩
 ·rintro acc ρ H' ⟨xs, rfl, hl, hx, hs, h3, h4⟩
  refine ⟨trivial, q xs H' ?_ hx hs⟩
  rw [hl]; simp [Src.items]
theorem v_st4 {n N : Nat} (hr : R9 ρ) (h12 : ρ[12]? = some (some (.int (n : Nat)))) (hn : n ≤ 900) (hN : 1 ≤ N) (hN2 : N ≤ 900) (hs : LS H cnt is os cs hd fr (newNets 0 N) pl)
  (q : ∀ (xs : List Int) H', xs.length = n → (∀ x ∈ xs, 0 ≤ x ∧ x < N) → LS H' cnt is os cs hd fr (newNets 0 N) pl → B .next (ρ.set 13 (some (.tup (xs.map V.int)))) H') : st4 ρ H B := by
 unfold st4
 simp only [zk12, zk55, zk52, zk115, zk81, nm h12, ↓vf5, zk82, zk116]
 refine ⟨by exact om1 _, by exact om38 hn rfl, ?_⟩
 refine c_pins ?_ ?_ hn hN hN2 hs fun xs H' hl hx hs' => ?_
 ·show some (ρ.getD 1 none) = _
  rw [List.getD_eq_getElem?_getD, hr.s1]; rfl
 ·show some (ρ.getD 8 none) = _
  rw [List.getD_eq_getElem?_getD, hr.s8]; rfl
 ·refine ⟨_, app_get, by rw [List.length_map]; exact om9 hl hn rfl, ?_⟩
  exact q xs _ hl hx (hs'.app _)
noncomputable def ParOk (k : String) (p : V) : Prop := (k = "lut" ∧ ∃ t : Nat, p = .int (t : Nat)) ∨ (k = "cell" ∧ ∃ t : Nat, p = .tup [.str "C", .int (t : Nat)]) ∨ (k ≠ "lut" ∧ k ≠ "cell" ∧ p = .none)
theorem Cat.good {k : String} {xs : List Int} {p : V} (h : Cat k xs.length) (hp : ParOk k p) : Good k xs p := by
 rcases h with ⟨hk, h⟩ | ⟨hk, h⟩ | ⟨hk, h⟩ | ⟨hk, h, h'⟩ | ⟨hk, h, h'⟩
 ··obtain ⟨a, b, rfl⟩ := len2 h
   rcases hp with ⟨e, _⟩ | ⟨e, _⟩ | ⟨_, _, rfl⟩
   ·subst e; simp [g2L] at hk
   ·subst e; simp [g2L] at hk
   ·exact .g2 hk
 ··obtain ⟨a, b, c, rfl⟩ := len3 h
   subst hk
   rcases hp with ⟨e, _⟩ | ⟨e, _⟩ | ⟨_, _, rfl⟩
   ·simp at e
   ·simp at e
   ·exact .mux
 ··obtain ⟨a, rfl⟩ := len1 h
   rcases hk with rfl | rfl
   ·rcases hp with ⟨e, _⟩ | ⟨e, _⟩ | ⟨_, _, rfl⟩
    ·simp at e
    ·simp at e
    ·exact .not
   ·rcases hp with ⟨e, _⟩ | ⟨e, _⟩ | ⟨_, _, rfl⟩
    ·simp at e
    ·simp at e
    ·exact .buf
 ·subst hk
  rcases hp with ⟨_, t, rfl⟩ | ⟨e, _⟩ | ⟨e, _⟩
  ·exact .lut h'
  ·simp at e
  ·exact (e rfl).elim
 ·subst hk
  rcases hp with ⟨e, _⟩ | ⟨_, t, rfl⟩ | ⟨_, e, _⟩
  ·simp at e
  ·exact .cell h'
  ·exact (e rfl).elim
theorem v_st6 {k : String} {n : Nat} (hr : R9 ρ) (h11 : ρ[11]? = some (some (.str k))) (h12 : ρ[12]? = some (some (.int (n : Nat)))) (hn : 1 ≤ n ∧ n ≤ 3) (h14 : ρ[14]? = some (some .none)) (hs : LS H cnt is os cs hd fr kn pl)
  (q : ∀ p ρ' H', ParOk k p → (∀ i, i ≠ 14 → ρ'[i]? = ρ[i]?) → ρ'.length = ρ.length → ρ'[14]? = some (some p) → LS H' cnt is os cs hd fr kn pl → B .next ρ' H') : st6 ρ H B := by
 unfold st6
 simp only [zk8, zk27, nm h11, zk28, zk48, zk52, constW_p, zk53, nilW_p, zk54, zk49, List.length_cons, List.length_nil, Nat.zero_add, Nat.reduceAdd, Nat.reduceLeDiff, zk29, true_and]
 refine in_two ?_
 simp only [zk30, tru_bool, zk9, Bool.or_eq_true, beq_iff_eq, zk4_, zk12, nextBW_p]
 by_cases h3 : "lut" = k ∨ "cell" = k
 ·rw [if_pos h3]
  refine hs.d (k := ((2 ^ 2 ^ n : Nat) : Int)) hr.s1 ?_ ?_ (fun K k => ?_) fun v H' h0 h1 _ hs' => ?_
  ·have := Nat.two_pow_pos (2 ^ n); lia
  ·have := pp8 hn.2; lia
  ·simp only [zk62, constW_p, zk63, nm h12, zk64, bin_shl, shl_one]
   have h8 := shl8 hn.2
   refine ⟨by exact Int.natCast_nonneg _, by lia, by decide, Int.natCast_nonneg _, by exact om39 h8 rfl, by decide, ?_⟩
   rw [Nat.shiftLeft_eq, Nat.one_mul, Nat.shiftLeft_eq, Nat.one_mul]; exact k
  ·obtain ⟨t, rfl⟩ := Int.eq_ofNat_of_zero_le h0
   have hs1 : ∀ (u : V), (ρ.set 14 (some u))[11]? = some (some (.str k)) := fun u => rs_ne (by decide) h11
   have hs2 : ∀ (u : V), (ρ.set 14 (some u))[14]? = some (some u) := fun u => rs_eq (by rw [hr.len]; decide)
   simp only [zk13, zk65, zk14, zk5, zk4_, zk8, zk27, nm (hs1 _), zk28, constW_p, zk29, cmp_eqs, zk30, tru_bool, zk9, beq_iff_eq, zk12, zk48, zk52, zk53, nm (hs2 _), nilW_p, zk54, zk49, List.length_cons, List.length_nil, Nat.zero_add, Nat.reduceAdd, Nat.reduceLeDiff, nextBW_p, true_and]
   by_cases h4 : k = "cell"
   ·rw [if_pos h4, List.set_set]
    exact q _ _ _ (.inr (.inl ⟨h4, t, rfl⟩)) (fun i hi => by rw [List.getElem?_set_ne (fun e => hi e.symm)]) (by rw [List.length_set]) (hs2 _) hs'
   ·rw [if_neg h4]
    refine q _ _ _ (.inl ⟨?_, t, rfl⟩) (fun i hi => by rw [List.getElem?_set_ne (fun e => hi e.symm)]) (by rw [List.length_set]) (hs2 _) hs'
    exact h3.elim (fun e => e.symm) (fun e => (h4 e.symm).elim)
 ·rw [if_neg h3]
  exact q _ _ _ (.inr (.inr ⟨fun e => h3 (.inl e.symm), fun e => h3 (.inr e.symm), rfl⟩)) (fun _ _ => rfl) rfl h14 hs
end
end Mine
end
section
open PySem
set_option maxRecDepth 100000
namespace Mine
theorem tuple_ref {H : List AO} {Q : V → List AO → Prop} {k : Nat} {l : List V} (h : H[k]? = some (.list l)) (hl : l.length ≤ 1000) (q : Q (.tup l) H) : tupleF [.ref k] H Q := ⟨l, h, hl, q⟩
noncomputable def CombOk (m : Nat) (C : List Cell) : Prop := ∀ (i : Nat) (c : Cell), C[i]? = some c → c.out = ((m + 2 + i : Nat) : Int) ∧ c.st = false ∧ Good c.kind c.ins c.par ∧ ∀ x ∈ c.ins, 0 ≤ x ∧ x < ((m + 2 + i : Nat) : Int)
theorem kn_snoc (N : Nat) : (newNets 0 N).map V.int ++ [V.int (N : Nat)] = (newNets 0 (N + 1)).map V.int := by
 unfold newNets; rw [List.range_succ, List.map_append, List.map_append]; simp
section
variable {H : List AO} {cnt : Int} {is os : Ports} {cs : List Cell} {hd fr kn : List Int} {pl : List Cell} {ρ : Rho} {B : Fl → Rho → List AO → Prop}
theorem v_law9 {m : Nat} (hm : m ≤ 5) (hr : R9 ρ) (hs : LS H ((m + 2 : Nat) : Int) is os cs hd fr (newNets 0 (m + 2)) [])
  (q : ∀ (T : Nat) ρ' H' C, T ≤ 5 → C.length = T → CombOk m C → R9 ρ' → LS H' ((m + 2 + T : Nat) : Int) is os cs hd fr (newNets 0 (m + 2 + T)) C → B .next ρ' H') : law_9 ρ H B := by
 rw [law9_eq]
 simp only [zk17, zk81, zk52, zk62, constW_p, zk63]
 refine hs.d hr.s1 (by decide) (by decide) (fun K k => k) fun v H' h0 h1 _ hs => ?_
 obtain ⟨n, rfl⟩ := Int.eq_ofNat_of_zero_le h0
 simp only [zk64, bin_add, ↓vf5, zk82, zk18]
 refine ⟨by lia, by lia, ?_⟩
 have e3 : (3 : Int) + (n : Int) = ((n + 3 : Nat) : Int) := by lia
 rw [e3]
 have hT : n + 3 ≤ 5 := by lia
 generalize n + 3 = T at hT
 clear h0 h1 e3
 refine range_inv rfl (fun t ρ H' => ∃ C, An4 (C.length = t) (CombOk m C) (R9 ρ) (LS H' ((m + 2 + t : Nat) : Int) is os cs hd fr (newNets 0 (m + 2 + t)) C)) ?_ ?_ ?_
 ·exact ⟨[], rfl, fun i c e => (by cases e), hr, hs⟩
 ·rintro t ht ρ H B' ⟨C, hCl, hC, hr, hs⟩ hB
  simp only [zk19, na, zk20, zk4_]
  refine v_st1 (hr.set (by decide) _) hs fun k ρ1 H1 hk hr1 h11 hs1 => ?_
  unfold st2
  simp only [zk5]
  refine v_st3 (hr1.set (by decide) _) hk (rs_ne (by decide) h11) (rs_eq (by rw [hr1.len]; decide)) hs1 fun n ρ3 H3 hcat hr3 h11 h12 hs3 => ?_
  have hn := hcat.le
  refine v_st4 hr3 h12 (by lia) (by lia) (by lia) hs3 fun xs H4 hxl hxs hs4 => ?_
  unfold st5
  simp only [zk5]
  have hr4 : R9 ((ρ3.set 13 (some (.tup (xs.map V.int)))).set 14 (some .none)) := (hr3.set (by decide) _).set (by decide) _
  have g13 : ((ρ3.set 13 (some (.tup (xs.map V.int)))).set 14 (some .none))[13]? = some (some (.tup (xs.map V.int))) := rs_ne (by decide) (rs_eq (by rw [hr3.len]; decide))
  have g11 : ((ρ3.set 13 (some (.tup (xs.map V.int)))).set 14 (some .none))[11]? = some (some (.str k)) := rs_ne (by decide) (rs_ne (by decide) h11)
  refine v_st6 hr4 g11 (rs_ne (by decide) (rs_ne (by decide) h12)) hn (rs_eq (by rw [List.length_set, hr3.len]; decide)) hs4 fun p ρ6 H6 hp hsame hl6 h14 hs6 => ?_
  have hr6 : R9 ρ6 := ⟨by rw [hl6]; exact hr4.len, by rw [hsame _ (by decide)]; exact hr4.s1, by rw [hsame _ (by decide)]; exact hr4.s2, by rw [hsame _ (by decide)]; exact hr4.s3, by rw [hsame _ (by decide)]; exact hr4.s6,
   by rw [hsame _ (by decide)]; exact hr4.s7, by rw [hsame _ (by decide)]; exact hr4.s8, by rw [hsame _ (by decide)]; exact hr4.s9⟩
  have k11 : ρ6[11]? = some (some (.str k)) := by rw [hsame _ (by decide)]; exact g11
  have k13 : ρ6[13]? = some (some (.tup (xs.map V.int))) := by rw [hsame _ (by decide)]; exact g13
  unfold st7
  simp only [zk4_, zk12, zk101, nm hr6.s3, zk102]
  refine ⟨5, _, hs6.bn.inst, hs6.bn.ns, rfl, ?_⟩
  refine c_new_net hs6.bn ?_
  simp only [zk13, na, ↓vf12]
  have hs7 := hs6.net (.inl rfl) (hs6.bn.setCnt (((m + 2 + t : Nat) : Int) + 1))
  generalize H6.set 5 (.ns (nsOf (((m + 2 + t : Nat) : Int) + 1) (5 + 2) (5 + 3) (5 + 4))) = H7 at hs7 ⊢
  have hr7 : R9 (ρ6.set 15 (some (.int ((m + 2 + t : Nat) : Int)))) := hr6.set (by decide) _
  have j11 : (ρ6.set 15 (some (.int ((m + 2 + t : Nat) : Int))))[11]? = some (some (.str k)) := rs_ne (by decide) k11
  have j13 : (ρ6.set 15 (some (.int ((m + 2 + t : Nat) : Int))))[13]? = some (some (.tup (xs.map V.int))) := rs_ne (by decide) k13
  have j14 : (ρ6.set 15 (some (.int ((m + 2 + t : Nat) : Int))))[14]? = some (some p) := rs_ne (by decide) h14
  have j15 : (ρ6.set 15 (some (.int ((m + 2 + t : Nat) : Int))))[15]? = some (some (.int ((m + 2 + t : Nat) : Int))) := rs_eq (by rw [hr6.len]; decide)
  generalize ρ6.set 15 (some (.int ((m + 2 + t : Nat) : Int))) = ρ7 at hr7 j11 j13 j14 j15 ⊢
  unfold st8
  simp only [zk4_, zk15, zk86, nm hr7.s9, zk87, zk48, zk52, nm j11, zk53, nm j15, nm j13, nm j14, ↓vf5, ↓vf6, zk54, zk49, zk88, ↓vf11]
  refine ⟨_, hs7.placed, Nat.le_of_ble_eq_true rfl, ?_⟩
  refine ⟨_, hs7.placed, by rw [List.length_map]; lia, ?_⟩
  have ep : C.map cellV ++ [V.tup [.str k, .int ((m + 2 + t : Nat) : Int), .tup (xs.map V.int), p]] = (C ++ [(⟨k, ((m + 2 + t : Nat) : Int), xs, p⟩ : Cell)]).map cellV := by rw [List.map_append]; rfl
  rw [ep]
  have hs8 := hs7.setPlaced (C ++ [(⟨k, ((m + 2 + t : Nat) : Int), xs, p⟩ : Cell)])
  generalize H7.set 19 (.list ((C ++ [(⟨k, ((m + 2 + t : Nat) : Int), xs, p⟩ : Cell)]).map cellV)) = H8 at hs8 ⊢
  unfold st9
  simp only [zk15, zk86, nm hr7.s8, zk87, nm j15, zk88, ↓vf11, nextBW_p]
  refine ⟨_, hs8.known, _, hs8.known, by rw [List.length_map, newNets_len]; lia, ?_⟩
  rw [kn_snoc]
  have hs9 := hs8.setKnown (newNets 0 (m + 2 + t + 1))
  refine (hB _ _ ⟨C ++ [(⟨k, ((m + 2 + t : Nat) : Int), xs, p⟩ : Cell)], by simp [hCl], ?_, hr7, hs9⟩).1
  intro i c hc
  have hgood : Good k xs p := by subst hxl; exact hcat.good hp
  rcases Nat.lt_or_ge i C.length with hi | hi
  ·rw [List.getElem?_append_left hi] at hc; exact hC i c hc
  ·rw [List.getElem?_append_right hi] at hc
   have hi0 : i - C.length = 0 := by have := (List.getElem?_eq_some_iff.mp hc).1; simp at this ⊢; exact this
   rw [hi0] at hc; simp at hc; subst hc
   have : i = t := by exact oq34 hi0 hi hCl
   subst this
   exact ⟨rfl, hgood.comb, hgood, hxs⟩
 ·rintro ρ H ⟨C, hCl, hC, hr, hs⟩
  exact q T ρ H C hT hCl hC hr hs
noncomputable def OsOk (N : Nat) (os : Ports) : Prop := ∀ p ∈ os, (p.1 = "y" ∨ p.1 = "z") ∧ ∃ a : Int, p.2 = [a] ∧ 0 ≤ a ∧ a < N
theorem v_law10 {N : Nat} (hN : 1 ≤ N) (hN2 : N ≤ 900) (hr : R9 ρ) (hs : LS H cnt is [] cs hd fr (newNets 0 N) pl)
  (q : ∀ ρ' H' os, OsOk N os → os.length = 2 → R9 ρ' → LS H' cnt is os cs hd fr (newNets 0 N) pl → B .next ρ' H') : law_10 ρ H B := by
 unfold law_10
 simp only [zk17, zk83, zk48, zk52, constW_p, zk53, ↓vf5, zk54, zk49, zk85, zk18]
 refine ⟨Nat.le_of_ble_eq_true rfl, ?_⟩
 refine loop_nth (fun i ρ H' => ∃ os, An4 (OsOk N os) (os.length = i) (R9 ρ) (LS H' cnt is os cs hd fr (newNets 0 N) pl)) ?_ ?_ ?_
 ·exact ⟨[], fun _ h => (nomatch h), rfl, hr, hs⟩
 ·rintro i v hv ρ H B' ⟨os, ho, hol, hr, hs⟩ hB
  refine ⟨trivial, ?_⟩
  have hx : ∃ x, v = .str x ∧ (x = "y" ∨ x = "z") ∧ i < 2 := by
   match i, hv with
   | 0, hv => cases hv; exact ⟨_, rfl, .inl rfl, by decide⟩
   | 1, hv => cases hv; exact ⟨_, rfl, .inr rfl, by decide⟩
  obtain ⟨x, rfl, hx, hi⟩ := hx
  have hr2 := hr.set (k := 16) (by decide) (some (.str x))
  have g16 : (ρ.set 16 (some (.str x)))[16]? = some (some (.str x)) := rs_eq (by rw [hr.len]; decide)
  simp only [zk19, na, zk20]
  generalize ρ.set 16 (some (.str x)) = ρ2 at hr2 g16 ⊢
  simp only [zk4_, zk15, zk98, nm hr2.s3, zk99, zk52, nm g16, zk53, zk50]
  refine ⟨5, _, hs.bn.inst, hs.bn.ns, rfl, ?_⟩
  refine c_pin hr2.s1 hr2.s8 hN hN2 hs fun a H' h0 h1 hs => ?_
  refine ⟨Nat.le_of_ble_eq_true rfl, ?_⟩
  have hs2 := hs.app [AO.list [.int a]]
  obtain ⟨vo, hvo, hvR⟩ := hs2.bn.out
  refine c_add_output (j := 5) (ns := [a]) hs2.bn app_get (Nat.le_of_ble_eq_true rfl) hvo (by have := hvR.len; lia) ?_
  have hs3 := hs2.app [AO.list [.int a]]
  have hb := hs3.bn.addOut (x := x) (r := (H' ++ [AO.list [.int a]]).length) (ns := [a]) ((Keep.app _ _) _ _ hvo) (by have := hs2.len; unfold PP; lia) app_get
  refine (hB _ _ ⟨os ++ [(x, [a])], ?_, by simp [hol], hr2, hs3.net (.inr (.inl rfl)) hb⟩).1
  intro p hp
  rcases List.mem_append.mp hp with h | h
  ·exact ho p h
  ·rw [List.mem_singleton] at h; subst h; exact ⟨hx, a, rfl, h0, h1⟩
 ·rintro ρ H ⟨os, ho, hol, hr, hs⟩
  exact ⟨trivial, q ρ H os ho hol hr hs⟩
noncomputable def StateOk (N : Nat) (hd : List Int) (S : List Cell) : Prop := ∀ (i : Nat) (c : Cell), S[i]? = some c → hd[i]? = some c.out ∧ ((c.kind = "flop" ∧ c.par = .tup [.int 1, .str "q", .int 0]) ∨ (c.kind = "latch" ∧ c.par = .tup [.str "q", .int 0])) ∧ c.ins.length = 4 ∧ ∀ x ∈ c.ins, 0 ≤ x ∧ x < (N : Int)
theorem v_law11 {N : Nat} {C : List Cell} (hN : 1 ≤ N) (hN2 : N ≤ 900) (hCl : C.length ≤ 900) (hhd : hd.length ≤ 1) (hr : R9 ρ) (hs : LS H cnt is os cs hd fr (newNets 0 N) C)
  (q : ∀ ρ' H' S, StateOk N hd S → S.length = hd.length → R9 ρ' → LS H' cnt is os cs hd fr (newNets 0 N) (C ++ S) → B .next ρ' H') : law_11 ρ H B := by
 unfold law_11
 simp only [zk17, zk83, nm hr.s6, zk84, zk18]
 refine ⟨_, hs.held, ?_⟩
 refine loop_nth (fun i ρ H' => ∃ S, An4 (StateOk N hd S) (S.length = i) (R9 ρ) (LS H' cnt is os cs hd fr (newNets 0 N) (C ++ S))) ?_ ?_ ?_
 ·exact ⟨[], fun i c e => (by cases e), rfl, hr, by simpa using hs⟩
 ·rintro i v hv ρ H B' ⟨S, hS, hSl, hr, hs⟩ hB
  refine ⟨hs.held, ?_⟩
  rw [Src.items, List.getElem?_map] at hv
  obtain ⟨net, hnet, rfl⟩ := Option.map_eq_some_iff.mp hv
  have hi := (List.getElem?_eq_some_iff.mp hnet).1
  have hr2 := hr.set (k := 17) (by decide) (some (.int net))
  have g17 : (ρ.set 17 (some (.int net)))[17]? = some (some (.int net)) := rs_eq (by rw [hr.len]; decide)
  simp only [zk19, na, zk20]
  generalize ρ.set 17 (some (.int net)) = ρ2 at hr2 g17 ⊢
  simp only [zk4_, zk12, zk55, zk52, zk115, zk81, constW_p, ↓vf5, zk82, zk116]
  refine ⟨by decide, by decide, ?_⟩
  refine c_pins (n := 4) ?_ ?_ (by decide) hN hN2 hs fun xs H' hl hx hs => ?_
  ·show some (ρ2.getD 1 none) = _
   rw [List.getD_eq_getElem?_getD, hr2.s1]; rfl
  ·show some (ρ2.getD 8 none) = _
   rw [List.getD_eq_getElem?_getD, hr2.s8]; rfl
  refine tuple_ref app_get (by rw [List.length_map]; exact om12 hl rfl) ?_
  simp only [zk13, na, ↓vf12]
  replace hs := hs.app [AO.list (xs.map V.int)]
  generalize H' ++ [AO.list (xs.map V.int)] = H3 at hs ⊢
  have hr3 := hr2.set (k := 18) (by decide) (some (.tup (xs.map V.int)))
  have g17' : (ρ2.set 18 (some (.tup (xs.map V.int))))[17]? = some (some (.int net)) := rs_ne (by decide) g17
  have g18 : (ρ2.set 18 (some (.tup (xs.map V.int))))[18]? = some (some (.tup (xs.map V.int))) := rs_eq (by rw [hr2.len]; decide)
  generalize ρ2.set 18 (some (.tup (xs.map V.int))) = ρ3 at hr3 g17' g18 ⊢
  simp only [zk4_, zk15, zk86, nm hr3.s9, zk87, zk46, zk36]
  refine ⟨_, hs.placed, ?_⟩
  refine hs.d hr3.s1 (by decide) (by decide) (fun K k => k) fun v H4 h0 h1 _ hs => ?_
  simp only [zk30, tru_int, zk47]
  have fin : ∀ c : Cell, c.out = net → c.ins = xs → ((c.kind = "flop" ∧ c.par = .tup [.int 1, .str "q", .int 0]) ∨ (c.kind = "latch" ∧ c.par = .tup [.str "q", .int 0])) →
    ∃ l : List V, H4[19]? = some (.list l) ∧ l.length ≤ 1000 ∧ B' .next ρ3 (H4.set 19 (.list (l ++ [cellV c]))) := by
   intro c e1 e2 e3
   refine ⟨_, hs.placed, by rw [List.length_map, List.length_append]; lia, ?_⟩
   have ep : (C ++ S).map cellV ++ [cellV c] = (C ++ (S ++ [c])).map cellV := by rw [← List.append_assoc, List.map_append (l₁ := C ++ S)]; rfl
   rw [ep]
   refine (hB _ _ ⟨S ++ [c], ?_, by simp [hSl], hr3, hs.setPlaced _⟩).1
   intro k c' hc'
   rcases Nat.lt_or_ge k S.length with hk | hk
   ·rw [List.getElem?_append_left hk] at hc'; exact hS k c' hc'
   ·rw [List.getElem?_append_right hk] at hc'
    have hk0 : k - S.length = 0 := by have := (List.getElem?_eq_some_iff.mp hc').1; simp at this ⊢; exact this
    rw [hk0] at hc'; simp at hc'; subst hc'
    have : k = i := by exact oq34 hk0 hk hSl
    subst this
    rw [e1, e2]
    exact ⟨hnet, e3, hl, hx⟩
  by_cases hv0 : (v != 0) = true
  ·rw [if_pos hv0]
   simp only [zk48, zk52, constW_p, zk53, nm g17', nm g18, ↓vf5, ↓vf6, zk49, zk54, zk88, ↓vf11, nextBW_p]
   exact ⟨Nat.le_of_ble_eq_true rfl, Nat.le_of_ble_eq_true rfl, fin ⟨"flop", net, xs, .tup [.int 1, .str "q", .int 0]⟩ rfl rfl (.inl ⟨rfl, rfl⟩)⟩
  ·rw [if_neg hv0]
   simp only [zk48, zk52, constW_p, zk53, nm g17', nm g18, ↓vf5, zk54, zk49, ↓vf6, zk88, ↓vf11, nextBW_p]
   exact ⟨Nat.le_of_ble_eq_true rfl, Nat.le_of_ble_eq_true rfl, fin ⟨"latch", net, xs, .tup [.str "q", .int 0]⟩ rfl rfl (.inr ⟨rfl, rfl⟩)⟩
 ·rintro ρ H ⟨S, hS, hSl, hr, hs⟩
  refine ⟨hs.held, q ρ H S hS ?_ hr hs⟩
  rw [hSl, Src.items, List.length_map]
theorem v_law12 (hl : pl.length ≤ 900) (hr : R9 ρ) (hs : LS H cnt is os cs hd fr kn pl) (q : ∀ H' pl', (pl' = pl ∨ pl' = pl.reverse) → LS H' cnt is os cs hd fr kn pl' → B .next ρ H') : law_12 ρ H B := by
 unfold law_12
 simp only [zk8, zk36]
 refine hs.d hr.s1 (by decide) (by decide) (fun K k => k) fun v H4 h0 h1 _ hs => ?_
 simp only [zk30, tru_int, zk9]
 by_cases hv0 : (v != 0) = true
 ·rw [if_pos hv0]
  simp only [zk4_, zk15, zk89, nm hr.s9, zk90, ↓vf11, nextBW_p]
  refine ⟨_, hs.placed, by rw [List.length_map]; exact om5 hl rfl, ?_⟩
  rw [← List.map_reverse]
  exact q _ _ (.inr rfl) (hs.setPlaced _)
 ·rw [if_neg hv0]; exact q _ _ (.inl rfl) hs
theorem v_law13 (hl : pl.length ≤ 900) (hr : R9 ρ) (hs : LS H cnt is os [] hd fr kn pl) (q : ∀ ρ' H', R9 ρ' → LS H' cnt is os pl hd fr kn pl → B .next ρ' H') : law_13 ρ H B := by
 unfold law_13
 simp only [zk17, zk83, nm hr.s9, zk84, zk18]
 refine ⟨_, hs.placed, ?_⟩
 refine loop_nth (fun i ρ H' => R9 ρ ∧ LS H' cnt is os (pl.take i) hd fr kn pl) ?_ ?_ ?_
 ·exact ⟨hr, by simpa using hs⟩
 ·rintro i v hv ρ H B' ⟨hr, hs⟩ hB
  refine ⟨hs.placed, ?_⟩
  rw [Src.items, List.getElem?_map] at hv
  obtain ⟨c, hc, rfl⟩ := Option.map_eq_some_iff.mp hv
  have hi := (List.getElem?_eq_some_iff.mp hc).1
  unfold cellV
  simp only [zk19, tupA_p, zk69, na, zk70, nilAs_p, zk20]
  refine ⟨rfl, ?_⟩
  have hr2 : R9 ((((ρ.set 11 (some (.str c.kind))).set 15 (some (.int c.out))).set 13 (some (.tup (c.ins.map V.int)))).set 14 (some c.par)) := (((hr.set (by decide) _).set (by decide) _).set (by decide) _).set (by decide) _
  have g11 : ((((ρ.set 11 (some (.str c.kind))).set 15 (some (.int c.out))).set 13 (some (.tup (c.ins.map V.int)))).set 14 (some c.par))[11]? = some (some (.str c.kind)) := rs_ne (by decide) (rs_ne (by decide) (rs_ne (by decide) (rs_eq (by rw [hr.len]; decide))))
  have g15 : ((((ρ.set 11 (some (.str c.kind))).set 15 (some (.int c.out))).set 13 (some (.tup (c.ins.map V.int)))).set 14 (some c.par))[15]? = some (some (.int c.out)) := rs_ne (by decide) (rs_ne (by decide) (rs_eq (by rw [List.length_set, hr.len]; decide)))
  have g13 : ((((ρ.set 11 (some (.str c.kind))).set 15 (some (.int c.out))).set 13 (some (.tup (c.ins.map V.int)))).set 14 (some c.par))[13]? = some (some (.tup (c.ins.map V.int))) := rs_ne (by decide) (rs_eq (by rw [List.length_set, List.length_set, hr.len]; decide))
  have g14 : ((((ρ.set 11 (some (.str c.kind))).set 15 (some (.int c.out))).set 13 (some (.tup (c.ins.map V.int)))).set 14 (some c.par))[14]? = some (some c.par) := rs_eq (by rw [List.length_set, List.length_set, List.length_set, hr.len]; decide)
  generalize (((ρ.set 11 (some (.str c.kind))).set 15 (some (.int c.out))).set 13 (some (.tup (c.ins.map V.int)))).set 14 (some c.par) = ρ2 at hr2 g11 g13 g14 g15 ⊢
  simp only [zk4_, zk15, zk98, nm hr2.s3, zk99, zk52, nm g15, zk53, nm g11, nm g13, nm g14, ↓vf5, ↓vf6, zk54, zk100]
  refine ⟨5, _, hs.bn.inst, hs.bn.ns, rfl, ?_⟩
  refine c_drive_t (j := 5) hs.bn (by rw [List.length_take]; lia) ?_
  have hb := hs.bn.addCell c
  refine (hB _ _ ⟨hr2, ?_⟩).1
  rw [List.take_add_one, hc]
  exact hs.net (.inr (.inr rfl)) hb
 ·rintro ρ H ⟨hr, hs⟩
  rw [Src.items, List.length_map, List.take_of_length_le (Nat.le_refl _)] at hs
  exact ⟨hs.placed, q ρ H hr hs⟩
end
end Mine
end
section
open PySem
set_option maxRecDepth 100000
namespace Mine
structure Circ (w hn m T : Nat) (C S cs : List Cell) (os : Ports) : Prop where
 w1 : 1 ≤ w
 w3 : w ≤ 3
 hn1 : hn ≤ 1
 hm : m = w + 1 + hn
 T5 : T ≤ 5
 Cl : C.length = T
 Sl : S.length = hn
 cOk : CombOk m C
 sOk : StateOk (m + 2 + T) (newNets (3 + w) hn) S
 hcs : cs = C ++ S ∨ cs = (C ++ S).reverse
 oOk : OsOk (m + 2 + T) os
 ol : os.length = 2
section
variable {w hn m T : Nat} {C S cs : List Cell} {os : Ports}
theorem Circ.mem (h : Circ w hn m T C S cs os) {c : Cell} : c ∈ cs ↔ c ∈ C ∨ c ∈ S := by
 rcases h.hcs with e | e
 ·rw [e, List.mem_append]
 ·rw [e, List.mem_reverse, List.mem_append]
theorem Circ.inC (h : Circ w hn m T C S cs os) {c : Cell} (hc : c ∈ C) : c.st = false ∧ Good c.kind c.ins c.par ∧ ((m + 2 : Nat) : Int) ≤ c.out ∧ c.out < ((m + 2 + T : Nat) : Int) ∧ ∀ x ∈ c.ins, 0 ≤ x ∧ x < c.out := by
 obtain ⟨i, hi⟩ := List.mem_iff_getElem?.mp hc
 obtain ⟨a, b, d, e⟩ := h.cOk i c hi
 have := (List.getElem?_eq_some_iff.mp hi).1
 rw [h.Cl] at this
 refine ⟨b, d, by lia, by lia, fun x hx => ?_⟩
 have := e x hx
 lia
theorem Circ.inS (h : Circ w hn m T C S cs os) {c : Cell} (hc : c ∈ S) : c.st = true ∧ ((3 + w : Nat) : Int) ≤ c.out ∧ c.out < ((m + 2 : Nat) : Int) ∧ c.ins.length = 4 ∧ ∀ x ∈ c.ins, 0 ≤ x ∧ x < ((m + 2 + T : Nat) : Int) := by
 obtain ⟨i, hi⟩ := List.mem_iff_getElem?.mp hc
 obtain ⟨a, b, d, e⟩ := h.sOk i c hi
 have hi2 := (List.getElem?_eq_some_iff.mp hi).1
 rw [h.Sl] at hi2
 rw [newNets_get hi2] at a
 have ha := Option.some.inj a
 have hm := h.hm
 refine ⟨?_, by lia, by lia, d, e⟩
 unfold Cell.st
 rcases b with ⟨b, _⟩ | ⟨b, _⟩ <;> rw [b] <;> decide
theorem Circ.comb (h : Circ w hn m T C S cs os) {c : Cell} (hc : c ∈ cs) (hst : c.st = false) : c ∈ C := by
 rcases h.mem.mp hc with e | e
 ·exact e
 ·rw [(h.inS e).1] at hst; cases hst
theorem Circ.state (h : Circ w hn m T C S cs os) {c : Cell} (hc : c ∈ cs) (hst : c.st = true) : c ∈ S := by
 rcases h.mem.mp hc with e | e
 ·rw [(h.inC e).1] at hst; cases hst
 ·exact e
theorem Circ.outC (h : Circ w hn m T C S cs os) {x : Int} (h1 : ((m + 2 : Nat) : Int) ≤ x) (h2 : x < ((m + 2 + T : Nat) : Int)) : ∃ c ∈ C, c.out = x := by
 have hi : (x - ((m + 2 : Nat) : Int)).toNat < C.length := by rw [h.Cl]; lia
 refine ⟨C[(x - ((m + 2 : Nat) : Int)).toNat], List.getElem_mem hi, ?_⟩
 rw [(h.cOk _ _ (List.getElem?_eq_getElem hi)).1]; lia
theorem newNets_nd (c : Int) (k : Nat) : (newNets c k).Nodup := by
 unfold newNets
 rw [List.Nodup, List.pairwise_map]
 exact List.nodup_range.imp fun h e => h (by lia)
theorem Circ.outs (h : Circ w hn m T C S cs os) : (cs.map Cell.out).Perm (newNets (m + 2) T ++ newNets (3 + w) hn) := by
 have e1 : C.map Cell.out = newNets (m + 2) T := by
  apply List.ext_getElem?
  intro i
  rw [List.getElem?_map]
  rcases Nat.lt_or_ge i C.length with hi | hi
  ·rw [List.getElem?_eq_getElem hi]
   have := (h.cOk i _ (List.getElem?_eq_getElem hi)).1
   rw [newNets_get (by rw [← h.Cl]; exact hi)]
   simp only [Option.map_some]; rw [this]; congr 1
  ·rw [List.getElem?_eq_none hi, List.getElem?_eq_none (by rw [newNets_len, ← h.Cl]; exact hi)]; rfl
 have e2 : S.map Cell.out = newNets (3 + w) hn := by
  apply List.ext_getElem?
  intro i
  rw [List.getElem?_map]
  rcases Nat.lt_or_ge i S.length with hi | hi
  ·rw [List.getElem?_eq_getElem hi]
   rw [(h.sOk i _ (List.getElem?_eq_getElem hi)).1]; rfl
  ·rw [List.getElem?_eq_none hi, List.getElem?_eq_none (by rw [newNets_len, ← h.Sl]; exact hi)]; rfl
 rcases h.hcs with e | e
 ·rw [e, List.map_append, e1, e2]
 ·rw [e, List.map_reverse, List.map_append, e1, e2]; exact List.reverse_perm _
theorem Circ.nd (h : Circ w hn m T C S cs os) : ([0, 1] ++ netsOf (inPorts w) ++ cs.map Cell.out).Nodup ∧ ([0, 1] ++ netsOf (inPorts w) ++ cs.map Cell.out).length = m + 2 + T := by
 have hp : ([0, 1] ++ netsOf (inPorts w) ++ cs.map Cell.out).Perm (newNets 0 (m + 2 + T)) := by
  have hin : [0, 1] ++ netsOf (inPorts w) = newNets 0 (3 + w) := by
   have e : netsOf (inPorts w) = newNets 2 w ++ newNets (2 + w) 1 := by unfold netsOf inPorts; simp
   rw [e, newNets_app, known_eq]
   congr 1; lia
  rw [hin]
  refine (List.Perm.append_left _ h.outs).trans ?_
  refine (List.Perm.append_left _ List.perm_append_comm).trans ?_
  have hm := h.hm
  have a1 := newNets_app 0 (3 + w) hn
  have a2 := newNets_app 0 (3 + w + hn) T
  have b1 : (0 : Int) + ((3 + w : Nat) : Int) = 3 + w := by lia
  have b2 : (0 : Int) + ((3 + w + hn : Nat) : Int) = m + 2 := by lia
  have b3 : 3 + w + hn + T = m + 2 + T := by lia
  rw [b1] at a1
  rw [b2, b3] at a2
  rw [← List.append_assoc, a1, a2]
 exact ⟨hp.nodup_iff.mpr (newNets_nd _ _), by rw [hp.length_eq, newNets_len]⟩
structure Fx (m : Nat) (g : ID) : Prop where
 v : ∀ a b, lk g a = some b → 2 ≤ a ∧ a < ((m + 2 : Nat) : Int) ∧ (b = 0 ∨ b = 1)
theorem Fx.flat {g : ID} (h : Fx m g) (a b : Int) (e : lk g a = some b) : lk g b = none := by
 cases e2 : lk g b with
 | none => rfl
 | some c => have := h.v a b e; have := h.v b c e2; lia
theorem Fx.none {g : ID} (h : Fx m g) {x : Int} (hx : x < 2 ∨ ((m + 2 : Nat) : Int) ≤ x) : lk g x = none := by
 cases e2 : lk g x with
 | none => rfl
 | some c => have := h.v x c e2; lia
theorem Fx.fin {g : ID} (h : Fx m g) (x : Int) : (fin g x = 0 ∨ fin g x = 1) ∨ fin g x = x := by
 unfold Mine.fin
 cases e : lk g x with
 | none => exact .inr rfl
 | some b => exact .inl (h.v x b e).2.2
theorem mem_reb {g : ID} {c : Cell} : c ∈ rebCells g cs ↔ ∃ c0 ∈ cs, lk g c0.out = none ∧ c = rebCell g c0 := by
 unfold rebCells
 rw [List.mem_map]
 constructor
 ·rintro ⟨a, b, rfl⟩
  rw [List.mem_filter, Option.isNone_iff_eq_none] at b
  exact ⟨a, b.1, b.2, rfl⟩
 ·rintro ⟨a, b, d, rfl⟩
  exact ⟨a, List.mem_filter.mpr ⟨b, Option.isNone_iff_eq_none.mpr d⟩, rfl⟩
theorem reb_outs {g : ID} : ((rebCells g cs).map Cell.out).Sublist (cs.map Cell.out) := by
 unfold rebCells
 rw [List.map_map]
 exact List.Sublist.map Cell.out List.filter_sublist
theorem Circ.fit (h : Circ w hn m T C S cs os) {g : ID} (hg : Fx m g) : Fit (inPorts w) (rebCells g cs) Int.toNat := by
 have hsub : ([0, 1] ++ netsOf (inPorts w) ++ (rebCells g cs).map Cell.out).Sublist ([0, 1] ++ netsOf (inPorts w) ++ cs.map Cell.out) := List.Sublist.append (List.Sublist.refl _) reb_outs
 refine ⟨h.nd.1.sublist hsub, ?_, ?_, ?_⟩
 ·have := hsub.length_le
  rw [h.nd.2] at this
  have := h.hm; have := h.w3; have := h.hn1; have := h.T5; lia
 ·intro c hc
  obtain ⟨c0, h0, _, rfl⟩ := mem_reb.mp hc
  show (c0.ins.map _).length ≤ 4
  rw [List.length_map]
  rcases h.mem.mp h0 with e | e
  ·have := (h.inC e).2.1.len; exact om5 this rfl
  ·have := (h.inS e).2.2.2.1; exact om12 this rfl
 ·rintro c hc hst x hx ⟨c', hc', hst', e⟩
  obtain ⟨c0, h0, _, rfl⟩ := mem_reb.mp hc
  obtain ⟨c1, h1, _, rfl⟩ := mem_reb.mp hc'
  have k0 := h.inC (h.comb h0 hst)
  have k1 := h.inC (h.comb h1 hst')
  have e' : c1.out = x := e
  obtain ⟨y, hy, rfl⟩ := List.mem_map.mp hx
  have hy2 := k0.2.2.2.2 y hy
  show (Mine.fin g y).toNat < c0.out.toNat
  rcases hg.fin y with e2 | e2
  ·lia
  ·rw [e2]; lia
theorem Circ.sound (h : Circ w hn m T C S cs os) {g : ID} (hg : Fx m g) : Sound (inPorts w) (rebCells g cs) := by
 refine ⟨?_, ?_, ?_, ?_⟩
 ·intro c hc hst
  obtain ⟨c0, h0, _, rfl⟩ := mem_reb.mp hc
  exact (h.inC (h.comb h0 hst)).2.1.map _
 ·intro c hc
  obtain ⟨c0, h0, _, rfl⟩ := mem_reb.mp hc
  have key : ∀ y, 0 ≤ y → 0 ≤ Mine.fin g y := fun y hy => by rcases hg.fin y with e | e <;> lia
  rcases h.mem.mp h0 with e | e
  ·have k := h.inC e
   refine ⟨by have := k.2.2.1; show 0 ≤ c0.out; lia, fun x hx => ?_⟩
   obtain ⟨y, hy, rfl⟩ := List.mem_map.mp hx
   exact key y (k.2.2.2.2 y hy).1
  ·have k := h.inS e
   refine ⟨by have := k.2.1; show 0 ≤ c0.out; lia, fun x hx => ?_⟩
   obtain ⟨y, hy, rfl⟩ := List.mem_map.mp hx
   exact key y (k.2.2.2.2 y hy).1
 ·have := (h.fit hg).nd
  rw [List.nodup_append] at this
  exact this.2.1
 ·intro c hc
  obtain ⟨c0, h0, _, rfl⟩ := mem_reb.mp hc
  show 2 ≤ c0.out
  rcases h.mem.mp h0 with e | e
  ·have := (h.inC e).2.2.1; lia
  ·have := (h.inS e).2.1; lia
theorem Circ.beta (h : Circ w hn m T C S cs os) (b0 : Int → Bool) : ∃ β : Int → Bool, (∀ x, x < ((m + 2 : Nat) : Int) → β x = b0 x) ∧ ∀ c ∈ C, β c.out = evK c.kind c.par (c.ins.map β) := by
 have key : ∀ t, t ≤ C.length → ∃ β : Int → Bool, (∀ x, x < ((m + 2 : Nat) : Int) → β x = b0 x) ∧ ∀ i c, i < t → C[i]? = some c → β c.out = evK c.kind c.par (c.ins.map β) := by
  intro t
  induction t with
  | zero => exact fun _ => ⟨b0, fun _ _ => rfl, fun i c hi => by exact False.elim (Nat.not_lt_zero _ hi)⟩
  | succ t ih =>
   intro ht
   obtain ⟨β, b1, b2⟩ := ih (by exact om20 ht)
   have htl : t < C.length := by lia
   have hc := List.getElem?_eq_getElem htl
   generalize C[t] = ct at hc
   have hct := h.cOk t ct hc
   have same : ∀ (l : List Int) (v : Bool), (∀ x ∈ l, x < ct.out) → l.map (fun x => if x = ct.out then v else β x) = l.map β := fun l v hl => by
    apply List.map_congr_left
    intro x hx
    rw [if_neg (Int.ne_of_lt (hl x hx))]
   refine ⟨fun x => if x = ct.out then evK ct.kind ct.par (ct.ins.map β) else β x, fun x hx => ?_, fun i c hi hci => ?_⟩
   ·dsimp only
    rw [if_neg (by lia), b1 x hx]
   ·by_cases e : i = t
    ·subst e
     rw [hc] at hci; cases hci
     dsimp only
     rw [if_pos rfl, same _ _ (fun x hx => by have := hct.2.2.2 x hx; lia)]
    ·have hci2 := h.cOk i c hci
     dsimp only
     rw [if_neg (by lia), same _ _ (fun x hx => by have := hci2.2.2.2 x hx; lia)]
     exact b2 i c (by exact om32 hi e) hci
 obtain ⟨β, b1, b2⟩ := key C.length (Nat.le_refl _)
 refine ⟨β, b1, fun c hc => ?_⟩
 obtain ⟨i, hi⟩ := List.mem_iff_getElem?.mp hc
 exact b2 i c (List.getElem?_eq_some_iff.mp hi).1 hi
structure Val (m rows : Nat) (C : List Cell) (gv : Int → Nat) (β : Nat → Int → Bool) (σ : Int → Nat) : Prop where
 z : ∀ l, β l 0 = false
 o : ∀ l, β l 1 = true
 ev : ∀ l, ∀ c ∈ C, β l c.out = evK c.kind c.par (c.ins.map (β l))
 lt : ∀ x, σ x < 2 ^ rows
 bit : ∀ x l, l < rows → (σ x).testBit l = β l x
 leaf : ∀ x, 2 ≤ x → x < ((m + 2 : Nat) : Int) → σ x = gv x
 leafB : ∀ x l, 2 ≤ x → x < ((m + 2 : Nat) : Int) → β l x = (gv x).testBit l
theorem word_ext {a b rows : Nat} (ha : a < 2 ^ rows) (hb : b < 2 ^ rows) (h : ∀ l, l < rows → a.testBit l = b.testBit l) : a = b := by
 apply Nat.eq_of_testBit_eq
 intro l
 rcases Nat.lt_or_ge l rows with hl | hl
 ·exact h l hl
 ·rw [Nat.testBit_lt_two_pow (Nat.lt_of_lt_of_le ha (Nat.pow_le_pow_right (by decide) hl)), Nat.testBit_lt_two_pow (Nat.lt_of_lt_of_le hb (Nat.pow_le_pow_right (by decide) hl))]
theorem Circ.val (h : Circ w hn m T C S cs os) (rows : Nat) (gv : Int → Nat) (hgv : ∀ x, 2 ≤ x → x < ((m + 2 : Nat) : Int) → gv x < 2 ^ rows) : ∃ β σ, Val m rows C gv β σ := by
 have hb := fun (l : Nat) => h.beta (fun x => if x = 0 then false else if x = 1 then true else (gv x).testBit l)
 obtain ⟨β, hs⟩ : ∃ β : Nat → Int → Bool, ∀ l, (∀ x, x < ((m + 2 : Nat) : Int) → β l x = if x = 0 then false else if x = 1 then true else (gv x).testBit l) ∧ ∀ c ∈ C, β l c.out = evK c.kind c.par (c.ins.map (β l)) :=
  ⟨fun l => (hb l).choose, fun l => (hb l).choose_spec⟩
 refine ⟨β, fun x => sumB (fun l => β l x) rows, ?_⟩
 have hm := h.hm
 have h1 := h.w1
 have bit : ∀ x l, l < rows → (sumB (fun l => β l x) rows).testBit l = β l x := fun x l hl => by rw [(sumB_spec _ _).2, decide_eq_true hl, Bool.true_and]
 have lt : ∀ x, sumB (fun l => β l x) rows < 2 ^ rows := fun x => (sumB_spec _ _).1
 have lb : ∀ x l, 2 ≤ x → x < ((m + 2 : Nat) : Int) → β l x = (gv x).testBit l := fun x l h2 h3 => by
  rw [(hs l).1 x h3, if_neg (by lia), if_neg (by lia)]
 refine ⟨fun l => by rw [(hs l).1 0 (by lia), if_pos rfl], fun l => by rw [(hs l).1 1 (by lia), if_neg (by decide), if_pos rfl], fun l => (hs l).2, lt, bit, fun x h2 h3 => ?_, lb⟩
 refine word_ext (lt x) (hgv x h2 h3) fun l hl => ?_
 rw [bit x l hl, lb x l h2 h3]
theorem Val.s0 {rows : Nat} {gv : Int → Nat} {β : Nat → Int → Bool} {σ : Int → Nat} (v : Val m rows C gv β σ) : σ 0 = 0 :=
 word_ext (v.lt 0) (Nat.two_pow_pos _) fun l hl => by rw [v.bit 0 l hl, v.z]; simp
theorem Val.s1 {rows : Nat} {gv : Int → Nat} {β : Nat → Int → Bool} {σ : Int → Nat} (v : Val m rows C gv β σ) : σ 1 = fullW rows :=
 word_ext (v.lt 1) (full_lt rows) fun l hl => by rw [v.bit 1 l hl, v.o, full_bit, decide_eq_true hl]
structure Giv (m : Nat) (gv : Int → Nat) (G : ID) : Prop where
 v : ∀ x y, lk G x = some y → 2 ≤ x ∧ x < ((m + 2 : Nat) : Int) ∧ y = (gv x : Int)
 all : ∀ x, 2 ≤ x → x < ((m + 2 : Nat) : Int) → (lk G x).isSome = true
section
variable {rows : Nat} {gv : Int → Nat} {β : Nat → Int → Bool} {σ : Int → Nat} {G g : ID}
theorem Circ.sigOld (h : Circ w hn m T C S cs os) (v : Val m rows C gv β σ) (hG : Giv m gv G) : Sig cs G σ rows Int.toNat where
 lt := v.lt
 z := v.s0
 o := v.s1
 gv := fun x y e => by obtain ⟨a, b, c⟩ := hG.v x y e; rw [c, v.leaf x a b]
 good := fun c hc hst => (h.inC (h.comb hc hst)).2.1
 ev := fun c hc hst l hl => by
  rw [v.bit _ l hl, v.ev l c (h.comb hc hst)]
  congr 1
  apply List.map_congr_left
  intro x _
  exact (v.bit x l hl).symm
 rk := fun c hc hst x hx => by
  have k := h.inC (h.comb hc hst)
  have k2 := k.2.2.2.2 x hx
  by_cases h0 : x = 0
  ·exact .inl h0
  by_cases h1 : x = 1
  ·exact .inr (.inl h1)
  by_cases h2 : x < ((m + 2 : Nat) : Int)
  ·exact .inr (.inr (.inl (hG.all x (by lia) h2)))
  ·obtain ⟨c', hc', e⟩ := h.outC (x := x) (by exact oq11 h2) (by lia)
   refine .inr (.inr (.inr ⟨c', h.mem.mpr (.inl hc'), (h.inC hc').1, e, ?_⟩))
   lia
theorem Circ.sat (h : Circ w hn m T C S cs os) (v : Val m rows C gv β σ) {l : Nat} (hgl : ∀ a b, lk g a = some b → β l b = β l a) : Sat (rebCells g cs) (β l) := by
 refine ⟨v.z l, v.o l, fun c hc hst => ?_⟩
 obtain ⟨c0, h0, _, rfl⟩ := mem_reb.mp hc
 show β l c0.out = evK c0.kind c0.par ((c0.ins.map (Mine.fin g)).map (β l))
 rw [v.ev l c0 (h.comb h0 hst), List.map_map]
 congr 1
 apply List.map_congr_left
 intro x _
 exact (fin_val hgl x).symm
end
end
end Mine
end
section
open PySem
set_option maxRecDepth 100000
namespace Mine
section
variable {w hn m T : Nat} {C S cs cs2 : List Cell} {os : Ports} {g rep inv : ID} {R : List Nat}
theorem filter_rel {l1 l2 : List Cell} {p1 p2 : Cell → Bool} (hl : l1.length = l2.length) (h : ∀ (i : Nat) (c : Cell), l1[i]? = some c → ∃ c2, l2[i]? = some c2 ∧ p2 c2 = p1 c ∧ (p1 c = true → c2 = c)) : l2.filter p2 = l1.filter p1 := by
 induction l1 generalizing l2 with
 | nil => cases l2 with
  | nil => rfl
  | cons a r => simp at hl
 | cons a r ih =>
  cases l2 with
  | nil => simp at hl
  | cons b s =>
   obtain ⟨c2, e1, e2, e3⟩ := h 0 a rfl
   cases e1
   have := ih (l2 := s) (by simpa using hl) (fun i c hc => h (i + 1) c hc)
   rw [List.filter_cons, List.filter_cons, e2, this]
   split
   ·next hp => rw [e3 hp]
   ·rfl
theorem Folded.idx {cs1 : List Cell} (f : Folded cs1 cs2 rep R inv) {i : Nat} {c2 : Cell} (h : cs2[i]? = some c2) : ∃ c1, cs1[i]? = some c1 ∧ c2.out = c1.out ∧ c2.st = c1.st ∧ (c1.st = true → c2 = c1) := by
 have hi := (List.getElem?_eq_some_iff.mp h).1
 rw [f.fi.len] at hi
 have hc := List.getElem?_eq_getElem hi
 generalize cs1[i] = c1 at hc
 obtain ⟨a, c2', e1, e2, e3⟩ := f.fi.st i c1 hc
 rw [h] at e1; cases e1
 refine ⟨c1, hc, e2, e3, fun hst => ?_⟩
 have hni : i ∉ R.take R.length := fun hm => by
  have := (f.ord.mem i).mp (List.mem_of_mem_take hm)
  unfold isC at this
  rw [hc] at this; simp [hst] at this
 have := a hni
 rw [h] at this; exact Option.some.inj this
theorem Folded.place {cs1 : List Cell} (f : Folded cs1 cs2 rep R inv) {i : Nat} {c1 : Cell} (h : cs1[i]? = some c1) (hst : c1.st = false) : ∃ q, q < R.length ∧ R[q]? = some i := by
 have : i ∈ R := (f.ord.mem i).mpr (by unfold isC; rw [h]; simp [hst])
 obtain ⟨q, hq⟩ := List.mem_iff_getElem?.mp this
 exact ⟨q, (List.getElem?_eq_some_iff.mp hq).1, hq⟩
theorem Folded.key {cs1 : List Cell} (f : Folded cs1 cs2 rep R inv) {a b : Int} (h : lk rep a = some b) : ∃ c ∈ cs1, c.st = false ∧ c.out = a := by
 obtain ⟨i, c, e1, e2, e3⟩ := f.fi.key a b h
 have hic := (f.ord.mem i).mp (List.mem_of_mem_take e1)
 unfold isC at hic
 rw [e2] at hic
 exact ⟨c, List.mem_of_getElem? e2, by simpa using hic, e3⟩
noncomputable def stN' (rep : ID) (c : Cell) : Bool := (lk rep c.out).isNone && c.st
theorem Circ.kept (h : Circ w hn m T C S cs os) (hg : Fx m g) (f : Folded (rebCells g cs) cs2 rep R inv) :
  (rebCells rep cs2).filter Cell.st = (cs.filter fun c => c.st && (lk g c.out).isNone).map fun c => rebCell rep (rebCell g c) := by
 have hs := h.sound hg
 have e1 : (rebCells rep cs2).filter Cell.st = (cs2.filter (stN' rep)).map (rebCell rep) := by
  unfold rebCells
  rw [List.filter_map, List.filter_filter]
  congr 1
  apply List.filter_congr
  intro c _
  unfold stN'
  rw [Bool.and_comm]; rfl
 have e2 : cs2.filter (stN' rep) = (rebCells g cs).filter Cell.st := by
  refine filter_rel f.fi.len.symm fun i c1 hc1 => ?_
  have hi := (List.getElem?_eq_some_iff.mp hc1).1
  rw [← f.fi.len] at hi
  have hc2 := List.getElem?_eq_getElem hi
  refine ⟨_, hc2, ?_, ?_⟩
  ·obtain ⟨c1', a1, a2, a3, a4⟩ := f.idx hc2
   rw [hc1] at a1; cases a1
   unfold stN'
   rw [a2, a3]
   cases hst : c1.st with
   | false => simp
   | true =>
    have : lk rep c1.out = none := by
     cases e : lk rep c1.out with
     | none => rfl
     | some b =>
      obtain ⟨c', hc', hst', ho⟩ := f.key e
      obtain ⟨i', hi'⟩ := List.mem_iff_getElem?.mp hc'
      have := out_inj hs.nd hi' hc1 ho
      subst this
      rw [hc1] at hi'; cases hi'; rw [hst] at hst'; cases hst'
    rw [this]; rfl
  ·intro hst
   obtain ⟨c1', a1, a2, a3, a4⟩ := f.idx hc2
   rw [hc1] at a1; cases a1
   exact a4 hst
 rw [e1, e2]
 unfold rebCells
 rw [List.filter_map, List.filter_filter, List.map_map]
 rfl
noncomputable def Nets (m : Nat) (cs1 : List Cell) (x : Int) : Prop := x = 0 ∨ x = 1 ∨ (2 ≤ x ∧ x < ((m + 2 : Nat) : Int)) ∨ ∃ c ∈ cs1, c.st = false ∧ c.out = x
theorem Circ.netOf (h : Circ w hn m T C S cs os) (hg : Fx m g) {n : Int} (h0 : 0 ≤ n) (h1 : n < ((m + 2 + T : Nat) : Int)) : Nets m (rebCells g cs) (Mine.fin g n) := by
 rcases hg.fin n with e | e
 ·rcases e with e | e
  ·rw [e]; exact .inl rfl
  ·rw [e]; exact .inr (.inl rfl)
 ·rw [e]
  by_cases a : n = 0
  ·exact .inl a
  by_cases b : n = 1
  ·exact .inr (.inl b)
  by_cases d : n < ((m + 2 : Nat) : Int)
  ·exact .inr (.inr (.inl ⟨by exact oq12 h0 a b, d⟩))
  ·obtain ⟨c, hc, ho⟩ := h.outC (x := n) (by exact oq11 d) h1
   refine .inr (.inr (.inr ⟨rebCell g c, mem_reb.mpr ⟨c, h.mem.mpr (.inl hc), hg.none (.inr (by lia)), rfl⟩, (h.inC hc).1, ho⟩))
theorem Circ.cls (h : Circ w hn m T C S cs os) (hg : Fx m g) : Cls (rebCells g cs) (Nets m (rebCells g cs)) := by
 refine ⟨.inl rfl, .inr (.inl rfl), fun c hc hst => ⟨.inr (.inr (.inr ⟨c, hc, hst, rfl⟩)), fun x hx => ?_⟩⟩
 obtain ⟨c0, h0, _, rfl⟩ := mem_reb.mp hc
 have k := h.inC (h.comb h0 hst)
 obtain ⟨y, hy, rfl⟩ := List.mem_map.mp hx
 have k2 := k.2.2.2.2 y hy
 exact h.netOf hg k2.1 (by lia)
theorem fin_flat {x : Int} (hf : ∀ a b, lk rep a = some b → lk rep b = none) : lk rep (Mine.fin rep x) = none := by
 unfold Mine.fin
 cases e : lk rep x with
 | none => exact e
 | some b => exact hf x b e
theorem Circ.final (h : Circ w hn m T C S cs os) (hg : Fx m g) (f : Folded (rebCells g cs) cs2 rep R inv) {x : Int} (hx : Nets m (rebCells g cs) x) : Nets m (rebCells g cs) (Mine.fin rep x) ∧ lk rep (Mine.fin rep x) = none := by
 refine ⟨?_, fin_flat fun a b e => (f.fi.rv a b e).1⟩
 unfold Mine.fin
 cases e : lk rep x with
 | none => exact hx
 | some b => exact (f.fi.cls _ (h.cls hg)).1 x b e
noncomputable def rankR (cs1 : List Cell) (R : List Nat) (x : Int) : Nat := R.findIdx fun i => decide ((cs1[i]?.map Cell.out) = some x)
theorem rankR_at {cs1 : List Cell} (hnd : (cs1.map Cell.out).Nodup) (hR : R.Nodup) {q i : Nat} {c : Cell} (hq : R[q]? = some i) (hc : cs1[i]? = some c) : rankR cs1 R c.out = q := by
 have hql := (List.getElem?_eq_some_iff.mp hq).1
 have hqe := (List.getElem?_eq_some_iff.mp hq).2
 unfold rankR
 rw [List.findIdx_eq hql]
 refine ⟨by rw [hqe, hc]; simp, fun j hj => ?_⟩
 rw [decide_eq_false_iff_not]
 intro e
 have hjl : j < R.length := by exact Nat.lt_trans hj hql
 cases e2 : cs1[R[j]]? with
 | none => rw [e2] at e; cases e
 | some c' =>
  rw [e2] at e
  have := out_inj hnd e2 hc (Option.some.inj e)
  have := R_inj hR (List.getElem?_eq_getElem hjl) (by rw [this]; exact hq)
  exact oq13 hj this
section
variable {rows : Nat} {gv : Int → Nat} {β : Nat → Int → Bool} {σ : Int → Nat} {G : ID}
theorem Circ.sigNew (h : Circ w hn m T C S cs os) (hg : Fx m g) (f : Folded (rebCells g cs) cs2 rep R inv) (v : Val m rows C gv β σ) (hG : Giv m gv G) (hgl : ∀ l, l < rows → ∀ a b, lk g a = some b → β l b = β l a) :
  Sig (rebCells rep cs2) G σ rows (rankR (rebCells g cs) R) where
 lt := v.lt
 z := v.s0
 o := v.s1
 gv := fun x y e => by obtain ⟨a, b, c⟩ := hG.v x y e; rw [c, v.leaf x a b]
 good := fun c hc hst => by
  obtain ⟨c2, h2, hl, rfl⟩ := mem_reb.mp hc
  obtain ⟨i, hi⟩ := List.mem_iff_getElem?.mp h2
  obtain ⟨c1, a1, a2, a3, a4⟩ := f.idx hi
  obtain ⟨q, hq, hqi⟩ := f.place a1 (by rw [← a3]; exact hst)
  exact (f.fi.new q i c2 hq hqi hi hl).1.map _
 ev := fun c hc hst l hl => by
  obtain ⟨c2, h2, hln, rfl⟩ := mem_reb.mp hc
  obtain ⟨i, hi⟩ := List.mem_iff_getElem?.mp h2
  obtain ⟨c1, a1, a2, a3, a4⟩ := f.idx hi
  obtain ⟨q, hq, hqi⟩ := f.place a1 (by rw [← a3]; exact hst)
  obtain ⟨v1, _, v3⟩ := f.fi.val (β l) (h.sat v (hgl l hl))
  show (σ c2.out).testBit l = evK c2.kind c2.par ((c2.ins.map (Mine.fin rep)).map fun x => (σ x).testBit l)
  rw [v.bit _ l hl, v3 q i c2 hq hqi hi hln, List.map_map]
  congr 1
  apply List.map_congr_left
  intro x _
  show β l x = (σ (Mine.fin rep x)).testBit l
  rw [v.bit _ l hl, fin_val v1]
 rk := fun c hc hst x hx => by
  have hs := h.sound hg
  obtain ⟨c2, h2, hln, rfl⟩ := mem_reb.mp hc
  obtain ⟨i, hi⟩ := List.mem_iff_getElem?.mp h2
  obtain ⟨c1, a1, a2, a3, a4⟩ := f.idx hi
  obtain ⟨q, hq, hqi⟩ := f.place a1 (by rw [← a3]; exact hst)
  have hnew := (f.fi.new q i c2 hq hqi hi hln).2
  have hcls := (f.fi.cls _ (h.cls hg)).2.2 q i c2 hq hqi hi hln
  obtain ⟨y, hy, rfl⟩ := List.mem_map.mp hx
  obtain ⟨n1, n2, n3⟩ := hnew y hy
  have ey : Mine.fin rep y = y := by unfold Mine.fin; rw [n3]; rfl
  rw [ey]
  rcases hcls y hy with e | e | e | ⟨c', hc', hst', ho⟩
  ·exact .inl e
  ·exact .inr (.inl e)
  ·exact .inr (.inr (.inl (hG.all y e.1 e.2)))
  ·obtain ⟨i', hi'⟩ := List.mem_iff_getElem?.mp hc'
   obtain ⟨q', hq', hqi'⟩ := f.place hi' hst'
   obtain ⟨_, c2', b1, b2, b3⟩ := f.fi.st i' c' hi'
   refine .inr (.inr (.inr ⟨rebCell rep c2', mem_reb.mpr ⟨c2', List.mem_of_getElem? b1, by rw [b2, ho]; exact n3, rfl⟩, by show c2'.st = false; rw [b3]; exact hst', by show c2'.out = y; rw [b2]; exact ho, ?_⟩))
   show rankR _ R y < rankR _ R c2.out
   rw [a2, rankR_at hs.nd f.ord.nd hqi a1, ← ho, rankR_at hs.nd f.ord.nd hqi' hi']
   rcases Nat.lt_or_ge q' q with hh | hh
   ·exact hh
   ·exact (n2 q' i' c' hh hqi' hi' ho).elim
theorem Circ.same (h : Circ w hn m T C S cs os) (f : Folded (rebCells g cs) cs2 rep R inv) (v : Val m rows C gv β σ) (hgl : ∀ l, l < rows → ∀ a b, lk g a = some b → β l b = β l a) (n : Int) :
  σ (Mine.fin rep (Mine.fin g n)) = σ n := by
 refine word_ext (v.lt _) (v.lt _) fun l hl => ?_
 rw [v.bit _ l hl, v.bit _ l hl]
 obtain ⟨v1, _, _⟩ := f.fi.val (β l) (h.sat v (hgl l hl))
 rw [fin_val v1, fin_val (hgl l hl)]
theorem Circ.knownOld (h : Circ w hn m T C S cs os) (hG : Giv m gv G) {d : ID} (hW : Wd G σ d) (hA : ∀ c ∈ cs, c.st = false → (lk d c.out).isSome = true) {n : Int} (h0 : 0 ≤ n) (h1 : n < ((m + 2 + T : Nat) : Int)) : lk d n = some (σ n : Int) := by
 have : (lk d n).isSome = true := by
  by_cases a : n = 0
  ·exact hW.2 n (.inl a)
  by_cases b : n = 1
  ·exact hW.2 n (.inr (.inl b))
  by_cases e : n < ((m + 2 : Nat) : Int)
  ·exact hW.2 n (.inr (.inr (hG.all n (by exact oq12 h0 a b) e)))
  ·obtain ⟨c, hc, ho⟩ := h.outC (x := n) (by exact oq11 e) h1
   rw [← ho]
   exact hA c (h.mem.mpr (.inl hc)) (h.inC hc).1
 obtain ⟨y, hy⟩ := Option.isSome_iff_exists.mp this
 rw [hy, hW.1 n y hy]
theorem Circ.knownNew (h : Circ w hn m T C S cs os) (hg : Fx m g) (f : Folded (rebCells g cs) cs2 rep R inv) (hG : Giv m gv G) {d : ID} (hW : Wd G σ d) (hA : ∀ c ∈ rebCells rep cs2, c.st = false → (lk d c.out).isSome = true) {n : Int} (h0 : 0 ≤ n) (h1 : n < ((m + 2 + T : Nat) : Int)) :
  lk d (Mine.fin rep (Mine.fin g n)) = some (σ (Mine.fin rep (Mine.fin g n)) : Int) := by
 obtain ⟨a, b⟩ := h.final hg f (h.netOf hg h0 h1)
 generalize Mine.fin rep (Mine.fin g n) = z at a b
 have : (lk d z).isSome = true := by
  rcases a with e | e | e | ⟨c', hc', hst', ho⟩
  ·exact hW.2 z (.inl e)
  ·exact hW.2 z (.inr (.inl e))
  ·exact hW.2 z (.inr (.inr (hG.all z e.1 e.2)))
  ·obtain ⟨i', hi'⟩ := List.mem_iff_getElem?.mp hc'
   obtain ⟨_, c2', b1, b2, b3⟩ := f.fi.st i' c' hi'
   have := hA (rebCell rep c2') (mem_reb.mpr ⟨c2', List.mem_of_getElem? b1, by rw [b2, ho]; exact b, rfl⟩) (by show c2'.st = false; rw [b3]; exact hst')
   rw [← ho, ← b2]; exact this
 obtain ⟨y, hy⟩ := Option.isSome_iff_exists.mp this
 rw [hy, hW.1 z y hy]
end
theorem Circ.con (h : Circ w hn m T C S cs os) (hg : Fx m g) (hall : ∀ x, 2 ≤ x → x < ((m + 2 : Nat) : Int) → (lk g x).isSome = true) (f : Folded (rebCells g cs) cs2 rep R inv) :
  rebCells rep cs2 = [] ∧ ∀ n, 0 ≤ n → n < ((m + 2 + T : Nat) : Int) → Mine.fin rep (Mine.fin g n) = 0 ∨ Mine.fin rep (Mine.fin g n) = 1 := by
 have hcon : Con (rebCells g cs) := by
  intro c hc hst x hx
  obtain ⟨c0, h0, _, rfl⟩ := mem_reb.mp hc
  have k := h.inC (h.comb h0 hst)
  obtain ⟨y, hy, rfl⟩ := List.mem_map.mp hx
  have k2 := k.2.2.2.2 y hy
  rcases h.netOf hg k2.1 (by lia) with e | e | e | e
  ·exact .inl e
  ·exact .inr (.inl e)
  ·have := hg.fin y
   rcases this with e2 | e2
   ·rcases e2 with e2 | e2
    ·exact .inl e2
    ·exact .inr (.inl e2)
   ·rw [e2] at e
    obtain ⟨b, hb⟩ := Option.isSome_iff_exists.mp (hall y e.1 e.2)
    have := (hg.v y b hb).2.2
    have e3 : Mine.fin g y = b := by unfold Mine.fin; rw [hb]; rfl
    rw [e3]; rcases this with e | e
    ·exact .inl e
    ·exact .inr (.inl e)
  ·exact .inr (.inr e)
 obtain ⟨k1, k2⟩ := f.fi.con hcon
 have hcomb : ∀ c1 ∈ rebCells g cs, c1.st = false := by
  intro c1 hc1
  obtain ⟨c0, h0, hl, rfl⟩ := mem_reb.mp hc1
  rcases h.mem.mp h0 with e | e
  ·exact (h.inC e).1
  ·have := (h.inS e)
   have hh := hall c0.out (by lia) this.2.2.1
   rw [hl] at hh; cases hh
 have hrep : ∀ c1 ∈ rebCells g cs, ∃ b, (b = 0 ∨ b = 1) ∧ lk rep c1.out = some b := by
  intro c1 hc1
  obtain ⟨i, hi⟩ := List.mem_iff_getElem?.mp hc1
  obtain ⟨q, hq, hqi⟩ := f.place hi (hcomb c1 hc1)
  exact k2 q i c1 hq hqi hi
 constructor
 ·rw [List.eq_nil_iff_forall_not_mem]
  intro c hc
  obtain ⟨c2, h2, hl, rfl⟩ := mem_reb.mp hc
  obtain ⟨i, hi⟩ := List.mem_iff_getElem?.mp h2
  obtain ⟨c1, a1, a2, _, _⟩ := f.idx hi
  obtain ⟨b, _, hb⟩ := hrep c1 (List.mem_of_getElem? a1)
  rw [a2, hb] at hl; cases hl
 ·intro n h0 h1
  obtain ⟨a, b⟩ := h.final hg f (h.netOf hg h0 h1)
  rcases a with e | e | e | ⟨c', hc', hst', ho⟩
  ·exact .inl e
  ·exact .inr e
  ·have hn := h.netOf hg h0 h1
   unfold Mine.fin at e hn ⊢
   rcases hg.fin n with e2 | e2
   ·unfold Mine.fin at e2
    have : lk rep ((lk g n).getD n) = none := by
     cases e3 : lk rep ((lk g n).getD n) with
     | none => rfl
     | some b =>
      obtain ⟨c, hc, hst, ho⟩ := f.key e3
      have := (h.sound hg).two c hc
      exact False.elim (oq14 this ho e2)
    rw [this]; exact e2
   ·unfold Mine.fin at e2
    rw [e2] at e ⊢
    cases e3 : lk rep n with
    | none =>
     rw [e3] at e
     obtain ⟨b, hb⟩ := Option.isSome_iff_exists.mp (hall n e.1 e.2)
     rw [hb] at e2
     have := (hg.v n b hb).2.2
     simp at e2
     simp only [Option.getD_none] at e ⊢
     lia
    | some b =>
     obtain ⟨c, hc, hst, ho⟩ := f.key e3
     obtain ⟨b', hb', hl⟩ := hrep c hc
     rw [ho, e3] at hl; cases hl
     exact hb'
  ·obtain ⟨b', hb', hl⟩ := hrep c' hc'
   rw [ho, b] at hl; cases hl
end
end Mine
end
section
open PySem
set_option maxRecDepth 100000
namespace Mine
noncomputable def K4 (H H' : List AO) : Prop := ∀ (k : Nat) (o : AO), k ≠ 4 → H[k]? = some o → H'[k]? = some o
theorem Keep.k4 {H H' : List AO} (h : Keep H H') : K4 H H' := fun k o _ e => h k o e
theorem K4.draw {H H' : List AO} (a : K4 H H') (o : AO) : K4 H (H'.set 4 o) := fun k o' n e => by
 rw [List.getElem?_set_ne (fun z => n z.symm)]; exact a k o' n e
theorem K4.set {H H' : List AO} (a : K4 H H') {k : Nat} (h : H.length ≤ k) (o : AO) : K4 H (H'.set k o) := fun j o' n e => by
 rw [List.getElem?_set_ne (by intro q; subst q; rw [List.getElem?_eq_none h] at e; cases e)]
 exact a j o' n e
theorem PortsR.k4 {P : Nat → Prop} {H H' : List AO} {vs : List V} {ps : Ports} (h : PortsR P H vs ps) (hP : ∀ r, P r → r ≠ 4) (k : K4 H H') : PortsR P H' vs ps := by
 induction h with
 | nil => exact .nil
 | cons a b _ ih => exact .cons a (k _ _ (hP _ a) b) ih
theorem BN.k4 {P : Nat → Prop} {j : Nat} {H H' : List AO} {cnt : Int} {is os : Ports} {cs : List Cell} (h : BN P j H cnt is os cs) (hj : 5 ≤ j) (hP : ∀ r, P r → r ≠ 4) (k : K4 H H') : BN P j H' cnt is os cs := by
 obtain ⟨vi, a, b⟩ := h.inp
 obtain ⟨vo, c, d⟩ := h.out
 exact ⟨k _ _ (by exact om16 hj rfl) h.ns, k _ _ (by exact om17 hj rfl) h.inst, ⟨vi, k _ _ (by exact om17 hj rfl) a, b.k4 hP k⟩, ⟨vo, k _ _ (by exact om17 hj rfl) c, d.k4 hP k⟩, k _ _ (by exact om17 hj rfl) h.cel, h.low⟩
theorem PP4 (r : Nat) (h : PP r) : r ≠ 4 := by unfold PP at h; lia
section
variable {H : List AO} {cnt : Int} {is os : Ports} {cs : List Cell} {hd fr kn : List Int} {pl : List Cell} {ρ : Rho} {B : Fl → Rho → List AO → Prop} {Q : V → List AO → Prop}
theorem LS.k4 {H' : List AO} (h : LS H cnt is os cs hd fr kn pl) (k : K4 H H') (d : DrawSt 4 3 H') : LS H' cnt is os cs hd fr kn pl := by
 have hp := k _ _ (by decide) h.placed
 have := (List.getElem?_eq_some_iff.mp hp).1
 exact ⟨by lia, k _ _ (by decide) h.tab, d, h.bn.k4 (by decide) PP4 k, k _ _ (by decide) h.held, k _ _ (by decide) h.free, k _ _ (by decide) h.known, hp⟩
theorem d4 {i : Nat} {k : Int} {a : EW} (h : DrawSt 4 3 H) (hρ : ρ[i]? = some (some (.clo 4 3))) (h0 : 0 < k) (h1 : k < 1073741824) (ha : ∀ K : V → List AO → Prop, K (.int k) H → a ρ H K)
  (q : ∀ v H', 0 ≤ v → v < k → (∃ o, H' = H.set 4 o) → DrawSt 4 3 H' → Q (.int v) H') : callVW i bw_law_draw (consW a nilW) ρ H Q :=
 callV_of hρ (by decide) (ha _ (c_draw h h0 h1 q))
noncomputable def Bt (m i : Nat) (b : ID) : Prop := (∀ a v, lk b a = some v → 2 ≤ a ∧ a < ((2 + i : Nat) : Int) ∧ (v = 0 ∨ v = 1)) ∧ (∀ a, 2 ≤ a → a < ((2 + i : Nat) : Int) → (lk b a).isSome = true) ∧ b.length ≤ i ∧ i ≤ m
theorem v_law15 {m : Nat} (hm : m ≤ 5) (hr : R9 ρ) (hs : LS H cnt is os cs hd (newNets 2 m) kn pl)
  (q : ∀ ρ' H' nb b, Bt m m b → R9 ρ' → ρ'[19]? = some (some (.ref nb)) → 20 ≤ nb → H'[nb]? = some (DI b) → LS H' cnt is os cs hd (newNets 2 m) kn pl → B .next ρ' H') : seqBW law_14 law_15 ρ H B := by
 unfold law_14 law_15
 simp only [zk4_, zk12, dict0W_p, zk13, na, ↓vf12]
 have hr2 := hr.set (k := 19) (by decide) (some (.ref H.length))
 have g19 : (ρ.set 19 (some (.ref H.length)))[19]? = some (some (.ref H.length)) := rs_eq (by rw [hr.len]; decide)
 generalize ρ.set 19 (some (.ref H.length)) = ρ2 at hr2 g19
 simp only [zk17, zk83, nm hr2.s7, zk84, zk18]
 have hfr := (hs.app [AO.dict []]).free
 refine ⟨_, hfr, ?_⟩
 have h20 := hs.len
 refine loop_nth (fun i ρ H' => An5 (R9 ρ) (ρ[19]? = some (some (.ref H.length))) (K4 H H') (DrawSt 4 3 H') (∃ b, H'[H.length]? = some (DI b) ∧ Bt m i b)) ?_ ?_ ?_
 ·exact ⟨hr2, g19, (Keep.app _ _).k4, (hs.app _).dr, [], app_get, fun a v e => (by cases e), fun a h1 h2 => by exact False.elim (oq35 h1 h2), Nat.le_refl _, Nat.zero_le _⟩
 ·rintro i v hv ρ H' B' ⟨hr, g19, hK, hD, b, hb, hB1, hB2, hB3, hB4⟩ hB
  have hok : H'[16]? = some (.list ((newNets 2 m).map V.int)) := (hs.k4 hK hD).free
  refine ⟨hok, ?_⟩
  rw [Src.items, List.getElem?_map] at hv
  obtain ⟨net, hnet, rfl⟩ := Option.map_eq_some_iff.mp hv
  have hi := (List.getElem?_eq_some_iff.mp hnet).1
  rw [newNets_len] at hi
  rw [newNets_get hi] at hnet
  have hn := Option.some.inj hnet
  have hr3 := hr.set (k := 17) (by decide) (some (.int net))
  have j17 : (ρ.set 17 (some (.int net)))[17]? = some (some (.int net)) := rs_eq (by rw [hr.len]; decide)
  have j19 : (ρ.set 17 (some (.int net)))[19]? = some (some (.ref H.length)) := rs_ne (by decide) g19
  simp only [zk19, na, zk20]
  generalize ρ.set 17 (some (.int net)) = ρ3 at hr3 j17 j19 ⊢
  simp only [zk4_, zk12]
  refine d4 hD hr3.s1 (by decide) (by decide) (fun K k => k) fun v H2 h0 h1 ⟨o, ho⟩ hD2 => ?_
  subst ho
  have hb2 : (H'.set 4 o)[H.length]? = some (DI b) := by rw [List.getElem?_set_ne (by exact oq36 h20)]; exact hb
  simp only [zk13, zk66, nm j19, zk67, nm j17, zk68]
  refine set_DI hb2 (by exact om31 hB3 hi hm rfl) ?_
  have hlen := (List.getElem?_eq_some_iff.mp hb2).1
  refine (hB _ _ ⟨hr3, j19, (hK.draw o).set (Nat.le_refl _) _, hD2.set (by exact om16 h20 rfl) (by exact om16 h20 rfl) _, lput b net v, List.getElem?_set_self hlen, ?_, ?_, ?_, ?_⟩).1
  ·intro a u e
   rw [lk_put] at e
   split at e
   ·cases e; lia
   ·have := hB1 a u e; lia
  ·intro a h2 h3
   rw [lk_put]
   split
   ·rfl
   ·exact hB2 a h2 (by lia)
  ·have := lput_len (d := b) (k := net) (v := v); exact oq15 this hB3
  ·exact hi
 ·rintro ρ H' ⟨hr, g19, hK, hD, b, hb, hBt⟩
  rw [Src.items, List.length_map, newNets_len] at hBt
  have hl := hs.k4 hK hD
  exact ⟨hl.free, q ρ H' _ b hBt hr g19 h20 hb hl⟩
noncomputable def portE : EW := tupW (consW (nameW 1) (consW (callW (consW (nameW 2) (nilW)) listF) (nilW)))
noncomputable def portA : V → Rho → List AO → (Rho → List AO → Prop) → Prop := tupA 2 (consAs (nameA 1) (consAs (nameA 2) (nilAs)))
theorem c_ports {P : Nat → Prop} {k : Nat} {vs : List V} {ps : Ports} {ρc : Rho} {Q : List V → List AO → Prop} (hk : H[k]? = some (.list vs)) (hR : PortsR P H vs ps) (hl : ps.length ≤ 900) (hn : ∀ p ∈ ps, p.2.length ≤ 900) (hρ : 4 ≤ ρc.length)
  (q : ∀ acc H', Keep H H' → PortsR (fun r => H.length ≤ r) H' acc ps → Q acc H') : compLoopW (Src.ok (.list k vs)) portA (trueTW true) portE (Src.items (.list k vs)) ρc H [] Q := by
 have hvl := hR.len
 refine comp_inv (fun done acc ρc H' => Keep H H' ∧ PortsR (fun r => H.length ≤ r) H' acc (ps.take done.length) ∧ 4 ≤ ρc.length) _ [] [] ?_ ?_ ?_
 ·exact ⟨.refl _, .nil, hρ⟩
 ·rintro d v r acc ρ H' K e ⟨hK, hA, hρ⟩ hq
  rw [List.nil_append] at e
  have hv : vs[d.length]? = some v := by
   have e' : vs = d ++ v :: r := e
   rw [e']; simp
  obtain ⟨x, rr, ns, rfl, _, hr, hp⟩ := hR.get hv
  have hi := (List.getElem?_eq_some_iff.mp hp).1
  have hnl := hn _ (List.mem_of_getElem? hp)
  simp only at hnl
  have hal := hA.len
  rw [List.length_take] at hal
  refine ⟨hK _ _ hk, by exact oq28 hal hl, ?_⟩
  unfold portA portE
  simp only [tupA_p, zk69, na, zk70, nilAs_p]
  refine ⟨rfl, ?_⟩
  have g1 : ((ρ.set 1 (some (.str x))).set 2 (some (.ref rr)))[1]? = some (some (.str x)) := rs_ne (by decide) (rs_eq (by exact om44 hρ rfl))
  have g2 : ((ρ.set 1 (some (.str x))).set 2 (some (.ref rr)))[2]? = some (some (.ref rr)) := rs_eq (by rw [List.length_set]; exact om44 hρ rfl)
  simp only [zk48, zk52, nm g1, zk53, zk55, nm g2, ↓vf5, zk56, trueTW_p, if_true]
  refine ⟨_, hK _ _ hr, by rw [List.length_map]; exact om5 hnl rfl, Nat.le_of_ble_eq_true rfl, ?_⟩
  refine hq _ _ _ ⟨hK.trans (Keep.app _ _), ?_, by rw [List.length_set, List.length_set]; exact hρ⟩
  rw [List.length_append, List.length_singleton, List.take_add_one, hp]
  exact (hA.keep (Keep.app _ _)).snoc hK.len app_get
 ·rintro acc ρ H' ⟨hK, hA, hρ⟩
  have : ([] ++ Src.items (Src.list k vs)).length = ps.length := by rw [List.nil_append, Src.items, hvl]
  rw [this, List.take_of_length_le (Nat.le_refl _)] at hA
  exact ⟨hK _ _ hk, q acc H' hK hA⟩
structure R21 (ρ : Rho) (nb np ns : Nat) : Prop where
 r : R9 ρ
 s19 : ρ[19]? = some (some (.ref nb))
 s20 : ρ[20]? = some (some (.ref np))
 s21 : ρ[21]? = some (some (.ref ns))
theorem R21.set {nb np ns : Nat} (h : R21 ρ nb np ns) {k : Nat} (hk : 22 ≤ k ∨ k = 17) (o : Option V) : R21 (ρ.set k o) nb np ns :=
 ⟨h.r.set (by lia) o, rs_ne (by lia) h.s19, rs_ne (by lia) h.s20, rs_ne (by lia) h.s21⟩
structure Hp (H : List AO) (cnt : Int) (is os : Ports) (cs : List Cell) (hd fr kn : List Int) (b : ID) (nb np ns : Nat) : Prop where
 ls : LS H cnt is os cs hd fr kn cs
 bits : H[nb]? = some (DI b)
 b20 : 20 ≤ nb ∧ 20 ≤ np ∧ 20 ≤ ns
 ports : ∃ vs, H[np]? = some (.list vs) ∧ PortsR (fun r => r ≠ 4) H vs is
 shown : ∃ vs, H[ns]? = some (.list vs) ∧ PortsR (fun r => r ≠ 4) H vs os
theorem Hp.k4 {H' : List AO} {b : ID} {nb np ns : Nat} (h : Hp H cnt is os cs hd fr kn b nb np ns) (k : K4 H H') (d : DrawSt 4 3 H') : Hp H' cnt is os cs hd fr kn b nb np ns := by
 obtain ⟨vs, a1, a2⟩ := h.ports
 obtain ⟨us, b1, b2⟩ := h.shown
 have := h.b20
 exact ⟨h.ls.k4 k d, k _ _ (by lia) h.bits, h.b20, ⟨vs, k _ _ (by lia) a1, a2.k4 (fun _ h => h) k⟩, ⟨us, k _ _ (by lia) b1, b2.k4 (fun _ h => h) k⟩⟩
theorem Hp.keep {H' : List AO} {b : ID} {nb np ns : Nat} (h : Hp H cnt is os cs hd fr kn b nb np ns) (k : Keep H H') : Hp H' cnt is os cs hd fr kn b nb np ns := h.k4 k.k4 (h.ls.dr.keep k)
theorem v_law17 {b : ID} {nb : Nat} (hr : R9 ρ) (g19 : ρ[19]? = some (some (.ref nb))) (hnb : 20 ≤ nb) (hb : H[nb]? = some (DI b)) (hs : LS H cnt is os cs hd fr kn cs)
  (hil : is.length ≤ 900) (hol : os.length ≤ 900) (hin : ∀ p ∈ is, p.2.length ≤ 900) (hon : ∀ p ∈ os, p.2.length ≤ 900)
  (q : ∀ ρ' H' np ns, R21 ρ' nb np ns → Hp H' cnt is os cs hd fr kn b nb np ns → B .next ρ' H') : seqBW law_16 law_17 ρ H B := by
 unfold law_16 law_17
 simp only [zk4_, zk12, zk115, zk83, zk60, nm hr.s3, zk61]
 refine hs.bn.a_inputs.mpr ?_
 obtain ⟨vi, hvi, hR⟩ := hs.bn.inp
 refine ⟨_, hvi, ?_⟩
 refine c_ports hvi hR hil hin (Nat.le_of_ble_eq_true rfl) fun acc H1 hK1 hA => ?_
 simp only [zk117, zk13, na, ↓vf12, zk12, zk115, zk83, zk60]
 have hr2 := hr.set (k := 20) (by decide) (some (.ref H1.length))
 have g19' : (ρ.set 20 (some (.ref H1.length)))[19]? = some (some (.ref nb)) := rs_ne (by decide) g19
 have g20 : (ρ.set 20 (some (.ref H1.length)))[20]? = some (some (.ref H1.length)) := rs_eq (by rw [hr.len]; decide)
 generalize ρ.set 20 (some (.ref H1.length)) = ρ2 at hr2 g19' g20 ⊢
 have hK2 := hK1.trans (Keep.app H1 [AO.list acc])
 have hs2 := hs.keep hK2
 rw [nm hr2.s3]
 refine hs2.bn.a_outputs.mpr ?_
 obtain ⟨vo, hvo, hR'⟩ := hs2.bn.out
 refine ⟨_, hvo, ?_⟩
 refine c_ports hvo hR' hol hon (Nat.le_of_ble_eq_true rfl) fun acc' H3 hK3 hA' => ?_
 have hl := hs.len
 have hl1 := hK1.len
 have hl3 := hK3.len
 rw [List.length_append] at hl3
 refine q _ _ H1.length H3.length ⟨hr2.set (by decide) _, rs_ne (by decide) g19', rs_ne (by decide) g20, rs_eq (by rw [hr2.len]; decide)⟩ ⟨hs2.keep (hK3.trans (Keep.app _ _)), ?_, ⟨hnb, by lia, by lia⟩, ⟨acc, ?_, ?_⟩, ⟨acc', app_get, ?_⟩⟩
 ·exact (hK3.trans (Keep.app _ _)) _ _ (hK2 _ _ hb)
 ·exact (hK3.trans (Keep.app _ _)) _ _ app_get
 ·exact ((hA.keep (Keep.app _ _)).keep (hK3.trans (Keep.app _ _))).low fun r h => by lia
 ·refine (hA'.keep (Keep.app _ _)).low fun r h => ?_
  rw [List.length_append] at h; lia
end
end Mine
end
section
open PySem
set_option maxRecDepth 100000
namespace Mine
section
variable {H : List AO} {Q : V → List AO → Prop} {ρ : Rho} {B : Fl → Rho → List AO → Prop}
theorem ok_a : PyData.strOk (Str.ofString "a") = true := by decide +kernel
theorem ok_b : PyData.strOk (Str.ofString "b") = true := by decide +kernel
theorem ok_y : PyData.strOk (Str.ofString "y") = true := by decide +kernel
theorem ok_z : PyData.strOk (Str.ofString "z") = true := by decide +kernel
theorem veqs_ints (n : Nat) : ∀ l : List Int, VEqs H n (l.map V.int) (l.map V.int)
 | [] => .nil
 | a :: r => .cons (.int a) (veqs_ints n r)
theorem veqs_ports {P P' : Nat → Prop} (n : Nat) {vs vs' : List V} {ps : Ports} (h : PortsR P H vs ps) (h' : PortsR P' H vs' ps) (hs : ∀ p ∈ ps, PyData.strOk (Str.ofString p.1) = true) : VEqs H (n + 2) vs vs' := by
 induction h generalizing vs' with
 | nil => cases h'; exact .nil
 | @cons x r ns vs ps a b _ ih =>
  cases h' with
  | @cons _ r' _ vs' _ a' b' h2 =>
   exact .cons (.tup (.cons (.str (hs (x, ns) (.head _))) (.cons (.ref b b' (veqs_ints _ _)) .nil))) (ih h2 fun p hp => hs p (.tail _ hp))
theorem neq_ref {i j : Nat} {l r : List V} (n : Nat) (hn : n = 19) (h1 : H[i]? = some (.list l)) (h2 : H[j]? = some (.list r)) (h : VEqs H n l r) (q : Q (.bool false) H) : cmpV .NotEq (.ref i) (.ref j) H Q := by
 subst hn
 exact ⟨.ref h1 h2 h, q⟩
theorem eq_ref {i j : Nat} {l r : List V} (n : Nat) (hn : n = 19) (h1 : H[i]? = some (.list l)) (h2 : H[j]? = some (.list r)) (h : VEqs H n l r) (q : Q (.bool true) H) : cmpV .Eq (.ref i) (.ref j) H Q := by
 subst hn
 exact ⟨.ref h1 h2 h, q⟩
variable {w hn m T : Nat} {C S cs : List Cell} {os : Ports} {cnt : Int} {hd fr kn : List Int}
theorem inPorts_ok (w : Nat) : ∀ p ∈ inPorts w, PyData.strOk (Str.ofString p.1) = true := by
 intro p hp
 unfold inPorts at hp
 simp only [List.mem_cons, List.not_mem_nil, or_false] at hp
 rcases hp with rfl | rfl
 ·exact ok_a
 ·exact ok_b
theorem inPorts_len {w : Nat} (h : w ≤ 3) : (inPorts w).length ≤ 900 ∧ ∀ p ∈ inPorts w, p.2.length ≤ 900 := by
 refine ⟨Nat.le_of_ble_eq_true rfl, fun p hp => ?_⟩
 unfold inPorts at hp
 simp only [List.mem_cons, List.not_mem_nil, or_false] at hp
 rcases hp with rfl | rfl
 ·show (newNets 2 w).length ≤ 900
  rw [newNets_len]; exact om5 h rfl
 ·show (newNets (2 + w) 1).length ≤ 900
  rw [newNets_len]; lia
theorem osOk_len {N : Nat} {os : Ports} (h : OsOk N os) : ∀ p ∈ os, p.2.length ≤ 900 := by
 intro p hp
 obtain ⟨_, a, e, _⟩ := h p hp
 rw [e]; exact Nat.le_of_ble_eq_true rfl
theorem osOk_str {N : Nat} {os : Ports} (h : OsOk N os) : ∀ p ∈ os, PyData.strOk (Str.ofString p.1) = true := by
 intro p hp
 obtain ⟨e, _⟩ := h p hp
 rcases e with e | e <;> rw [e]
 ·exact ok_y
 ·exact ok_z
theorem rebPorts_len {rep : ID} {os : Ports} (h : ∀ p ∈ os, p.2.length ≤ 900) : ∀ p ∈ rebPorts rep os, p.2.length ≤ 900 := by
 intro p hp
 unfold rebPorts at hp
 obtain ⟨p0, h0, rfl⟩ := List.mem_map.mp hp
 show (p0.2.map _).length ≤ 900
 rw [List.length_map]; exact h p0 h0
theorem Circ.cl (h : Circ w hn m T C S cs os) : cs.length ≤ 100 ∧ m ≤ 5 ∧ 2 ≤ m ∧ T ≤ 5 := by
 have := h.nd.2
 simp only [List.length_append, List.length_map] at this
 have := h.hm; have := h.w3; have := h.hn1; have := h.T5; have := h.w1
 lia
theorem v_fold {i ng : Nat} {g : ID} (h : Circ w hn m T C S cs os) (hg : Fx m g) (hgl : g.length ≤ 900) (g3 : ρ[3]? = some (some (.ref 6))) (gi : ρ[i]? = some (some (.ref ng))) (hng : H[ng]? = some (DI g)) (hs : LS H cnt (inPorts w) os cs hd fr kn cs)
  (q : ∀ n' j ji jo jc vi vo H' cs2 rep R inv, Keep H H' → Folded (rebCells g cs) cs2 rep R inv → NetR H' n' cnt (inPorts w) (rebPorts rep (rebPorts g os)) (rebCells rep cs2) j ji jo jc vi vo → Q (.ref n') H') :
  callW (consW (callW (consW (nameW 3) (consW (callW (consW (nameW i) (nilW)) dictF) (nilW))) f_rebuilt) (nilW)) f_fold_constants ρ H Q := by
 simp only [zk55, zk52, nm g3, zk53, nm gi, ↓vf5, zk56]
 refine ⟨_, hng, by rw [List.length_map]; exact om5 hgl rfl, ?_⟩
 have hs2 := hs.app [AO.dict (g.map fun p => (p.1, V.int p.2))]
 obtain ⟨vi, vo, hN⟩ := hs2.bn.net
 have hcl := h.cl
 have hil := inPorts_len h.w3
 have hol := osOk_len h.oOk
 have ho2 := h.ol
 refine c_rebuilt hN app_get hg.flat (by exact oq37 hcl) hil.1 (by exact om12 ho2 rfl) hil.2 hol ?_ fun n' j ji jo jc vi vo H' hK hN' => ?_
 ·intro c hc
  rcases h.mem.mp hc with e | e
  ·have := (h.inC e).2.1.len; exact om5 this rfl
  ·have := (h.inS e).2.2.2.1; exact om12 this rfl
 refine c_fold hN' (h.fit hg) (h.sound hg) hil.1 ?_ hil.2 (rebPorts_len hol) fun n2 j ji jo jc vi vo H'' cs2 rep R inv hK' hF hN2 => ?_
 ·unfold rebPorts; rw [List.length_map]; exact om12 ho2 rfl
 ·exact q _ _ _ _ _ _ _ _ _ _ _ _ (((Keep.app _ _).trans hK).trans hK') hF hN2
theorem Bt.fx {b : ID} (h : Bt m m b) : Fx m b := ⟨fun a v e => by have := h.1 a v e; lia⟩
theorem Bt.all {b : ID} (h : Bt m m b) : ∀ x, 2 ≤ x → x < ((m + 2 : Nat) : Int) → (lk b x).isSome = true := fun x h1 h2 => h.2.1 x h1 (by exact oq38 h2)
noncomputable def gvOf (G : ID) (x : Int) : Nat := ((lk G x).getD 0).toNat
theorem Bt.giv {b : ID} (h : Bt m m b) : Giv m (gvOf b) b := by
 refine ⟨fun x y e => ?_, h.all⟩
 have := h.1 x y e
 refine ⟨this.1, by exact oq39 this, ?_⟩
 unfold gvOf; rw [e]; simp only [Option.getD_some]; lia
theorem v_law21 {b : ID} {nb np ns : Nat} (h : Circ w hn m T C S cs os) (hb : Bt m m b) (hr : R21 ρ nb np ns) (hp : Hp H cnt (inPorts w) os cs hd fr kn b nb np ns)
  (q : ∀ ρ' H', R21 ρ' nb np ns → Hp H' cnt (inPorts w) os cs hd fr kn b nb np ns → B .next ρ' H') : seqBW law_18 (seqBW law_19 (seqBW law_20 law_21)) ρ H B := by
 have hcl := h.cl
 have hbl : b.length ≤ 5 := by have := hb.2.2; lia
 unfold law_18
 simp only [zk4_, zk12]
 refine v_fold h hb.fx (by exact om5 hbl rfl) hr.r.s3 hr.s19 hp.bits hp.ls fun n' j ji jo jc vi vo H1 cs2 rep R inv hK1 hF hN => ?_
 simp only [zk13, na, ↓vf12]
 obtain ⟨hcs, hz⟩ := h.con hb.fx hb.all hF
 have hr1 := hr.set (k := 22) (.inl (by decide)) (some (.ref n'))
 have g22 : (ρ.set 22 (some (.ref n')))[22]? = some (some (.ref n')) := rs_eq (by rw [hr.r.len]; decide)
 generalize ρ.set 22 (some (.ref n')) = ρ1 at hr1 g22 ⊢
 replace hp := hp.keep hK1
 obtain ⟨β, σ, hv⟩ := h.val 1 (gvOf b) (fun x h2 h3 => by
  unfold gvOf
  cases e : lk b x with
  | none => simp
  | some y => have := hb.1 x y e; simp only [Option.getD_some]; lia)
 have hgl : ∀ l, l < 1 → ∀ a y, lk b a = some y → β l y = β l a := by
  intro l hl a y e
  have := hb.1 a y e
  rw [hv.leafB a l this.1 (by exact oq39 this)]
  unfold gvOf
  rw [e]
  have hl0 : l = 0 := by lia
  subst hl0
  rcases this.2.2 with e2 | e2
  ·rw [e2, hv.z]; rfl
  ·rw [e2, hv.o]; rfl
 unfold law_19
 simp only [zk4_, zk12, zk55, zk52, nm hr1.r.s9, zk53, nm hr1.s19, constW_p, ↓vf5, ↓vf6, zk56]
 refine c_law_all_words (rows := 1) (h.sigOld hv hb.giv) hp.ls.placed hp.bits hcl.1 (by exact om5 hbl rfl) fun kd d H2 hK2 hd hW hA => ?_
 simp only [zk13, na, ↓vf12]
 replace hp := hp.keep hK2
 replace hN := hN.keep hK2
 have hr2 := hr1.set (k := 23) (.inl (by decide)) (some (.ref kd))
 have g22' : (ρ1.set 23 (some (.ref kd)))[22]? = some (some (.ref n')) := rs_ne (by decide) g22
 have g23 : (ρ1.set 23 (some (.ref kd)))[23]? = some (some (.ref kd)) := rs_eq (by rw [hr1.r.len]; decide)
 generalize ρ1.set 23 (some (.ref kd)) = ρ2 at hr2 g22' g23 ⊢
 unfold law_20
 simp only [zk4_, zk8, zk21, zk27, zk60, nm g22', zk61]
 refine hN.a_cells.mpr ⟨Nat.le_of_ble_eq_true rfl, ?_⟩
 refine neq_ref (l := []) (r := []) 19 rfl ?_ app_get .nil ?_
 ·have := (Keep.app H2 [AO.list []]) _ _ hN.cel
  rw [hcs] at this; exact this
 simp only [↓vf14, zk22, Bool.false_eq_true, zk9, zk4_, zk10, constW_p, zk11, zk6, nextBW_p, zk5, zk21, zk27, zk60, nm g22', zk61, if_false]
 replace hp := hp.keep (Keep.app H2 [AO.list []])
 replace hN := hN.keep (Keep.app H2 [AO.list []])
 replace hd := (Keep.app H2 [AO.list []]) _ _ hd
 generalize H2 ++ [AO.list []] = H3 at hp hN hd ⊢
 refine hN.a_inputs.mpr ?_
 obtain ⟨vs, hvs, hvR⟩ := hp.ports
 simp only [zk28, nm hr2.s20, zk29]
 refine neq_ref 19 rfl hN.inp hvs (veqs_ports 17 hN.inpR hvR (inPorts_ok w)) ?_
 simp only [↓vf14, zk22, Bool.false_eq_true, zk9, zk4_, zk10, constW_p, zk11, zk6, nextBW_p, zk5, trueTW_p, if_false]
 unfold law_21
 simp only [zk8, zk27, zk60, nm g22', zk61]
 refine hN.a_outputs.mpr ?_
 obtain ⟨vi0, vo0, hN0⟩ := hp.ls.bn.net
 have ho2 := h.ol
 simp only [zk28, zk55, zk52, nm hr2.r.s3, zk53, nm g23, ↓vf5, zk54, zk56]
 refine c_law_at_ends hN0 hd (by exact om12 ho2 rfl) (osOk_len h.oOk) fun H4 vs4 hK4 hvs4 hR4 => ?_
 have eo : endPorts d os = rebPorts rep (rebPorts b os) := by
  unfold endPorts rebPorts
  rw [List.map_map]
  apply List.map_congr_left
  intro p hp
  obtain ⟨_, a, ea, h0, h1⟩ := h.oOk p hp
  simp only [Function.comp, ea, List.map_cons, List.map_nil]
  have k1 := h.knownOld hb.giv hW hA h0 h1
  have k2 := h.same hF hv hgl a
  rw [k1, ← k2]
  have k3 := hz a h0 h1
  simp only [Option.getD_some]
  congr 2
  rcases k3 with e | e
  ·rw [e, hv.s0]; rfl
  ·rw [e, hv.s1]; rfl
 rw [eo] at hR4
 replace hN := hN.keep hK4
 refine neq_ref 19 rfl hN.out hvs4 (veqs_ports 17 hN.outR hR4 ?_) ?_
 ·intro p hp
  unfold rebPorts at hp
  rw [List.map_map] at hp
  obtain ⟨p0, h0, rfl⟩ := List.mem_map.mp hp
  exact osOk_str h.oOk p0 h0
 simp only [↓vf14, zk9, Bool.false_eq_true, zk4_, zk10, constW_p, zk11, zk6, nextBW_p, if_false]
 exact q _ _ hr2 (hp.keep hK4)
end
end Mine
end
section
open PySem
set_option maxRecDepth 100000
namespace Mine
theorem nat_fdiv (a b : Nat) : (a : Int).fdiv (b : Int) = ((a / b : Nat) : Int) := by
 rw [Int.fdiv_eq_ediv_of_nonneg _ (Int.natCast_nonneg _), Int.natCast_ediv]
theorem half_le (a k : Nat) : (a / (k + 1)) * k ≤ a := by
 have h1 := Nat.div_mul_le_self a (k + 1)
 have h2 : (a / (k + 1)) * k ≤ (a / (k + 1)) * (k + 1) := Nat.mul_le_mul_left _ (by exact Nat.le_add_right _ _)
 lia
structure R27 (ρ : Rho) (nb np ns nf ng rows : Nat) : Prop where
 r : R21 ρ nb np ns
 s25 : ρ[25]? = some (some (.int (fullW rows : Nat)))
 s26 : ρ[26]? = some (some (.ref nf))
 s27 : ρ[27]? = some (some (.ref ng))
theorem R27.set {ρ : Rho} {nb np ns nf ng rows : Nat} (h : R27 ρ nb np ns nf ng rows) {k : Nat} (hk : 28 ≤ k ∨ k = 17 ∨ k = 22) (o : Option V) : R27 (ρ.set k o) nb np ns nf ng rows :=
 ⟨h.r.set (by lia) o, rs_ne (by lia) h.s25, rs_ne (by lia) h.s26, rs_ne (by lia) h.s27⟩
structure Fg (i rows : Nat) (b fx G : ID) : Prop where
 f : ∀ a v, lk fx a = some v → 2 ≤ a ∧ a < ((2 + i : Nat) : Int) ∧ lk b a = some v
 fl : fx.length ≤ i
 g : ∀ a v, lk G a = some v → 2 ≤ a ∧ a < ((2 + i : Nat) : Int) ∧ ∃ u : Nat, u < 2 ^ rows ∧ v = (u : Int)
 all : ∀ a, 2 ≤ a → a < ((2 + i : Nat) : Int) → (lk G a).isSome = true
 gl : G.length ≤ 2 * i
 lnk : ∀ a v, lk fx a = some v → lk G a = some (if v ≠ 0 then (fullW rows : Int) else 0)
section
variable {i rows : Nat} {b fx G : ID}
theorem Fg.put (h : Fg i rows b fx G) {u : Nat} (hu : u < 2 ^ rows) : Fg (i + 1) rows b fx (lput G (2 + i) u) := by
 refine ⟨fun a v e => ?_, ?_, fun a v e => ?_, fun a h1 h2 => ?_, ?_, fun a v e => ?_⟩
 ·have := h.f a v e; exact ⟨this.1, by lia, this.2.2⟩
 ·have := h.fl; exact Nat.le_succ_of_le this
 ·rw [lk_put] at e
  split at e
  ·cases e; exact ⟨by lia, by lia, u, hu, rfl⟩
  ·have := h.g a v e; exact ⟨this.1, by lia, this.2.2⟩
 ·rw [lk_put]
  split
  ·rfl
  ·exact h.all a h1 (by lia)
 ·have := lput_len (d := G) (k := 2 + i) (v := u); have := h.gl; lia
 ·have := h.f a v e
  rw [lk_put, if_neg (by lia)]; exact h.lnk a v e
theorem Fg.put2 (h : Fg i rows b fx G) {v : Int} (hv : lk b (2 + i) = some v) (u : Nat) : Fg (i + 1) rows b (lput fx (2 + i) v) (lput (lput G (2 + i) u) (2 + i) (if v ≠ 0 then (fullW rows : Int) else 0)) := by
 have hfu := full_lt rows
 refine ⟨fun a y e => ?_, ?_, fun a y e => ?_, fun a h1 h2 => ?_, ?_, fun a y e => ?_⟩
 ·rw [lk_put] at e
  split at e
  ·next e2 => cases e; exact ⟨by lia, by lia, by rw [e2]; exact hv⟩
  ·have := h.f a y e; exact ⟨this.1, by lia, this.2.2⟩
 ·have := lput_len (d := fx) (k := 2 + i) (v := v); have := h.fl; lia
 ·rw [lk_put] at e
  split at e
  ·cases e
   refine ⟨by lia, by lia, if v ≠ 0 then fullW rows else 0, ?_, ?_⟩
   ·split
    ·exact hfu
    ·exact Nat.two_pow_pos _
   ·split <;> rfl
  ·next e2 =>
   rw [lk_put, if_neg e2] at e
   have := h.g a y e; exact ⟨this.1, by lia, this.2.2⟩
 ·rw [lk_put]
  split
  ·rfl
  ·next e2 =>
   rw [lk_put, if_neg e2]
   exact h.all a h1 (by lia)
 ·have := lput_len (d := G) (k := 2 + i) (v := u)
  have := lput_len (d := lput G (2 + i) u) (k := 2 + i) (v := if v ≠ 0 then (fullW rows : Int) else 0)
  have := h.gl; lia
 ·rw [lk_put] at e
  split at e
  ·next e2 => cases e; rw [lk_put, if_pos e2]
  ·next e2 =>
   rw [lk_put, if_neg e2, lk_put, if_neg e2]
   exact h.lnk a y e
end
section
variable {H : List AO} {Q : V → List AO → Prop} {ρ : Rho} {B : Fl → Rho → List AO → Prop} {m : Nat} {cs : List Cell} {is os : Ports} {cnt : Int} {hd kn : List Int}
theorem v_law26 {b : ID} {nb np ns : Nat} (hm : m ≤ 5) (hb : Bt m m b) (hr : R21 ρ nb np ns) (hp : Hp H cnt is os cs hd (newNets 2 m) kn b nb np ns)
  (q : ∀ ρ' H' nf ng fx G, R27 ρ' nb np ns nf ng (2 ^ m) → Hp H' cnt is os cs hd (newNets 2 m) kn b nb np ns → H'[nf]? = some (DI fx) → H'[ng]? = some (DI G) → Fg m (2 ^ m) b fx G → B .next ρ' H') :
  seqBW law_22 (seqBW law_23 (seqBW law_24 (seqBW law_25 law_26))) ρ H B := by
 have hmb : 2 ^ m ≤ 32 := by
  have : m = 0 ∨ m = 1 ∨ m = 2 ∨ m = 3 ∨ m = 4 ∨ m = 5 := by lia
  rcases this with h | h | h | h | h | h <;> rw [h] <;> decide
 have e1 : 1 <<< m = 2 ^ m := by rw [Nat.shiftLeft_eq, Nat.one_mul]
 unfold law_22 law_23 law_24 law_25
 simp only [zk4_, zk12, zk62, constW_p, zk63, zk55, zk52, nm hr.r.s7, ↓vf5, zk56]
 rw [len_ref hp.ls.free, List.length_map, newNets_len]
 refine ⟨by exact om5 hm rfl, ?_⟩
 simp only [zk64, bin_shl, shl_one, e1, zk13]
 refine ⟨by exact Int.natCast_nonneg _, by exact om39 hm rfl, by decide, ?_⟩
 simp only [na, ↓vf12]
 have hr1 := hr.set (k := 24) (.inl (by decide)) (some (.int ((2 ^ m : Nat) : Int)))
 have g24 : (ρ.set 24 (some (.int ((2 ^ m : Nat) : Int))))[24]? = some (some (.int ((2 ^ m : Nat) : Int))) := rs_eq (by rw [hr.r.len]; decide)
 generalize ρ.set 24 (some (.int ((2 ^ m : Nat) : Int))) = ρ1 at hr1 g24 ⊢
 simp only [zk4_, zk12, zk62, constW_p, zk63, nm g24, zk64, bin_shl, shl_one]
 refine ⟨Int.natCast_nonneg _, by exact om39 hmb rfl, by decide, ?_⟩
 simp only [bin_sub, zk13]
 have ef : ((1 <<< 2 ^ m : Nat) : Int) - 1 = ((fullW (2 ^ m) : Nat) : Int) := by
  rw [Nat.shiftLeft_eq, Nat.one_mul]
  have := Nat.two_pow_pos (2 ^ m)
  unfold fullW; lia
 rw [ef]
 simp only [na, ↓vf12, zk4_, zk12, dict0W_p, zk13]
 have hrw : 2 ^ (2 ^ m) ≤ 2 ^ 32 := Nat.pow_le_pow_right (by decide) hmb
 generalize hrows : 2 ^ m = rows at *
 have hr2 : R27 ((((ρ1.set 25 (some (.int ((fullW rows : Nat) : Int)))).set 26 (some (.ref H.length))).set 27 (some (.ref (H.length + 1))))) nb np ns H.length (H.length + 1) rows :=
  ⟨((hr1.set (.inl (by decide)) _).set (.inl (by decide)) _).set (.inl (by decide)) _, rs_ne (by decide) (rs_ne (by decide) (rs_eq (by rw [hr1.r.len]; decide))), rs_ne (by decide) (rs_eq (by rw [List.length_set, hr1.r.len]; decide)),
   rs_eq (by rw [List.length_set, List.length_set, hr1.r.len]; decide)⟩
 have eh : (H ++ [AO.dict []]).length = H.length + 1 := by simp
 rw [eh]
 generalize (((ρ1.set 25 (some (.int ((fullW rows : Nat) : Int)))).set 26 (some (.ref H.length))).set 27 (some (.ref (H.length + 1)))) = ρ2 at hr2 ⊢
 have hK0 : Keep H (H ++ [AO.dict []] ++ [AO.dict []]) := (Keep.app _ _).trans (Keep.app _ _)
 have hp0 := hp.keep hK0
 unfold law_26
 simp only [zk17, zk81, zk52, zk55, nm hr2.r.r.s7, ↓vf5, zk56]
 rw [len_ref hp0.ls.free, List.length_map, newNets_len]
 refine ⟨by exact om5 hm rfl, ?_⟩
 simp only [↓vf5, zk82, zk18]
 refine ⟨by exact om1 _, by exact om38 hm rfl, ?_⟩
 have h20 := hp.ls.len
 refine range_inv rfl (fun i ρ H' => An4 (R27 ρ nb np ns H.length (H.length + 1) rows) (K4 H H') (DrawSt 4 3 H') (Ex2 fun fx G => An3 (H'[H.length]? = some (DI fx)) (H'[H.length + 1]? = some (DI G)) (Fg i rows b fx G))) ?_ ?_ ?_
 ·refine ⟨hr2, hK0.k4, hp0.ls.dr, [], [], by simp [DI], by simp [DI], ⟨fun a v e => (by cases e), Nat.le_refl _, fun a v e => (by cases e), fun a h1 h2 => by exact False.elim (oq35 h1 h2), Nat.le_refl _, fun a v e => (by cases e)⟩⟩
 ·rintro i hi ρ H' B' ⟨hr, hK, hD, fx, G, hfx, hG, hF⟩ hB
  have hpc := hp.k4 hK hD
  have hr3 := hr.set (k := 28) (.inl (by decide)) (some (.int (i : Nat)))
  have g28 : (ρ.set 28 (some (.int (i : Nat))))[28]? = some (some (.int (i : Nat))) := rs_eq (by rw [hr.r.r.len]; decide)
  simp only [zk19, na, zk20]
  generalize ρ.set 28 (some (.int (i : Nat))) = ρ3 at hr3 g28 ⊢
  simp only [zk4_, zk12, zk57, nm hr3.r.r.s7, zk58, nm g28, zk59]
  refine (get_ref (v := .int (2 + (i : Nat))) hpc.ls.free ?_ (by exact om10 hi hm rfl)).mpr ?_
  ·rw [List.getElem?_map, newNets_get (by exact hi)]; rfl
  simp only [zk13, na, ↓vf12, zk4_, zk12]
  have hr4 := hr3.set (k := 17) (.inr (.inl rfl)) (some (.int (2 + (i : Nat))))
  have g17 : (ρ3.set 17 (some (.int (2 + (i : Nat)))))[17]? = some (some (.int (2 + (i : Nat)))) := rs_eq (by rw [hr3.r.r.len]; decide)
  have g28' : (ρ3.set 17 (some (.int (2 + (i : Nat)))))[28]? = some (some (.int (i : Nat))) := rs_ne (by decide) g28
  generalize ρ3.set 17 (some (.int (2 + (i : Nat)))) = ρ4 at hr4 g17 g28' ⊢
  simp only [zk62, constW_p, zk63, nm g28', zk64, bin_shl, shl_one, zk13]
  refine ⟨by exact Int.natCast_nonneg _, by exact om40 hi hm rfl, by decide, ?_⟩
  simp only [na, ↓vf12, zk4_, zk12]
  have hr5 := hr4.set (k := 29) (.inl (by decide)) (some (.int ((1 <<< i : Nat) : Int)))
  have g29 : (ρ4.set 29 (some (.int ((1 <<< i : Nat) : Int))))[29]? = some (some (.int ((1 <<< i : Nat) : Int))) := rs_eq (by rw [hr4.r.r.len]; decide)
  have g17' : (ρ4.set 29 (some (.int ((1 <<< i : Nat) : Int))))[17]? = some (some (.int (2 + (i : Nat)))) := rs_ne (by decide) g17
  generalize ρ4.set 29 (some (.int ((1 <<< i : Nat) : Int))) = ρ5 at hr5 g29 g17' ⊢
  have hs16 : 1 <<< i ≤ 16 := by
   have : i = 0 ∨ i = 1 ∨ i = 2 ∨ i = 3 ∨ i = 4 := by lia
   rcases this with h | h | h | h | h <;> rw [h] <;> decide
  generalize 1 <<< i = s at hs16 g29 ⊢
  simp only [zk62, nm hr5.s25, zk63, constW_p, nm g29, zk64, bin_shl, shl_one]
  refine ⟨Int.natCast_nonneg _, by exact om39 hs16 rfl, by decide, ?_⟩
  simp only [bin_add, zk64, bin_fdiv, zk63]
  have hs2 : 1 <<< s ≤ 65536 := by
   rw [Nat.shiftLeft_eq, Nat.one_mul]
   exact Nat.le_trans (Nat.pow_le_pow_right (by decide) hs16) (by decide)
  have esum : ∀ x : Nat, (x : Int) + 1 = ((x + 1 : Nat) : Int) := fun x => by lia
  rw [esum, nat_fdiv]
  have hfl := full_lt rows
  have hdl := Nat.div_le_self (fullW rows) (1 <<< s + 1)
  generalize hpp : 1 <<< s = p2 at hs2 hdl ⊢
  refine ⟨by lia, by lia, ?_⟩
  simp only [nm g29, zk64, bin_shl, zk13]
  refine ⟨Int.natCast_nonneg _, by exact om39 hs16 rfl, ?_, ?_⟩
  ·rw [Int.natAbs_natCast]
   have : (2 : Nat) ^ 32 < 2 ^ 64 := by decide
   lia
  simp only [zk66, nm hr5.s27, zk67, nm g17', zk68]
  rw [nat_shl]
  have hu : (fullW rows / (p2 + 1)) <<< s < 2 ^ rows := by
   rw [Nat.shiftLeft_eq]
   have : 2 ^ s = p2 := by rw [← hpp, Nat.shiftLeft_eq, Nat.one_mul]
   rw [this]
   have := half_le (fullW rows) p2
   lia
  generalize (fullW rows / (p2 + 1)) <<< s = u at hu ⊢
  have hgl := hF.gl
  have hflx := hF.fl
  refine set_DI hG (by lia) ?_
  have hlenG := (List.getElem?_eq_some_iff.mp hG).1
  have hK2 := hK.set (k := H.length + 1) (by exact Nat.le_add_right _ _) (DI (lput G (2 + (i : Int)) u))
  have hD2 := hD.set (k := H.length + 1) (by exact om17 h20 rfl) (by exact om17 h20 rfl) (DI (lput G (2 + (i : Int)) u))
  have hG2 : (H'.set (H.length + 1) (DI (lput G (2 + (i : Int)) u)))[H.length + 1]? = some (DI (lput G (2 + (i : Int)) u)) := List.getElem?_set_self hlenG
  have hfx2 : (H'.set (H.length + 1) (DI (lput G (2 + (i : Int)) u)))[H.length]? = some (DI fx) := by rw [List.getElem?_set_ne (by exact om14 rfl)]; exact hfx
  generalize H'.set (H.length + 1) (DI (lput G (2 + (i : Int)) u)) = H2 at hK2 hD2 hG2 hfx2 ⊢
  simp only [↓vf12, zk4_, zk8, zk36]
  refine d4 hD2 hr5.r.r.s1 (by decide) (by decide) (fun K k => k) fun v H3 h0 h1 ⟨o, ho⟩ hD3 => ?_
  subst ho
  have hG3 : (H2.set 4 o)[H.length + 1]? = some (DI (lput G (2 + (i : Int)) u)) := by rw [List.getElem?_set_ne (by lia)]; exact hG2
  have hfx3 : (H2.set 4 o)[H.length]? = some (DI fx) := by rw [List.getElem?_set_ne (by exact oq36 h20)]; exact hfx2
  have hK3 := hK2.draw o
  generalize H2.set 4 o = H3 at hD3 hG3 hfx3 hK3 ⊢
  simp only [zk30, tru_int, zk9]
  by_cases hv0 : (v != 0) = true
  ·rw [if_pos hv0]
   have hp3 := hp.k4 hK3 hD3
   obtain ⟨bv, hbv⟩ := Option.isSome_iff_exists.mp (hb.2.1 (2 + (i : Int)) (by lia) (by lia))
   simp only [zk4_, zk12, zk57, nm hr5.r.s19, zk58, nm g17', zk59]
   refine (get_DI hp3.bits hbv).mpr ?_
   simp only [zk13, zk66, nm hr5.s26, zk67, nm g17', zk68]
   refine set_DI hfx3 (by exact om31 hflx hi hm rfl) ?_
   have hlf := (List.getElem?_eq_some_iff.mp hfx3).1
   have hlg := (List.getElem?_eq_some_iff.mp hG3).1
   have hK4 := hK3.set (k := H.length) (Nat.le_refl _) (DI (lput fx (2 + (i : Int)) bv))
   have hD4 := hD3.set (k := H.length) (by exact om16 h20 rfl) (by exact om16 h20 rfl) (DI (lput fx (2 + (i : Int)) bv))
   have hfx4 : (H3.set H.length (DI (lput fx (2 + (i : Int)) bv)))[H.length]? = some (DI (lput fx (2 + (i : Int)) bv)) := List.getElem?_set_self hlf
   have hG4 : (H3.set H.length (DI (lput fx (2 + (i : Int)) bv)))[H.length + 1]? = some (DI (lput G (2 + (i : Int)) u)) := by rw [List.getElem?_set_ne (by exact om15 rfl)]; exact hG3
   have hll : (H3.set H.length (DI (lput fx (2 + (i : Int)) bv))).length = H3.length := List.length_set
   generalize H3.set H.length (DI (lput fx (2 + (i : Int)) bv)) = H4 at hK4 hD4 hfx4 hG4 hll ⊢
   have hp4 := hp.k4 hK4 hD4
   simp only [↓vf12, zk4_, zk12, zk46, zk36, zk57, nm hr5.r.s19, zk58, nm g17', zk59]
   refine (get_DI hp4.bits hbv).mpr ?_
   simp only [zk30, tru_int, zk47]
   have l1 := lput_len (d := G) (k := 2 + (i : Int)) (v := u)
   have fin : setV (.ref (H.length + 1)) (.int (2 + (i : Int))) (.int (if bv ≠ 0 then (fullW rows : Int) else 0)) H4 fun H₆ => B' .next ρ5 H₆ := by
    refine set_DI hG4 (by lia) ?_
    refine (hB _ _ ⟨hr5, hK4.set (by exact Nat.le_add_right _ _) _, hD4.set (by exact om17 h20 rfl) (by exact om17 h20 rfl) _, _, _, ?_, List.getElem?_set_self (by lia), hF.put2 hbv u⟩).1
    rw [List.getElem?_set_ne (by exact om14 rfl)]; exact hfx4
   by_cases hbz : bv = 0
   ·rw [if_neg (by simp [hbz])]
    rw [if_neg (by simp [hbz])] at fin
    simp only [constW_p, zk13, zk66, nm hr5.s27, zk67, nm g17', zk68]
    exact fin
   ·rw [if_pos (by simpa using hbz)]
    rw [if_pos hbz] at fin
    simp only [nm hr5.s25, zk13, zk66, nm hr5.s27, zk67, nm g17', zk68]
    exact fin
  ·rw [if_neg hv0]
   exact (hB _ _ ⟨hr5, hK3, hD3, _, _, hfx3, hG3, hF.put hu⟩).1
 ·rintro ρ H' ⟨hr, hK, hD, fx, G, hfx, hG, hF⟩
  exact q ρ H' _ _ fx G hr (hp.k4 hK hD) hfx hG hF
end
end Mine
end
section
open PySem
set_option maxRecDepth 100000
namespace Mine
section
variable {H : List AO} {Q : V → List AO → Prop} {ρ : Rho} {B : Fl → Rho → List AO → Prop} {w hn m T : Nat} {C S cs : List Cell} {os : Ports} {cnt : Int} {hd fr kn : List Int} {b fx G : ID} {rows : Nat}
theorem Fg.fixed (h : Fg m rows b fx G) (hb : Bt m m b) : Fx m fx := ⟨fun a v e => by
 obtain ⟨h1, h2, h3⟩ := h.f a v e
 have := hb.1 a v h3
 exact ⟨h1, by exact oq39 this, this.2.2⟩⟩
theorem Fg.giv (h : Fg m rows b fx G) : Giv m (gvOf G) G := by
 refine ⟨fun x y e => ?_, fun x h1 h2 => h.all x h1 (by exact oq38 h2)⟩
 obtain ⟨h1, h2, u, h3, h4⟩ := h.g x y e
 refine ⟨h1, by lia, ?_⟩
 unfold gvOf; rw [e, h4]; simp
theorem Fg.lt (h : Fg m rows b fx G) (x : Int) : gvOf G x < 2 ^ rows := by
 unfold gvOf
 cases e : lk G x with
 | none => simp; exact Nat.two_pow_pos _
 | some y =>
  obtain ⟨h1, h2, u, h3, h4⟩ := h.g x y e
  rw [h4]; simpa using h3
theorem Fg.agree (h : Fg m rows b fx G) (hb : Bt m m b) {β : Nat → Int → Bool} {σ : Int → Nat} (hv : Val m rows C (gvOf G) β σ) : ∀ l, l < rows → ∀ a v, lk fx a = some v → β l v = β l a := by
 intro l hl a v e
 obtain ⟨h1, h2, h3⟩ := (h.fixed hb).v a v e
 rw [hv.leafB a l h1 h2]
 have hG := h.lnk a v e
 unfold gvOf
 rw [hG]
 rcases h3 with e2 | e2
 ·subst e2; rw [hv.z]; simp
 ·subst e2; rw [hv.o, if_pos (by decide)]
  simp only [Option.getD_some, Int.toNat_natCast]
  rw [full_bit, decide_eq_true hl]
theorem v_law30 {nb np ns nf ng : Nat} (h : Circ w hn m T C S cs os) (hb : Bt m m b) (hF : Fg m rows b fx G) (hr : R27 ρ nb np ns nf ng rows) (hp : Hp H cnt (inPorts w) os cs hd fr kn b nb np ns) (hfx : H[nf]? = some (DI fx)) (hG : H[ng]? = some (DI G))
  (q : ∀ ρ' H' n' j ji jo jc vi vo cs2 rep R inv (σ : Int → Nat) dO dN kO kN, R27 ρ' nb np ns nf ng rows → Hp H' cnt (inPorts w) os cs hd fr kn b nb np ns → H'[nf]? = some (DI fx) → ρ'[22]? = some (some (.ref n')) → ρ'[30]? = some (some (.ref kO)) → ρ'[31]? = some (some (.ref kN)) →
   NetR H' n' cnt (inPorts w) (rebPorts rep (rebPorts fx os)) (rebCells rep cs2) j ji jo jc vi vo → Folded (rebCells fx cs) cs2 rep R inv → H'[kO]? = some (DI dO) → H'[kN]? = some (DI dN) →
   (∀ n : Int, 0 ≤ n → n < ((m + 2 + T : Nat) : Int) → lk dO n = some (σ n : Int) ∧ lk dN (Mine.fin rep (Mine.fin fx n)) = some (σ n : Int)) → B .next ρ' H') :
  seqBW law_27 (seqBW law_28 (seqBW law_29 law_30)) ρ H B := by
 have hcl := h.cl
 have hfl := hF.fl
 have hgl := hF.gl
 have hg := hF.fixed hb
 obtain ⟨β, σ, hv⟩ := h.val rows (gvOf G) (fun x _ _ => hF.lt x)
 have hag := hF.agree hb hv
 unfold law_27
 simp only [zk4_, zk12]
 refine v_fold h hg (by lia) hr.r.r.s3 hr.s26 hfx hp.ls fun n' j ji jo jc vi vo H1 cs2 rep R inv hK1 hFo hN => ?_
 simp only [zk13, na, ↓vf12]
 have hr1 := hr.set (k := 22) (.inr (.inr rfl)) (some (.ref n'))
 have g22 : (ρ.set 22 (some (.ref n')))[22]? = some (some (.ref n')) := rs_eq (by rw [hr.r.r.len]; decide)
 generalize ρ.set 22 (some (.ref n')) = ρ1 at hr1 g22 ⊢
 replace hp := hp.keep hK1
 replace hfx := hK1 _ _ hfx
 replace hG := hK1 _ _ hG
 unfold law_28
 simp only [zk4_, zk12, zk55, zk52, nm hr1.r.r.s9, zk53, nm hr1.s27, nm hr1.s25, ↓vf5, ↓vf6, zk56]
 refine c_law_all_words (h.sigOld hv hF.giv) hp.ls.placed hG hcl.1 (by exact oq40 hgl hcl) fun kO dO H2 hK2 hdO hWO hAO => ?_
 simp only [zk13, na, ↓vf12]
 have hr2 := hr1.set (k := 30) (.inl (by decide)) (some (.ref kO))
 have g22' : (ρ1.set 30 (some (.ref kO)))[22]? = some (some (.ref n')) := rs_ne (by decide) g22
 have g30 : (ρ1.set 30 (some (.ref kO)))[30]? = some (some (.ref kO)) := rs_eq (by rw [hr1.r.r.len]; decide)
 generalize ρ1.set 30 (some (.ref kO)) = ρ2 at hr2 g22' g30 ⊢
 replace hp := hp.keep hK2
 replace hfx := hK2 _ _ hfx
 replace hG := hK2 _ _ hG
 replace hN := hN.keep hK2
 unfold law_29
 simp only [zk4_, zk12, zk55, zk52, zk60, nm g22', zk61]
 refine hN.a_cells.mpr ?_
 have hlen2 : (rebCells rep cs2).length ≤ 100 := by
  have e1 : (rebCells rep cs2).length ≤ cs2.length := by unfold rebCells; rw [List.length_map]; exact List.length_filter_le ..
  have e2 : (rebCells fx cs).length ≤ cs.length := by unfold rebCells; rw [List.length_map]; exact List.length_filter_le ..
  have := hFo.fi.len
  lia
 simp only [zk53, zk52, nm hr2.s27, nm hr2.s25, ↓vf5, ↓vf6, zk56]
 refine c_law_all_words (h.sigNew hg hFo hv hF.giv hag) hN.cel hG hlen2 (by exact oq40 hgl hcl) fun kN dN H3 hK3 hdN hWN hAN => ?_
 simp only [zk13, na, ↓vf12]
 have hr3 := hr2.set (k := 31) (.inl (by decide)) (some (.ref kN))
 have j22 : (ρ2.set 31 (some (.ref kN)))[22]? = some (some (.ref n')) := rs_ne (by decide) g22'
 have j30 : (ρ2.set 31 (some (.ref kN)))[30]? = some (some (.ref kO)) := rs_ne (by decide) g30
 have j31 : (ρ2.set 31 (some (.ref kN)))[31]? = some (some (.ref kN)) := rs_eq (by rw [hr2.r.r.len]; decide)
 generalize ρ2.set 31 (some (.ref kN)) = ρ3 at hr3 j22 j30 j31 ⊢
 replace hp := hp.keep hK3
 replace hfx := hK3 _ _ hfx
 replace hN := hN.keep hK3
 replace hdO := hK3 _ _ hdO
 have known : ∀ n : Int, 0 ≤ n → n < ((m + 2 + T : Nat) : Int) → lk dO n = some (σ n : Int) ∧ lk dN (Mine.fin rep (Mine.fin fx n)) = some (σ n : Int) := by
  intro n h0 h1
  refine ⟨h.knownOld hF.giv hWO hAO h0 h1, ?_⟩
  rw [h.knownNew hg hFo hF.giv hWN hAN h0 h1, h.same hFo hv hag n]
 unfold law_30
 simp only [zk8, zk21, zk27, zk60, nm j22, zk61]
 refine hN.a_inputs.mpr ?_
 obtain ⟨vs, hvs, hvR⟩ := hp.ports
 simp only [zk28, nm hr3.r.s20, zk29]
 refine neq_ref 19 rfl hN.inp hvs (veqs_ports 17 hN.inpR hvR (inPorts_ok w)) ?_
 simp only [↓vf14, zk22, Bool.false_eq_true, zk9, zk4_, zk10, constW_p, zk11, zk6, nextBW_p, zk21, zk27, zk55, zk52, nm j22, zk53, nm j31, ↓vf5, zk54, zk56, if_false]
 have ho2 := h.ol
 have hol := osOk_len h.oOk
 refine c_law_at_ends hN hdN (by unfold rebPorts; simp only [List.length_map]; exact om12 ho2 rfl) (rebPorts_len (rebPorts_len hol)) fun H4 vs4 hK4 hvs4 hR4 => ?_
 replace hp := hp.keep hK4
 replace hdO := hK4 _ _ hdO
 obtain ⟨vi0, vo0, hN0⟩ := hp.ls.bn.net
 simp only [zk28, zk55, zk52, nm hr3.r.r.s3, zk53, nm j30, ↓vf5, zk54, zk56]
 refine c_law_at_ends hN0 hdO (by exact om12 ho2 rfl) hol fun H5 vs5 hK5 hvs5 hR5 => ?_
 have eo : endPorts dN (rebPorts rep (rebPorts fx os)) = endPorts dO os := by
  unfold endPorts rebPorts
  rw [List.map_map, List.map_map]
  apply List.map_congr_left
  intro p hp
  obtain ⟨_, a, ea, h0, h1⟩ := h.oOk p hp
  simp only [Function.comp, ea, List.map_cons, List.map_nil]
  obtain ⟨k1, k2⟩ := known a h0 h1
  rw [k1, k2]
 rw [eo] at hR4
 refine neq_ref 19 rfl (hK5 _ _ hvs4) hvs5 (veqs_ports 17 (hR4.keep hK5) hR5 ?_) ?_
 ·intro p hp
  unfold endPorts at hp
  obtain ⟨p0, h0, rfl⟩ := List.mem_map.mp hp
  exact osOk_str h.oOk p0 h0
 simp only [↓vf14, zk22, Bool.false_eq_true, zk9, zk4_, zk10, constW_p, zk11, zk6, nextBW_p, trueTW_p, if_false]
 have hK45 := hK4.trans hK5
 exact q _ _ n' j ji jo jc vi vo cs2 rep R inv σ dO dN kO kN hr3 (hp.keep hK5) (hK45 _ _ hfx) j22 j30 j31 (hN.keep hK45) hFo (hK5 _ _ hdO) (hK45 _ _ hdN) known
theorem kind_ok {k : String} {xs : List Int} {p : V} (h : Good k xs p) : PyData.strOk (Str.ofString k) = true := by
 cases h with
 | g2 hk =>
  simp only [List.mem_cons, List.not_mem_nil, or_false] at hk
  rcases hk with rfl | rfl | rfl | rfl | rfl | rfl <;> decide +kernel
 | mux => decide +kernel
 | buf => decide +kernel
 | not => decide +kernel
 | lut _ => decide +kernel
 | cell _ => decide +kernel
theorem ok_C : PyData.strOk (Str.ofString "C") = true := by decide +kernel
theorem ok_q : PyData.strOk (Str.ofString "q") = true := by decide +kernel
theorem ok_flop : PyData.strOk (Str.ofString "flop") = true := by decide +kernel
theorem ok_latch : PyData.strOk (Str.ofString "latch") = true := by decide +kernel
theorem par_ok {k : String} {xs : List Int} {p : V} (h : Good k xs p) (n : Nat) : VEq H (n + 1) p p := by
 cases h with
 | g2 _ => exact .none
 | mux => exact .none
 | buf => exact .none
 | not => exact .none
 | lut _ => exact .int _
 | cell _ => exact .tup (.cons (.str ok_C) (.cons (.int _) .nil))
theorem Circ.eqs (h : Circ w hn m T C S cs os) {c : Cell} (hc : c ∈ cs) : PyData.strOk (Str.ofString c.kind) = true ∧ ∀ n, VEq H (n + 1) c.par c.par := by
 rcases h.mem.mp hc with e | e
 ·exact ⟨kind_ok (h.inC e).2.1, par_ok (h.inC e).2.1⟩
 ·obtain ⟨i, hi⟩ := List.mem_iff_getElem?.mp e
  obtain ⟨_, hk, _⟩ := h.sOk i c hi
  rcases hk with ⟨k1, k2⟩ | ⟨k1, k2⟩
  ·rw [k1, k2]; exact ⟨ok_flop, fun n => .tup (.cons (.int _) (.cons (.str ok_q) (.cons (.int _) .nil)))⟩
  ·rw [k1, k2]; exact ⟨ok_latch, fun n => .tup (.cons (.str ok_q) (.cons (.int _) .nil))⟩
theorem veqs_of (n : Nat) : ∀ l : List V, (∀ v ∈ l, VEq H n v v) → VEqs H n l l
 | [], _ => .nil
 | a :: r, h => .cons (h a (.head _)) (veqs_of n r fun v hv => h v (.tail _ hv))
theorem Circ.veqs (h : Circ w hn m T C S cs os) (n : Nat) : VEqs H (n + 3) (cs.map cellV) (cs.map cellV) := by
 refine veqs_of _ _ fun v hv => ?_
 obtain ⟨c, hc, rfl⟩ := List.mem_map.mp hv
 obtain ⟨e1, e2⟩ := h.eqs (H := H) hc
 exact .tup (.cons (.str e1) (.cons (.int _) (.cons (.tup (veqs_ints _ _)) (.cons (e2 _) .nil))))
theorem v_law35 {nb np ns nf ng : Nat} (h : Circ w hn m T C S cs os) (hr : R27 ρ nb np ns nf ng rows) (hp : Hp H cnt (inPorts w) os cs hd fr kn b nb np ns) (q : B (.ret (.bool true)) ρ H) : law_35 ρ H B := by
 unfold law_35
 simp only [zk10, zk43, zk37, zk60, nm hr.r.r.s3, zk61]
 obtain ⟨vi, vo, hN⟩ := hp.ls.bn.net
 obtain ⟨vs, hvs, hvR⟩ := hp.ports
 obtain ⟨us, hus, huR⟩ := hp.shown
 refine hN.a_cells.mpr ?_
 simp only [zk38, nm hr.r.r.s9, zk39]
 refine eq_ref 19 rfl hN.cel hp.ls.placed (h.veqs 16) ?_
 simp only [zk44, tru_bool, zk45, zk43, zk37, zk60, nm hr.r.r.s3, zk61, zk11, if_true]
 refine hN.a_inputs.mpr ?_
 simp only [zk38, nm hr.r.s20, zk39]
 refine eq_ref 19 rfl hN.inp hvs (veqs_ports 17 hN.inpR hvR (inPorts_ok w)) ?_
 simp only [zk44, tru_bool, zk45, zk37, zk60, nm hr.r.r.s3, zk61, zk11, if_true]
 refine hN.a_outputs.mpr ?_
 simp only [zk38, nm hr.r.s21, zk39]
 exact eq_ref 19 rfl hN.out hus (veqs_ports 17 hN.outR huR (osOk_str h.oOk)) q
end
end Mine
end
section
open PySem
set_option maxRecDepth 100000
namespace Mine
section
variable {H : List AO} {Q : V → List AO → Prop} {ρ : Rho} {B : Fl → Rho → List AO → Prop} {w hn m T : Nat} {C S cs : List Cell} {os : Ports} {cnt : Int} {hd fr kn : List Int} {b fx G : ID} {rows : Nat}
noncomputable def dueP (hd : List Int) (fx : ID) (o : Int) : Bool := hd.any (· == o) && !(lk fx o).isSome
noncomputable def dueV (hd : List Int) (fx : ID) (v : V) : Bool := match v with | .tup (_ :: .int o :: _) => dueP hd fx o | _ => false
theorem Circ.due (h : Circ w hn m T C S cs os) : (cs.filter fun c => dueP (newNets (3 + w) hn) fx c.out) = cs.filter fun c => c.st && (lk fx c.out).isNone := by
 apply List.filter_congr
 intro c hc
 have e : (newNets (3 + w) hn).any (· == c.out) = c.st := by
  rcases h.mem.mp hc with e | e
  ·rw [(h.inC e).1, List.any_eq_false]
   intro x hx ex
   rw [beq_iff_eq] at ex; subst ex
   obtain ⟨i, hi⟩ := List.mem_iff_getElem?.mp hx
   have hil := (List.getElem?_eq_some_iff.mp hi).1
   rw [newNets_len] at hil
   rw [newNets_get hil] at hi
   have := Option.some.inj hi
   have := (h.inC e).2.2.1
   have := h.hm
   lia
  ·rw [(h.inS e).1, List.any_eq_true]
   obtain ⟨i, hi⟩ := List.mem_iff_getElem?.mp e
   exact ⟨c.out, List.mem_of_getElem? (h.sOk i c hi).1, by simp⟩
 unfold dueP
 rw [e]
 cases lk fx c.out <;> rfl
theorem getD_of {ρ : Rho} {i : Nat} {v : V} (h : ρ[i]? = some (some v)) : ρ.getD i none = some v := by rw [List.getD_eq_getElem?_getD, h]; rfl
noncomputable def sliceV (c : Cell) : V := .tup [.str c.kind, .int c.out, c.par]
noncomputable def sliceE : EW := binW .Add (uptoW (nameW 1) 2) (fromW (nameW 1) 3)
theorem c_slices {k : Nat} {L : List Cell} {Q : List V → List AO → Prop} {ρc : Rho} (hk : H[k]? = some (.list (L.map cellV))) (hl : L.length ≤ 900) (hρ : ∃ o, ρc = [none, o]) (q : Q (L.map sliceV) H) :
  compLoopW (Src.ok (.list k (L.map cellV))) (nameA 1) (trueTW true) sliceE (Src.items (.list k (L.map cellV))) ρc H [] Q := by
 refine comp_m (fun ρ => ∃ o, ρ = [none, o]) (fun H' => H' = H) (fun v => match v with | .tup [k, o, _, p] => .tup [k, o, p] | v => v) ?_ ?_ ?_ ?_ hρ rfl (by rw [Src.items, List.length_map]; exact hl)
 ·rintro v ρ ⟨o, rfl⟩; exact ⟨some v, rfl⟩
 ·rintro H' rfl; exact hk
 ·rintro v hv ρ H₁ K ⟨o, rfl⟩ rfl hq
  obtain ⟨c, hc, rfl⟩ := List.mem_map.mp hv
  unfold sliceE
  unfold cellV at hq ⊢
  simp only [List.set_cons_succ, List.set_cons_zero, zk62, zk110, nameS_p, name0_p, zk111, zk63, zk113, zk114, zk64]
  refine ⟨Nat.le_of_ble_eq_true rfl, Nat.le_of_ble_eq_true rfl, by decide, Nat.le_of_ble_eq_true rfl, Nat.le_of_ble_eq_true rfl, ?_⟩
  rw [bin_addt]
  exact ⟨by simp, by simp, by simp, hq _ rfl⟩
 ·rintro H₁ rfl
  have e : (Src.items (Src.list k (L.map cellV))).map (fun v => match v with | .tup [k, o, _, p] => V.tup [k, o, p] | v => v) = L.map sliceV := by
   rw [Src.items, List.map_map]; rfl
  rw [e]; exact q
theorem v_law34 {nb np ns nf ng n' j ji jo jc kO kN : Nat} {vi vo : List V} {cs2 : List Cell} {rep inv dO dN : ID} {R : List Nat} {σ : Int → Nat} (h : Circ w hn m T C S cs os) (hg : Fx m fx) (hr : R27 ρ nb np ns nf ng rows) (hp : Hp H cnt (inPorts w) os cs (newNets (3 + w) hn) fr kn b nb np ns) (hfx : H[nf]? = some (DI fx))
  (g22 : ρ[22]? = some (some (.ref n'))) (g30 : ρ[30]? = some (some (.ref kO))) (g31 : ρ[31]? = some (some (.ref kN)))
  (hN : NetR H n' cnt (inPorts w) (rebPorts rep (rebPorts fx os)) (rebCells rep cs2) j ji jo jc vi vo) (hFo : Folded (rebCells fx cs) cs2 rep R inv) (hdO : H[kO]? = some (DI dO)) (hdN : H[kN]? = some (DI dN))
  (known : ∀ n : Int, 0 ≤ n → n < ((m + 2 + T : Nat) : Int) → lk dO n = some (σ n : Int) ∧ lk dN (Mine.fin rep (Mine.fin fx n)) = some (σ n : Int))
  (q : ∀ ρ' H', R27 ρ' nb np ns nf ng rows → Hp H' cnt (inPorts w) os cs (newNets (3 + w) hn) fr kn b nb np ns → B .next ρ' H') : seqBW law_31 (seqBW law_32 (seqBW law_33 law_34)) ρ H B := by
 have hcl := h.cl
 unfold law_31
 simp only [zk4_, zk12, zk115, zk83, nm hr.r.r.s9, zk84, zk116]
 refine ⟨_, hp.ls.placed, ?_⟩
 refine comp_fm (fun ρ => ∃ o, ρ = [none, o, some (.ref nf), some (.ref 14)]) (fun H' => H' = H) (dueV (newNets (3 + w) hn) fx) id ?_ ?_ _ [] ?_ ?_ ?_ ⟨none, ?_⟩ rfl (by rw [Src.items, List.length_map]; simp; exact oq37 hcl)
 ·rintro v ρ ⟨o, rfl⟩; exact ⟨some v, rfl⟩
 ·rintro H' rfl; exact hp.ls.placed
 ·rintro v hv ρ H' T ⟨o, rfl⟩ rfl hT
  obtain ⟨c, hc, rfl⟩ := List.mem_map.mp hv
  simp only [List.set_cons_succ, List.set_cons_zero, zk23, zk27, zk57, nameS_p, name0_p, zk58, constW_p, zk59]
  refine cell1.mpr ?_
  refine .inr ⟨_, hp.ls.held, ?_⟩
  simp only [zk30, tru_bool, zk24, zk23, zk27, zk57, nameS_p, name0_p, zk58, constW_p, zk59]
  have hT' : T (dueP (newNets (3 + w) hn) fx c.out) H' := hT _ rfl
  unfold dueP at hT'
  cases hh : (newNets (3 + w) hn).any (· == c.out) with
  | false => rw [hh, Bool.false_and] at hT'; rw [if_neg (by decide)]; exact hT'
  | true =>
   rw [if_pos rfl]
   refine cell1.mpr ?_
   refine nin_DI hfx ?_
   simp only [zk30, tru_bool, zk24, trueTW_p]
   rw [hh, Bool.true_and] at hT'
   cases hz : (!(lk fx c.out).isSome) with
   | true => rw [hz] at hT'; rw [if_pos rfl]; exact hT'
   | false => rw [hz] at hT'; rw [if_neg (by decide)]; exact hT'
 ·rintro v hv _ ρ H' K ⟨o, rfl⟩ rfl hq
  simp only [List.set_cons_succ, List.set_cons_zero, nameS_p, name0_p]
  exact hq _ rfl
 rotate_left
 ·show [none, none, ρ.getD 26 none, ρ.getD 6 none] = _
  rw [getD_of hr.s26, getD_of hr.r.r.s6]
 rintro H' rfl
 have e1 : [] ++ ((Src.items (Src.list 19 (cs.map cellV))).filter (dueV (newNets (3 + w) hn) fx)).map id = (cs.filter fun c => c.st && (lk fx c.out).isNone).map cellV := by
  rw [List.nil_append, List.map_id, Src.items, List.filter_map, ← h.due]; rfl
 rw [e1]
 have hduel : (cs.filter fun c => c.st && (lk fx c.out).isNone).length ≤ cs.length := List.length_filter_le ..
 have hdueS : ∀ c ∈ (cs.filter fun c => c.st && (lk fx c.out).isNone), c ∈ cs ∧ c.st = true := fun c hc => by
  rw [List.mem_filter, Bool.and_eq_true] at hc; exact ⟨hc.1, hc.2.1⟩
 have hkept := h.kept hg hFo
 generalize (cs.filter fun c => c.st && (lk fx c.out).isNone) = due at hduel hdueS hkept ⊢
 simp only [zk117, zk13, na, ↓vf12]
 have hr1 := hr.set (k := 32) (.inl (by decide)) (some (.ref H'.length))
 have a22 : (ρ.set 32 (some (.ref H'.length)))[22]? = some (some (.ref n')) := rs_ne (by decide) g22
 have a30 : (ρ.set 32 (some (.ref H'.length)))[30]? = some (some (.ref kO)) := rs_ne (by decide) g30
 have a31 : (ρ.set 32 (some (.ref H'.length)))[31]? = some (some (.ref kN)) := rs_ne (by decide) g31
 have a32 : (ρ.set 32 (some (.ref H'.length)))[32]? = some (some (.ref H'.length)) := rs_eq (by rw [hr.r.r.len]; decide)
 generalize ρ.set 32 (some (.ref H'.length)) = ρ1 at hr1 a22 a30 a31 a32 ⊢
 have hK1 := Keep.app H' [AO.list (due.map cellV)]
 have hdue : (H' ++ [AO.list (due.map cellV)])[H'.length]? = some (.list (due.map cellV)) := app_get
 generalize H'.length = kd at a32 hdue ⊢
 replace hp := hp.keep hK1
 replace hN := hN.keep hK1
 replace hdO := hK1 _ _ hdO
 replace hdN := hK1 _ _ hdN
 generalize H' ++ [AO.list (due.map cellV)] = H1 at hp hN hdO hdN hdue ⊢
 unfold law_32
 simp only [zk4_, zk12, zk55, zk52, nm a22, ↓vf5, zk56]
 have hcF : (rebCells rep cs2).length ≤ 900 := by
  have e1 : (rebCells rep cs2).length ≤ cs2.length := by unfold rebCells; rw [List.length_map]; exact List.length_filter_le ..
  have e2 : (rebCells fx cs).length ≤ cs.length := by unfold rebCells; rw [List.length_map]; exact List.length_filter_le ..
  have := hFo.fi.len
  lia
 refine c_law_held hN hcF ?_
 rw [hkept]
 simp only [zk13, na, ↓vf12]
 have hr2 := hr1.set (k := 33) (.inl (by decide)) (some (.ref H1.length))
 have b30 : (ρ1.set 33 (some (.ref H1.length)))[30]? = some (some (.ref kO)) := rs_ne (by decide) a30
 have b31 : (ρ1.set 33 (some (.ref H1.length)))[31]? = some (some (.ref kN)) := rs_ne (by decide) a31
 have b32 : (ρ1.set 33 (some (.ref H1.length)))[32]? = some (some (.ref kd)) := rs_ne (by decide) a32
 have b33 : (ρ1.set 33 (some (.ref H1.length)))[33]? = some (some (.ref H1.length)) := rs_eq (by rw [hr1.r.r.len]; decide)
 generalize ρ1.set 33 (some (.ref H1.length)) = ρ2 at hr2 b30 b31 b32 b33 ⊢
 generalize hkl : (due.map fun c => rebCell rep (rebCell fx c)) = kept
 have hK2 := Keep.app H1 [AO.list (kept.map cellV)]
 have hkk : (H1 ++ [AO.list (kept.map cellV)])[H1.length]? = some (.list (kept.map cellV)) := app_get
 generalize H1.length = kk at b33 hkk ⊢
 replace hp := hp.keep hK2
 replace hdO := hK2 _ _ hdO
 replace hdN := hK2 _ _ hdN
 replace hdue := hK2 _ _ hdue
 generalize H1 ++ [AO.list (kept.map cellV)] = H2 at hp hdO hdN hdue hkk ⊢
 have hkeptl : kept.length = due.length := by rw [← hkl, List.length_map]
 unfold law_33
 simp only [zk4_, zk8, zk27, zk115, zk83, nm b33, zk84, zk116]
 refine ⟨_, hkk, ?_⟩
 refine c_slices hkk (by lia) ⟨none, rfl⟩ ?_
 have hK3 := Keep.app H2 [AO.list (kept.map sliceV)]
 simp only [zk117, zk28, zk115, zk83, nm b32, zk84, zk116]
 refine ⟨_, hK3 _ _ hdue, ?_⟩
 refine c_slices (hK3 _ _ hdue) (by lia) ⟨none, rfl⟩ ?_
 have hK4 := Keep.app (H2 ++ [AO.list (kept.map sliceV)]) [AO.list (due.map sliceV)]
 have es : kept.map sliceV = due.map sliceV := by rw [← hkl, List.map_map]; rfl
 refine neq_ref 19 rfl (hK4 _ _ app_get) app_get ?_ ?_
 ·rw [es]
  refine veqs_of _ _ fun v hv => ?_
  obtain ⟨c, hc, rfl⟩ := List.mem_map.mp hv
  obtain ⟨q1, q2⟩ := h.eqs (H := H2 ++ [AO.list (due.map sliceV)] ++ [AO.list (due.map sliceV)]) (hdueS c hc).1
  exact .tup (.cons (.str q1) (.cons (.int _) (.cons (q2 17) .nil)))
 simp only [↓vf14, zk9, Bool.false_eq_true, nextBW_p, zk5, if_false]
 have hK34 := hK3.trans hK4
 replace hp := hp.keep hK34
 replace hdO := hK34 _ _ hdO
 replace hdN := hK34 _ _ hdN
 replace hdue := hK34 _ _ hdue
 replace hkk := hK34 _ _ hkk
 generalize H2 ++ [AO.list (kept.map sliceV)] ++ [AO.list (due.map sliceV)] = H3 at hp hdO hdN hdue hkk ⊢
 unfold law_34
 simp only [zk17, zk81, zk52, zk55, nm b32, ↓vf5, zk56]
 rw [len_ref hdue, List.length_map]
 refine ⟨by lia, ?_⟩
 refine ⟨by exact om1 _, by lia, ?_⟩
 refine range_inv rfl (fun i ρ H' => An6 (R27 ρ nb np ns nf ng rows) (ρ[30]? = some (some (.ref kO))) (ρ[31]? = some (some (.ref kN))) (ρ[32]? = some (some (.ref kd))) (ρ[33]? = some (some (.ref kk))) (Keep H3 H')) ?_ ?_ ?_
 ·exact ⟨hr2, b30, b31, b32, b33, .refl _⟩
 ·rintro i hi ρ H' B' ⟨hr, b30, b31, b32, b33, hK⟩ hB
  have hr3 := hr.set (k := 28) (.inl (by decide)) (some (.int (i : Nat)))
  have d28 : (ρ.set 28 (some (.int (i : Nat))))[28]? = some (some (.int (i : Nat))) := rs_eq (by rw [hr.r.r.len]; decide)
  have d30 : (ρ.set 28 (some (.int (i : Nat))))[30]? = some (some (.ref kO)) := rs_ne (by decide) b30
  have d31 : (ρ.set 28 (some (.int (i : Nat))))[31]? = some (some (.ref kN)) := rs_ne (by decide) b31
  have d32 : (ρ.set 28 (some (.int (i : Nat))))[32]? = some (some (.ref kd)) := rs_ne (by decide) b32
  have d33 : (ρ.set 28 (some (.int (i : Nat))))[33]? = some (some (.ref kk)) := rs_ne (by decide) b33
  simp only [zk19, na, zk20]
  generalize ρ.set 28 (some (.int (i : Nat))) = ρ3 at hr3 d28 d30 d31 d32 d33 ⊢
  have hci : due[i]? = some due[i] := List.getElem?_eq_getElem hi
  have hcm := List.getElem_mem hi
  generalize due[i] = c at hci hcm
  have hki : kept[i]? = some (rebCell rep (rebCell fx c)) := by rw [← hkl, List.getElem?_map, hci]; rfl
  obtain ⟨hcc, hcst⟩ := hdueS c hcm
  have hS := h.inS (h.state hcc hcst)
  simp only [zk4_, zk8, zk27, zk115, zk83, zk57, nm d33, zk58, nm d28, zk59]
  refine (get_cell (hK _ _ hkk) hki (by exact oq41 hi hduel hcl)).mpr (cell2.mpr ?_)
  have eins : (rebCell rep (rebCell fx c)).ins = c.ins.map fun x => Mine.fin rep (Mine.fin fx x) := by
   show (c.ins.map (Mine.fin fx)).map (Mine.fin rep) = _
   rw [List.map_map]; rfl
  rw [eins]
  refine comp_m (fun ρ => ∃ o, ρ = [none, o, some (.ref kN)]) (fun H'' => H'' = H') (fun v => match v with | .int n => .int ((lk dN n).getD (-1)) | v => v) ?_ (fun _ _ => trivial) ?_ ?_ ⟨none, ?_⟩ rfl (by rw [Src.items, List.length_map, List.length_map]; lia)
  ·rintro v ρ ⟨o, rfl⟩; exact ⟨some v, rfl⟩
  ·rintro v hv ρ H'' K ⟨o, rfl⟩ rfl hq
   obtain ⟨x, hx, rfl⟩ := List.mem_map.mp hv
   simp only [List.set_cons_succ, List.set_cons_zero, zk94, nameS_p, name0_p, zk95, zk96, neg_const_p, zk97]
   refine ⟨_, hK _ _ hdN, _, _, rfl, hK _ _ hdN, ?_⟩
   rw [dg]
   exact hq _ rfl
  rotate_left
  ·show [none, none, ρ3.getD 31 none] = _
   rw [getD_of d31]
  rintro H'' rfl
  have eN : (Src.items (Src.tup ((c.ins.map fun x => Mine.fin rep (Mine.fin fx x)).map V.int))).map (fun v => match v with | .int n => V.int ((lk dN n).getD (-1)) | v => v) = (c.ins.map fun x => (σ x : Int)).map V.int := by
   rw [Src.items, List.map_map, List.map_map, List.map_map]
   apply List.map_congr_left
   intro x hx
   have := hS.2.2.2.2 x hx
   simp only [Function.comp]
   rw [(known x this.1 this.2).2]; rfl
  rw [eN]
  have hK5 := Keep.app H'' [AO.list ((c.ins.map fun x => (σ x : Int)).map V.int)]
  simp only [zk117, zk28, zk115, zk83, zk57, nm d32, zk58, nm d28, zk59]
  refine (get_cell (hK5 _ _ (hK _ _ hdue)) hci (by exact oq41 hi hduel hcl)).mpr (cell2.mpr ?_)
  refine comp_m (fun ρ => ∃ o, ρ = [none, o, some (.ref kO)]) (fun H₆ => H₆ = H'' ++ [AO.list ((c.ins.map fun x => (σ x : Int)).map V.int)]) (fun v => match v with | .int n => .int (σ n : Int) | v => v) ?_ (fun _ _ => trivial) ?_ ?_ ⟨none, ?_⟩ rfl (by rw [Src.items, List.length_map]; lia)
  ·rintro v ρ ⟨o, rfl⟩; exact ⟨some v, rfl⟩
  ·rintro v hv ρ H₆ K ⟨o, rfl⟩ rfl hq
   obtain ⟨x, hx, rfl⟩ := List.mem_map.mp hv
   have := hS.2.2.2.2 x hx
   simp only [List.set_cons_succ, List.set_cons_zero, zk57, nameS_p, name0_p, zk58, zk59]
   refine (get_DI (hK5 _ _ (hK _ _ hdO)) (known x this.1 this.2).1).mpr ?_
   exact hq _ rfl
  rotate_left
  ·show [none, none, ρ3.getD 30 none] = _
   rw [getD_of d30]
  rintro H₆ rfl
  have eO : (Src.items (Src.tup (c.ins.map V.int))).map (fun v => match v with | .int n => V.int (σ n : Int) | v => v) = (c.ins.map fun x => (σ x : Int)).map V.int := by
   rw [Src.items, List.map_map, List.map_map]; rfl
  rw [eO]
  refine neq_ref 19 rfl ((Keep.app _ _) _ _ app_get) app_get (veqs_ints _ _) ?_
  simp only [↓vf14, zk9, Bool.false_eq_true, nextBW_p, zk5, if_false]
  exact (hB _ _ ⟨hr3, d30, d31, d32, d33, (hK.trans hK5).trans (Keep.app _ _)⟩).1
 ·rintro ρ H' ⟨hr, b30, b31, b32, b33, hK⟩
  exact q ρ H' hr (hp.keep hK)
end
theorem seq_assoc {a b c : BW} : seqBW a (seqBW b c) = seqBW (seqBW a b) c := by
 funext ρ H B
 unfold seqBW
 congr 1
 funext f ρ' H'
 cases f <;> rfl
end Mine
end
section
open PySem
set_option maxRecDepth 100000
namespace Mine
theorem law_split (zs : List Int) : bw_law zs = seqBW (law_0 zs) (seqBW law_1 (seqBW law_2 (seqBW law_3 (seqBW law_4 (seqBW law_5 (seqBW law_6 (seqBW law_7 (seqBW law_8
  (seqBW law_9 (seqBW law_10 (seqBW law_11 (seqBW law_12 (seqBW law_13 (seqBW (seqBW law_14 law_15) (seqBW (seqBW law_16 law_17) (seqBW (seqBW law_18 (seqBW law_19 (seqBW law_20 law_21))) (seqBW (seqBW law_22 (seqBW law_23 (seqBW law_24 (seqBW law_25 law_26))))
  (seqBW (seqBW law_27 (seqBW law_28 (seqBW law_29 law_30))) (seqBW (seqBW law_31 (seqBW law_32 (seqBW law_33 law_34))) (seqBW law_35 nextBW)))))))))))))))))))) := by
 unfold bw_law
 simp only [← seq_assoc]
theorem lawVC : LawVC := by
 intro zs hz
 rw [law_split]
 refine v_head hz fun ρ H w hn hw1 hw3 hh hr hs => ?_
 have hcnt : (3 : Int) + w + hn = ((w + 1 + hn + 2 : Nat) : Int) := by lia
 rw [hcnt] at hs
 rw [seqBW_p]
 refine v_law9 (m := w + 1 + hn) (by exact oq42 hw3 hh) hr hs fun T ρ H C hT hCl hC hr hs => ?_
 simp only [seqBW_p (p := law_10)]
 refine v_law10 (N := w + 1 + hn + 2 + T) (by exact oq43) (by exact oq44 hw3 hh hT) hr hs fun ρ H os hos hosl hr hs => ?_
 simp only [seqBW_p (p := law_11)]
 refine v_law11 (N := w + 1 + hn + 2 + T) (by exact oq43) (by exact oq44 hw3 hh hT) (by exact om9 hCl hT rfl) (by rw [newNets_len]; exact hh) hr hs fun ρ H S hS hSl hr hs => ?_
 rw [newNets_len] at hSl
 simp only [seqBW_p (p := law_12)]
 refine v_law12 (by rw [List.length_append]; exact oq45 hCl hSl hT hh) hr hs fun H cs hcs hs => ?_
 have hcsl : cs.length ≤ 900 := by
  rcases hcs with e | e
  ·rw [e, List.length_append]; exact oq45 hCl hSl hT hh
  ·rw [e, List.length_reverse, List.length_append]; exact oq45 hCl hSl hT hh
 have hc : Circ w hn (w + 1 + hn) T C S cs os := ⟨hw1, hw3, hh, rfl, hT, hCl, hSl, hC, hS, hcs, hos, hosl⟩
 simp only [seqBW_p (p := law_13)]
 refine v_law13 hcsl hr hs fun ρ H hr hs => ?_
 have hil := inPorts_len hw3
 rw [seqBW_p]
 refine v_law15 (by exact oq42 hw3 hh) hr hs fun ρ H nb b hb hr g19 hnb hbb hs => ?_
 simp only [seqBW_p (p := seqBW law_16 law_17)]
 refine v_law17 hr g19 hnb hbb hs hil.1 (by exact om12 hosl rfl) hil.2 (osOk_len hos) fun ρ H np ns hr hp => ?_
 simp only [seqBW_p (p := seqBW law_18 (seqBW law_19 (seqBW law_20 law_21)))]
 refine v_law21 hc hb hr hp fun ρ H hr hp => ?_
 simp only [seqBW_p (p := seqBW law_22 (seqBW law_23 (seqBW law_24 (seqBW law_25 law_26))))]
 refine v_law26 (by exact oq42 hw3 hh) hb hr hp fun ρ H nf ng fx G hr hp hfx hG hF => ?_
 simp only [seqBW_p (p := seqBW law_27 (seqBW law_28 (seqBW law_29 law_30)))]
 refine v_law30 hc hb hF hr hp hfx hG fun ρ H n' j ji jo jc vi vo cs2 rep R inv σ dO dN kO kN hr hp hfx g22 g30 g31 hN hFo hdO hdN known => ?_
 simp only [seqBW_p (p := seqBW law_31 (seqBW law_32 (seqBW law_33 law_34)))]
 refine v_law34 hc (hF.fixed hb) hr hp hfx g22 g30 g31 hN hFo hdO hdN known fun ρ H hr hp => ?_
 simp only [seqBW_p (p := law_35)]
 refine v_law35 hc hr hp ?_
 exact ⟨rfl, false, hp.ls.tab⟩
end Mine
end
theorem PySem.Challenge.cw_sj0050_01_holds : PySem.Challenge.rw_sj0050_01.Holds :=
 Mine.hd2 Mine.lawVC
